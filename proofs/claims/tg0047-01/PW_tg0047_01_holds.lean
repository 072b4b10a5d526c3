import PyProof.Rows.All
import KE.BytesMake
import KE.KxBytes
import KE.BytesMulAny
import PyProof.ZipIter
import Wide.All
import OpenK.KLine
import PyProof.NeKinds
import Wide.FinOn
import OpenK.AllK
import Open.Split
import Lean
import PySem.Challenge.RW_tg0047_01
set_option Elab.async false
set_option maxRecDepth 100000
set_option linter.all false
set_option compiler.extract_closed false
set_option bootstrap.genMatcherCode false
set_option genInjectivity false
set_option genSizeOf false
set_option backward.match.sparseCases false
set_option tactic.hygienic false
open And renaming imp_right→PZ
open Array renaming length_toList→NC,getElem?_toList→Om,getElem?_eq_some_iff→O4,getD_eq_getD_getElem?→P8,getElem?_eq_getElem→Qp,toList_inj→Q9,eq_empty_of_size_eq_zero→Ru,mem_toList_iff→RI,toArray_toList→RN,getElem?_setIfInBounds→RR,replicate→Ui,mk→Wg
open Bool renaming false→Mh,true→Mj,and_eq_true_iff→MR,and_eq_true→Of,false_ne_true→O3,or_eq_false_iff→Qb,false_eq_true→QI,or_true→Q3,noConfusion→TA,not_eq_true→TC
open Classical renaming byContradiction→O8,em→Sf
open Decidable renaming decide→M3
open Exists renaming imp→Vk
open ForInStep renaming yield→QB
open Iff renaming rfl→Pm
open Inhabited renaming default→UW
open Int renaming natCast_nonneg→Mt,toNat_of_nonneg→MF,toNat_natCast→MO,eq_ofNat_of_zero_le→MX,self_le_toNat→Ni,emod_lt_of_pos→Nj,mul_assoc→Nl,le_of_lt→Nm,mul_le_mul_of_nonneg_left→Nt,emod_nonneg→Nw,pow_succ→NM,pow_pos→NV,mul_comm→NY,pow_zero→Oa,ediv_nonneg→Ob,lt_of_le_of_lt→Ou,sub_nonneg_of_le→ON,le_trans→OV,ediv_one→OZ,toNat→Pb,mul_le_mul_of_nonneg_right→Px,one_mul→Pz,add_zero→PF,lt_of_lt_of_le→PJ,le_refl→QM,not_lt→Q7,mul_one→RB,zero_add→Sb,ofNat_lt→Sd,not_le→Sq,add_mul→Ta,pow_add→Tj,emod_eq_of_lt→Tn,add_assoc→To,sub_zero→Ud,ediv_eq_zero_of_lt→Ue,natCast_add→Uj,add_nonneg→Us,natAbs_of_nonneg→Ut,sub_nonpos_of_le→UI,toNat_of_nonpos→U0,sub_eq_add_neg→Vb,sub_add_cancel→Vg,zero_mul→Vl,ofNat_le→Vm,neg_mul→VP
open List renaming length_map→Mu,getD_eq_getElem?_getD→Mx,getElem?_eq_getElem→MH,length_append→MI,getElem?_eq_some_iff→ML,getElem?_map→MM,mem_singleton→MN,mem_of_getElem?→MP,mem_cons→MT,mem_cons_self→MU,mem_cons_of_mem→MV,length_cons→MW,getElem?_append_right→MZ,getElem?_eq_none→M0,getElem?_append_left→M8,replicate→M9,length_singleton→Nh,map_cons→Nn,getElem?_range→Nv,mem_map_of_mem→NB,mem_map→NF,append_nil→NG,append_assoc→NJ,length_range→NK,all_eq_true→NU,length_replicate→NX,map_append→Od,drop_eq_getElem_cons→Oh,range→Oi,size_toArray→Oj,mem_append→Oq,lookup_cons→Ox,nodup_cons→OF,zip_cons_cons→OI,length_take→OJ,contains_cons→OK,map_map→OY,length_nil→Pd,length_drop→Po,eq_nil_of_length_eq_zero→PC,lookup_append→PI,take_of_length_le→PM,foldl_cons→PO,find?_cons→PW,any_cons→PX,reverse_cons→P5,getElem?_of_mem→Qg,isEmpty_iff→Qn,getElem?_zip_eq_some→Qo,getElem?_eq_none_iff→Qr,map_congr_left→Qt,getElem?_drop→QE,getElem?_take→QL,getElem?_cons_succ→QO,getElem?_replicate→QQ,drop_eq_nil_of_le→QW,map_fst_zip→Rg,all_cons→Rv,map_take→Rx,mem_of_mem_take→RO,take_succ_cons→R8,mapM_cons→SQ,mem_filterMap→SR,drop_zero→SV,ext_getElem?→Th,foldl_append→Ti,map_drop→Tz,head_eq_of_cons_eq→TG,any_eq_true→TH,not_mem_nil→TP,drop_length→TU,getElem_mem→TX,of_mem_zip→Uk,take_append_drop→Up,mem_append_right→Uq,nodup_nil→UB,map_eq_cons_iff→UH,forall_mem_cons→UM,replicate_succ→UY,map_eq_nil_iff→UZ,length_pos_iff→U4,find?_eq_none→Vh,any_eq_false→Vr,nodup_append→Vt,getElem?_set→Vy,take_add_one→VA,length→VQ,foldl→V7
open List.cons renaming inj→Wh
open Nat renaming sub_add_cancel→Mf,le_add_left→Ms,le_refl→MD,le_of_ble_eq_true→MG,lt_succ_self→Na,zero_le→Nc,ne_of_lt→Nf,le_trans→Nk,le_of_lt→Nq,sub_self→Nr,lt_succ_of_lt→NZ,le_add_right→Og,zero_add→Oo,le_of_eq→Ot,le_sub_of_add_le→Ow,min_le_left→OS,pow_le_pow_right→Ph,ne_of_beq_eq_false→PD,ble→PE,not_lt→PG,beq→P4,le_succ→Qf,ne_of_gt→Qi,add_le_add_left→Qs,not_lt_zero→Qz,lt_of_le_of_ne→QJ,mul_comm→QT,lt_trans→Q0,eq_of_beq_eq_true→Q6,le_of_not_lt→Rf,succ_le_succ→Rh,lt_irrefl→Rz,two_pow_add_eq_or_of_lt→Sn,lt_of_le_of_lt→Sr,one_le_two_pow→SS,lt_or_gt_of_ne→SU,add_mul_mod_self_left→SW,min_le_right→TV,pow_succ→TZ,le_antisymm→Uh,sub_le_iff_le_add→Ul,sub_eq_zero_of_le→Um,sub_min_sub_right→Uo,add_mul_div_left→Ur,mul_le_mul_right→Uu,log2_lt→UL,mul_le_mul_left→U3,add_assoc→U6,add_sub_cancel→Vi,sub_zero→Vu,add_zero→VB,blt→VY,sub_le→V9
open Nat.succ renaming inj→Sh
open Ne renaming symm→Qj
open Option renaming some→Md,none→Mr,bind_eq_some_iff→Mz,map_eq_some_iff→MQ,bind_some→NI,isSome_iff_exists→NT,isNone_iff_eq_none→Pa,map_some→Pc,eq_none_iff_forall_ne_some→QR,map_eq_none_iff→T7,bind_eq_bind→U5,noConfusion→Va,pure_def→VW
open Option.some renaming inj→MJ
open Or renaming elim→Pl
open Prod renaming fst→RC,snd→Vn,ext→We
open Prod.mk renaming inj→VV
open Pure renaming pure→NO
open PyProof.Rows renaming call_isinstance_yes→R7,subscriptTail→Tp,tail_any→TQ
open PySem renaming Value→Me,wpAny_bind→Mg,model→Mk,Addr→Ml,Shared→Mn,wpAny→My,wpAny_pure→MC,Expr→MY,builtinLookup_eq_fast→Nb,Str→Np,wpAny_of_eq→Nu,mainGlobals→Nz,typeLookup_type→NH,sizeLine_eq→NL,wpAny_mono→NN,isSubtype_type→NP,checkBuiltinCall→NS,eval→NW,wpAny_loadPart_at→N9,bm_if_false→Ol,Heap→Oy,wpAny_holding→Oz,behindInMarks→OA,wpAny_specialOf→OG,call→OH,starEach→OM,Stmt→OO,wpAny_callSpecial?_slot→OQ,letOwnedTupleGo→OR,standAt→OW,swapsWithSole→O0,swappedStores→O1,Scope→O2,recursionLimit→O5,OsState→O6,World→O7,Around→O9,wpAny_newObj_type→Pe,excClassObj→Pg,Result→Pj,holding→Pn,wpAny_call_entry→Pr,codeAny_call_builtin→Pt,callEnvC→Pu,treeTable→Pw,wpAny_rule→Py,exec→P0,wpAny_pyIter_list→P6,Obj→P9,entryFor→Qa,execs→Qc,builtinsNs→Qd,typeLookup→Qe,wpAny_execs_nil→Qh,compareOp→Qk,entryFor_of_tree→Ql,wpAny_isInstance→Qm,wpAny_isSubtype_exc→Qu,wpAny_execs_cons→Qv,Pos→Qw,importedModules→Qy,spliced→QA,isTrue→QC,pyNext→QD,wpAny_load→QG,wpAny_setField_rec→QK,markedBehindIn_of_false→QN,isSubtype→QP,wpAny_standAt→QS,callWith→QU,foldedSetIterable→QV,getMethod_builtin→QX,wpAny_pyNext_list_item→QZ,call_isinstance→Q4,wpAny_pyNext_list_end→Q5,DictEntry→Ra,backTo→Rb,assign→Rc,noteFrame→Rd,getMethod→Rk,isInstance→Rl,assignInOrder→Rw,methodCallPos→Ry,Operator→RG,NameKind→RM,leftWithCleanup_false_of_bare→RP,theTreesLotGoes→RQ,Thread→RU,leftWithCleanup→RV,Sem→RW,Model→RX,any_of_findIdx_some→RY,Program→R9,intKind→Se,getAttr→Si,callSpecial?→Sj,bootBuiltins→Sk,callEnv→Sl,letTemporaryGo→Ss,FuncData→Su,sizeLine→Sw,intKind_is→Sy,argsOk→Sz,wpAny_Constant_int→SJ,wpAny_Constant_str→SK,assignEach→SN,wpAny_seqItems→SP,interactive→Tb,wpAny_sequenceKey→Td,slot_list_getitem→Te,wpAny_field→Tg,wpAny_release→Tq,pyIter→Tr,table→TB,wpAny_lookBehind→TF,slot_list_append→TR,Flow→T8,sysModules→Ua,stored→Ub,Tok→Ug,wpAny_ite_false→Un,bindName→Uv,unsupported→Uw,BoolOp→Ux,newTuple→Uy,wpAny_mkInt→UD,wpAny_letGo→UE,compTurn→UJ,swapsWith→UN,inplaceOp→UO,leaving→UP,setItem→UR,evalPairs→US,cellsFrom→UT,callerA→UU,Code→UX,wpAt_of_wpAny→U2,wpAny_point→U7,CmpOp→U8,ExceptHandler→U9,typeIs_int→Vc,call_meets→Vd,typeOf→Ve,wpAny_Name→Vf,evalArgs→Vp,setAttr→Vq,wpAny_typeOf→Vs,Env→VD,storeName→VE,Arguments→VF,seqIndex?→VI,denote→VK,outcomeOf→VL,codeAny→VR,again→VS,allTrue→VZ,BindsTo→V0,strKind→V5,cLine→Wb,rawInt→Wd
open PySem.Around renaming under_plainId→RE
open PySem.AutoListH renaming list_append_list_val_0→QY
open PySem.Builtin renaming bitOr→Oc,bitAnd→OB,bitNot→Wf
open PySem.Builtin.Bytes renaming buffer?→P2,checkResize→Qq,takeBufferQuiet?→Ro,write→RZ,bindOptional→SA,fullReadOnly→SD,takeBuffer?→SX,subscript?→Tv,ownRelease→Tw,exportsOf→TJ,byteValue→TL,slotIsOwn→TM,exported→Uc
open PySem.Builtin.Bytes.exported renaming match_1→VH
open PySem.Builtin.Int renaming intBits→OU
open PySem.Builtin.Range renaming rangeSize→Nd,small→U1
open PySem.Calls renaming spliced_cons→Vx
open PySem.Challenge renaming pw_tg0047_01→M7,rw_tg0047_01→Oe
open PySem.Code renaming quiet_builtin→QH,compLoop→Tt,builtin→Vo
open PySem.DictEntry renaming refKey→VG
open PySem.Env renaming kindOf→SH
open PySem.F renaming excBase_ValueError→M4,store_ValueError→OL,bm_called→RL,slot_range_iterator_iter→SO,args_object_init_2→UG
open PySem.Heap renaming get?_push_of_some→ME,get?_push_size→MS,get?_update_self→Ng,lt_size→NA,SameBut→ND,size_push→OC,get?_update_ne→OT,get?_none_of_le→UK,get?_push_at→Vw,IsList→VU
open PySem.Heap.IsList renaming push→TS
open PySem.Heap.SameBut renaming update→OE
open PySem.NameKind renaming free→Ts
open PySem.Obj renaming putNameByArray→QF,putName→RK,putName_eq→Sv,mapBytearray→TK,mapSeq→Wa
open PySem.Sem renaming wp_mono→RD
open PySem.SeqAt.EqAt renaming same→VJ
open PySem.Shared renaming forget_eq→VN,heap→VT
open PySem.Str renaming ofString→OX
open PySem.Value renaming ref→MK,int→OD,str→Q8,type→TY
open PySem.W renaming findIn→Ov,boot_heap→OP,looks_findIn→PH,Frag→PQ,SharedT→P7,any_some→Qx,emptyDict→Rq,boot_drawn→Rt,topStub→RA,instObj→Sm,boot_toks→So,typeIs_bytes→SY,plainGet_of→Tc,InstAt→Uz,specialIn→UQ,look_both→VC,hideAll→V6,Looks→V8
open PySem.W.KBy renaming special_eq→UC
open PySem.W.WData renaming layableAll→VM
open PySem.W.WShape renaming hasItems→VX
open PySem.W.WTm renaming holds→VO
open PySem.callAny renaming viaDunder→Vv
open Subtype renaming val→UA
open UInt8 renaming ofNat→PB,toNat_ofNat'→Vj,ofNat_toNat→Vz
namespace Internal
noncomputable abbrev Kv:Nat:=0x84908a10c200034d415109685a275216094142313fa041318
noncomputable abbrev Kw:Nat:=0x21242384200530961142000298b5215a748a28d0ae09bb4b228472168fd4150f
noncomputable abbrev Kx:Nat:=0x1080004ea0a07d4130f
noncomputable abbrev Ky:Nat:=0x2100009c210013a28468d1c8a11c151c
noncomputable abbrev Kz:Nat:=0x847084007a11c20001e800000000000000010526fa1200910124fa1200cd027c88678408f28
noncomputable abbrev KA:Nat:=0x109325164a1c9400081ac822413219685a275216094142313fa041318
noncomputable abbrev KB:Nat:=0x2100009d4140fa88267b1c
noncomputable abbrev KC:Nat:=0x2124238420053096114200029d50944a505443521689d4150f
noncomputable abbrev KD:Nat:=0x422842003d2828212a128954140f
noncomputable abbrev KG:Nat:=0x210c20001e981008c080b982c0818
noncomputable abbrev KH:Nat:=0x863080007a6ac11423826e3369ab04141c
noncomputable abbrev KI:Nat:=0x843080003f2040760401d30830f702029
noncomputable abbrev KJ:Nat:=0x4200013a01988d0230f
noncomputable abbrev KK:Nat:=0x420001390c4134210c841413
noncomputable abbrev KL:Nat:=0x10ce10c2000299508e342b826ed38e104a8469328e1041318
noncomputable abbrev KM:Nat:=0x845080007a5504cfa3b2a120950230f
noncomputable abbrev KN:Nat:=0x861084007af0507c080b
noncomputable abbrev KO:Nat:=0x849086100014c000000000000000082936a0a87fa1200a11926e290f
noncomputable abbrev KP:Nat:=0x845080007aa2099f472a01989d0230f
noncomputable abbrev KQ:Nat:=0x28c5461840005b50503e0a1189fd04102df408bd03482de75841
noncomputable abbrev KR:Nat:=0x42000139ab04508e09b8cda6ac15104cf6e336
noncomputable abbrev KS:Nat:=0x108a10800f484141390a128ad4140f
noncomputable abbrev KT:Nat:=0x2114218400053282a215216094142313c41310
noncomputable abbrev KU:Nat:=0x2108009c20001388af8ab9ab7151ad4150f
noncomputable abbrev KV:Nat:=0x108610000f464422578c16781dbcc16711c
noncomputable abbrev KW:Nat:=0x108e10800f423840003d000000000000000020a4df424009104810773cc88678408f28
noncomputable abbrev KX:Nat:=0x2108009c200013d48571423826e538d48575104cf6e538
noncomputable abbrev KY:Nat:=0x8420027080004e242b8a11c13729bc48575104cf6e537
noncomputable abbrev KZ:Nat:=0x84908a100014ca2099f476a242b4a8fd40331380c0c
noncomputable abbrev K0:Nat:=0x4012180240005d0000001049340000004884a600000000100122480083167c066
noncomputable abbrev K1:Nat:=0x843080007aa504d0a3b28118954140f
noncomputable abbrev K2:Nat:=0x4210013fc2208fc1012e6700020819
noncomputable abbrev K3:Nat:=0x4200013860002786a0104c7f0d402e28b8107f3a
noncomputable abbrev K4:Nat:=0x108e10000f424842003d2d508d2a41af2e45b8a89efaf2e456413d4150f
noncomputable abbrev K5:Nat:=0x210c20001e8c000000380aa7fffffffc4723059e1227fffffffc472093a
noncomputable abbrev K6:Nat:=0x845080007af04571ea963463f142315f041314
noncomputable abbrev K7:Nat:=0x1080004ff08823f0404b99c080b
noncomputable abbrev K8:Nat:=0x108a10000f404118101dca60a0a
noncomputable abbrev K9:Nat:=0x2108009ff88220417ca60020916
noncomputable abbrev La:Nat:=0x210c20001ebc141f8100750230f
noncomputable abbrev Lb:Nat:=0x84708a100014de20d390e411069c7104150b
noncomputable abbrev Lc:Nat:=0x518a8c308000b6a0a07c142313fa08205be81117a06905bceb7c04e
noncomputable abbrev Ld:Nat:=0x421001384000275053094508e0a0e54150f
noncomputable abbrev Le:Nat:=0x423842003d08a10000f4a2099f476bc112e4556c88d20a11c151e
noncomputable abbrev Lf:Nat:=0x86708a100014ea42ba12904a098854130f
noncomputable abbrev Lg:Nat:=0x80245086100018c8101d1810094080b8c004c08d1905e0c0848
noncomputable abbrev Lj:Nat:=0x1080004e108009c508fc61ddc546578a11f8c3b901954150f
noncomputable abbrev Lk:Nat:=0x8200005a81187d00790231f
noncomputable abbrev Lm:Nat:=0x843080007aa0987ff0a118c40041417
noncomputable abbrev Lo:Nat:=0x211421840005328a09a347f5424c2b168572159154130f
noncomputable abbrev Lq:Nat:=0x108610000f4fa1200cd027f424010410fa12004c1a702f
noncomputable abbrev Lr:Nat:=0x2100009f083104d064dc2088267b25
noncomputable abbrev Ls:Nat:=0x211420001e950930aca0a8854130f
noncomputable abbrev Lv:Nat:=0x2180009c45f117314082f
noncomputable abbrev Lw:Nat:=0x8200005a0405e00f0081b
noncomputable abbrev Lx:Nat:=0x84908a100014ca2099f476a242b4a8fd403313a02b10
noncomputable abbrev Lz:Nat:=0x108a10000f6b8e846a1207de090f
noncomputable abbrev LC:Nat:=0x432840003d51215c13759554140f
noncomputable abbrev LL:Nat:=0x43000138827e30ec082c
noncomputable abbrev LT:Nat:=0x2100009d0158850230f
noncomputable abbrev L9:Nat:=0x8400027084004f71507de0a0f
noncomputable abbrev Mo:Nat:=0x1080004ea1187d7b8b4081f
noncomputable abbrev Mq:Nat:=0x2100009c413803b1fb02b10
noncomputable abbrev Mw:Nat:=0x2100009c413803b1f80c0c
noncomputable abbrev IC:Nat:=478409942388
noncomputable abbrev ID:Nat:=7811903007710342259
noncomputable abbrev IF:Nat:=8101821151424638830
noncomputable abbrev IG:Nat:=491328333172
noncomputable abbrev II:Nat:=1667591276
noncomputable abbrev IJ:Nat:=545072425038954818007668
noncomputable abbrev IK:Nat:=9146023581206380571204396348020
noncomputable abbrev IL:Nat:=8589278192035828674408812212852
noncomputable abbrev IM:Nat:=439855772532
noncomputable abbrev IN:Nat:=516904535068771937772392
noncomputable abbrev IO:Nat:=135954355373633446092104044
noncomputable abbrev IP:Nat:=2074498830791665084782
noncomputable abbrev IQ:Nat:=531071700667243336131685
noncomputable abbrev IR:Nat:=531071700678238368396392
noncomputable abbrev IS:Nat:=34804314975073700411903730533
noncomputable abbrev IT:Nat:=2074498830778596877160
noncomputable abbrev IU:Nat:=469440048988838611215211
noncomputable abbrev IV:Nat:=30765223050532538237080532072
noncomputable abbrev IW:Nat:=8666030464842607823535046157684
noncomputable abbrev IX:Nat:=24948
noncomputable abbrev IY:Nat:=122472945251443
noncomputable abbrev IZ:Nat:=1718185068
noncomputable abbrev I4:Nat:=6449524
noncomputable abbrev I5:Nat:=1953654117
noncomputable abbrev I6:Nat:=32199706527560549
noncomputable abbrev I7:Nat:=495672977012
noncomputable abbrev I8:Nat:=1936292453
noncomputable abbrev I9:Nat:=427071729268
noncomputable abbrev Ly:Nat:=119182682386036
noncomputable abbrev LF:Nat:=109300196926309
noncomputable abbrev Lu:Nat:=1751738216
noncomputable abbrev LD:Nat:=7106423
noncomputable abbrev LX:Nat:=2074066214764707540595
noncomputable abbrev Mc:Nat:=418430674798
noncomputable abbrev LV:Nat:=7598521919695250280
noncomputable abbrev Jh:Nat:=115944243488112
noncomputable abbrev Ji:Nat:=29681726332956720
noncomputable abbrev Jj:Nat:=32635403235551006971998989927
noncomputable abbrev Jk:Nat:=29681726332956721
noncomputable abbrev Jl:Nat:=29681726332956722
noncomputable abbrev Jm:Nat:=30510822341240947
noncomputable abbrev Jn:Nat:=482956243059
noncomputable abbrev Jo:Nat:=138296575362156071497263219
noncomputable abbrev Jp:Nat:=495740482675
noncomputable abbrev Jq:Nat:=32493203083583852
noncomputable abbrev Jr:Nat:=7499639
noncomputable abbrev Js:Nat:=120265298896228
noncomputable abbrev Jt:Nat:=120325193165939
noncomputable abbrev Ju:Nat:=1836020596
noncomputable abbrev Jv:Nat:=482854658917
noncomputable abbrev Jw:Nat:=1919250547
noncomputable abbrev Jx:Nat:=495873782885
noncomputable abbrev Jy:Nat:=131294707347319
noncomputable abbrev Jz:Nat:=131333279212914
noncomputable abbrev JA:Nat:=1919512167
noncomputable abbrev JB:Nat:=1936748404
noncomputable abbrev JC:Nat:=1668244581
noncomputable abbrev JD:Nat:=1684108385
noncomputable abbrev JE:Nat:=1936744814
noncomputable abbrev JF:Nat:=495873782388
noncomputable abbrev JG:Nat:=426835667045
noncomputable abbrev JH:Nat:=109317377451364
noncomputable abbrev JI:Nat:=1751477348
noncomputable abbrev JJ:Nat:=1835099237
noncomputable abbrev JK:Nat:=107135549927012
noncomputable abbrev JL:Nat:=464737208989178820785256
noncomputable abbrev JM:Nat:=1936026726
noncomputable abbrev JN:Nat:=452823639416
noncomputable abbrev JO:Nat:=470020285804
noncomputable abbrev JP:Nat:=121450625394034
noncomputable abbrev JQ:Nat:=119182899770472
noncomputable abbrev JR:Nat:=1936486260
noncomputable abbrev JS:Nat:=435812594273
noncomputable abbrev JT:Nat:=7235441220035437413
noncomputable abbrev JU:Nat:=1650553701
noncomputable abbrev JV:Nat:=108187649798757
noncomputable abbrev JW:Nat:=125779751232882
noncomputable abbrev JX:Nat:=439956631140
noncomputable abbrev JY:Nat:=1919251316
noncomputable abbrev JZ:Nat:=6583653
noncomputable abbrev Lh:Nat:=1937007984
noncomputable abbrev Ka:Nat:=30787924973348196
noncomputable abbrev Kb:Nat:=1852793957
noncomputable abbrev Kc:Nat:=495874044019
noncomputable abbrev Kd:Nat:=508440638821
noncomputable abbrev Ke:Nat:=422776761956
noncomputable abbrev Kh:Nat:=126870958469236
noncomputable abbrev Ki:Nat:=6971762
noncomputable abbrev Kj:Nat:=512853240933
noncomputable abbrev Kk:Nat:=1650549611
noncomputable abbrev Kl:Nat:=1802071652
noncomputable abbrev Km:Nat:=1885434484
noncomputable abbrev Kn:Nat:=1952807028
noncomputable abbrev Ko:Nat:=31632277023061107
noncomputable abbrev Kq:Nat:=422608071022
noncomputable abbrev Kr:Nat:=482854660462
noncomputable abbrev Ks:Nat:=2003395685
noncomputable abbrev Ku:Nat:=461330343027
inductive An(a b:Prop):Prop where
 |intro(x:a)(y:b)
inductive bM{α:Sort u}{β:Sort v}(P:α->β->Prop):Prop where
 |intro(x:α)(y:β)(h:P x y)
inductive nW{α:Sort u}{β:Sort v}{γ:Sort w}(P:α->β->γ->Prop):Prop where
 |intro(x:α)(y:β)(z:γ)(h:P x y z)
inductive yt{α:Sort u}{β:Sort v}{γ:Sort w}{δ:Sort x}(P:α->β->γ->δ->Prop):Prop where
 |intro(x:α)(y:β)(z:γ)(w:δ)(h:P x y z w)
theorem ae{α:Sort u}{P:α->Prop}{G:Prop}(h:∃x,P x)(q:∀x,P x->G):G:=h.elim q
theorem bI{α:Sort u}{β:Sort v}{P:α->β->Prop}{G:Prop}(h:bM P)(q:∀x y,P x y->G):G:=h.rec q
theorem ga{α:Sort u}{β:Sort v}{γ:Sort w}{P:α->β->γ->Prop}{G:Prop}(h:nW P)(q:∀x y z,P x y z->G):G:=h.rec q
theorem vr{α:Sort u}{β:Sort v}{γ:Sort w}{δ:Sort x}{P:α->β->γ->δ->Prop}{G:Prop}(h:yt P)(q:∀x y z w,P x y z w->G):G:=h.rec q
variable{a b:Prop}
theorem an(h:a/\b):An a b:=⟨h.1,h.2⟩
theorem An.and(h:An a b):a/\b:=⟨h.1,h.2⟩
theorem An.imp{c d:Prop}(h:An a b)(f:a->c)(g:b->d):An c d:=⟨f h.1,g h.2⟩
@[elab_as_elim]theorem rwl{α:Sort u}{a:α}{P:α->Prop}{b:α}(h:a=b)(x:P b):P a:=h▸x
@[elab_as_elim]theorem rwr{α:Sort u}{a:α}{P:α->Prop}{b:α}(h:b=a)(x:P b):P a:=h▸x
variable{P:Prop}
theorem cft(h:Mh=Mj):P:=TA h
theorem ctf(h:Mj=Mh):P:=TA h
theorem cns{α:Type u}{x:α}(h:Mr=Md x):P:=Va rfl (heq_of_eq h)
theorem csn{α:Type u}{x:α}(h:Md x=Mr):P:=Va rfl (heq_of_eq h)
theorem cnc{α:Type u}{x:α}{l:List α}(h:[]=x::l):P:=List.noConfusion rfl (heq_of_eq h)
theorem ccn{α:Type u}{x:α}{l:List α}(h:x::l=[]):P:=List.noConfusion rfl (heq_of_eq h)
theorem cvv{a b:Me}(h:a=b)(q:P4 a.ctorIdx b.ctorIdx=Mh):P:=absurd (congrArg PySem.Value.ctorIdx h) (PD q)
theorem An.cg{c d:Prop}(h:a↔c)(k:b↔d):An a b↔An c d:=⟨λz=>⟨h.mp z.1,k.mp z.2⟩,λz=>⟨h.mpr z.1,k.mpr z.2⟩⟩
theorem qm{c:Prop}:An (An a b) c↔An a (An b c):=⟨λz=>⟨z.1.1,z.1.2,z.2⟩,λz=>⟨⟨z.1,z.2.1⟩,z.2.2⟩⟩
variable{p:Prop}
theorem odt{i:Decidable p}(h:@M3 p i=Mj):p:=@of_decide_eq_true p i h
noncomputable def Ea[Decidable a][Decidable b]:Decidable (An a b):=decidable_of_iff (a/\b) ⟨an,An.and⟩
def evA (k:Nat) (n:String) (s:List Lean.Syntax):List Lean.Syntax:=.node .none n.toName (s.take k).reverse.toArray::s.drop k
def evB (n:Lean.Name) (s:List Lean.Syntax):List Lean.Syntax:=.ident .none "".toRawSubstring n []::s
def evC (a:List Lean.Syntax) (c f:Nat) (r:String) (s:List Lean.Syntax):List Lean.Syntax:=match f with
 |44=>.atom .none r::s
 |39=>evB r.toName s
 |45=>evB (.num r.toName c) s
 |36=>a.getD r.length .missing::s
 |33=>evA 1 "Lean.Parser.Tactic.tacticSeq" (evA 1 "Lean.Parser.Tactic.tacticSeq1Indented" s)
 |63=>evA 2 "Lean.Parser.Term.syntheticHole" (.atom .none "_"::.atom .none "?"::s)
 |_=>evA (f%16) ((if f<64 then "Lean.Parser.Tactic." else if f<96 then "" else "Lean.Parser.Term.")++r) s
def ev (a:List Lean.Syntax) (e:String):Lean.MacroM Lean.Syntax:=λc s=>.ok (((e.splitOn " ").foldl (λs t=>Internal.evC a c.currMacroScope t.front.toNat (String.ofList t.toList.tail) s) []).headD .missing) s
local macro_rules (kind:=Lean.Parser.Tactic.tacticHave__) | s=>if s[2][0][0][0].isIdent&&s[2][0][1].getNumArgs+s[2][0][2].getNumArgs==0 then Internal.ev [s[2][0][0][0],s[2][0][4]] ",( ,refine ,( ' AhygieneInfo bhygienicLParen ? ,: ,_ ahole ,→ ,_ ahole carrow Anull ,) etypeAscription $$ Anull bapp 2refine ,; ,intro $ Anull 2intro Cnull ! ,) 3paren" else Lean.Macro.throwUnsupported
local macro_rules (kind:=«term_∧_») | s=>Internal.ev [s[0],s[2]] "'Internal.An $ $$ B bapp"
local macro_rules (kind:=Lean.Parser.Tactic.rewriteSeq) | s=>if s[3].getNumArgs > 0 then Lean.Macro.throwUnsupported else if s[2][1].getNumArgs > 1 then Internal.ev [s.setArg 2 (s[2].setArg 1 (.node .none `null (s[2][1].getArgs.extract 0 1))),s.setArg 2 (s[2].setArg 1 (.node .none `null (s[2][1].getArgs.extract 2)))] ",( $ ,; $$ Cnull ! ,) 3paren" else Internal.ev [s[2][1][0][1]] (if s[2][1][0][0].getNumArgs > 0 then ",( ,first ,| ,refine 'Internal.rwr ,( ' AhygieneInfo bhygienicLParen $ ,.. aellipsis Anull bapp ,) cparen ? Bnull bapp 2refine Anull ! Bgroup ,| ,fail @null 2fail Anull ! Bgroup Bnull 2first Anull ! ,) 3paren" else ",( ,first ,| ,refine 'Internal.rwl ,( ' AhygieneInfo bhygienicLParen $ ,.. aellipsis Anull bapp ,) cparen ? Bnull bapp 2refine Anull ! Bgroup ,| ,refine 'Internal.rwl ,( ' AhygieneInfo bhygienicLParen 'propext ,( ' AhygieneInfo bhygienicLParen $ ,.. aellipsis Anull bapp ,) cparen Anull bapp ,) cparen ? Bnull bapp 2refine Anull ! Bgroup ,| ,fail @null 2fail Anull ! Bgroup Cnull 2first Anull ! ,) 3paren")
local macro_rules (kind:=Lean.Parser.Tactic.cases) | s=>if s[1].getNumArgs==1&&s[2].getNumArgs+s[3].getNumArgs==0&&s[1][0][1].isIdent then Internal.ev [s[1][0][1]] ",( ,first ,| ,with_reducible ,exact 'Internal.cns $ Anull bapp 2exact Anull ! 2withReducible Anull ! Bgroup ,| ,with_reducible ,exact 'Internal.csn $ Anull bapp 2exact Anull ! 2withReducible Anull ! Bgroup ,| ,with_reducible ,exact 'Internal.cft $ Anull bapp 2exact Anull ! 2withReducible Anull ! Bgroup ,| ,with_reducible ,exact 'Internal.ctf $ Anull bapp 2exact Anull ! 2withReducible Anull ! Bgroup ,| ,with_reducible ,exact 'Internal.cnc $ Anull bapp 2exact Anull ! 2withReducible Anull ! Bgroup ,| ,with_reducible ,exact 'Internal.ccn $ Anull bapp 2exact Anull ! 2withReducible Anull ! Bgroup ,| ,exact 'Internal.cvv $ 'rfl Bnull bapp 2exact Anull ! Bgroup ,| ,exact 'Internal.cns $ Anull bapp 2exact Anull ! Bgroup ,| ,exact 'Internal.cft $ Anull bapp 2exact Anull ! Bgroup ,| ,exact 'Internal.csn $ Anull bapp 2exact Anull ! Bgroup ,| ,exact 'Internal.ctf $ Anull bapp 2exact Anull ! Bgroup ,| ,fail @null 2fail Anull ! Bgroup Lnull 2first Anull ! ,) 3paren" else Lean.Macro.throwUnsupported
open PySem PySem.Calls PyProof.Rows PySem.W
section
open PySem.Challenge
noncomputable def qP:Program:=view M7 [87]
noncomputable def sG:List Str:=M7.boundNames
noncomputable def A4:List Str:=Qy M7.main.body
theorem Iq:opening M7=plainProg M7.main.scope.names:=by kernel_rfl
theorem C8(s:Mn):fenceModules? M7 s=Md s:=by kernel_rfl
theorem HX(w:O7):An ((OP w.params).isNs Nz=Mj) (An ((OP w.params).objs.size=11) ((OP w.params).nsMap Nz "__annotations__"=Md (.ref 6))):=⟨by kernel_rfl,by kernel_rfl,by kernel_rfl⟩
theorem Gf:bM λd kwd=>defOf qP Oe.name=Md (d,kwd)/\Oe.prog.theDef Oe.name=Md (d.params,d.body,d.scope)/\kwWritten? d.params.kwonlyargs d.params.kw_defaults=Md kwd:=⟨_,_,rfl,rfl,rfl⟩
theorem Ie:(chainsOk qP&&opensWell Oe.prog&&(frees Oe.row.toRowW&&Oe.row.within.isEmpty))=true:=by decide +kernel
theorem abh:Oe.prog.bare:=⟨rfl,rfl,rfl,rfl,rfl,by decide +kernel⟩
theorem E2:Oe.row.toRowW.promised:=RowW.promised_of_found (by decide +kernel)
set_option maxHeartbeats 4000000 in
theorem BR:looksOpen Oe.row.prog=true:=by
 unfold looksOpen;repeat' with_reducible apply VC
 all_goals decide +kernel
set_option maxHeartbeats 4000000 in
theorem abg:Oe.row.partSaid=true:=by
 unfold OpenRow.partSaid;repeat' with_reducible apply VC
 ·exact BR
 all_goals decide +kernel
set_option maxHeartbeats 4000000 in
theorem Gu:Oe.row.wellSaid=true:=by
 unfold OpenRow.wellSaid;repeat' with_reducible apply VC
 ·exact abg
 all_goals decide +kernel
set_option maxHeartbeats 4000000 in
theorem DG:Oe.wellSaid=true:=by
 unfold OpenLaw.wellSaid;repeat' with_reducible apply VC
 ·exact Gu
 all_goals decide +kernel
end
variable{a b:Nat}
theorem lp{n:Nat}(h:a<=n)(e:PE (b+1) a=Mj):b<=n-1:=Ow (Nk (MG e) h)
theorem lq{n:Nat}(h:a<=n)(e:PE b a=Mj):b<=n:=Nk (MG e) h
theorem Gb{a0 a1 a2 a3 a4 a5 a6:Prop}(h:a0/\a1/\a2/\a3/\a4/\a5/\a6)(q:a0->a1->a2->a3->a4->a5->a6->p):p:=by exact q h.1 h.2.1 h.2.2.1 h.2.2.2.1 h.2.2.2.2.1 h.2.2.2.2.2.1 h.2.2.2.2.2.2
variable{t0:Type}
theorem Bt{a0 a1 a2 a3 a4:t0->Prop}(h:∃x0,a0 x0/\a1 x0/\a2 x0/\a3 x0/\a4 x0)(q:∀x0,a0 x0->a1 x0->a2 x0->a3 x0->a4 x0->p):p:=by refine ae h λx0 z3=>?_;exact q x0 z3.1 z3.2.1 z3.2.2.1 z3.2.2.2.1 z3.2.2.2.2
variable{t1:Type}
theorem DB{t2:Type}{a0 a1 a2 a3 a4 a5:t0->t1->t2->Prop}(h:nW λx0 x1 x2=>a0 x0 x1 x2/\a1 x0 x1 x2/\a2 x0 x1 x2/\a3 x0 x1 x2/\a4 x0 x1 x2/\a5 x0 x1 x2)(q:∀x0 x1 x2,a0 x0 x1 x2->a1 x0 x1 x2->a2 x0 x1 x2->a3 x0 x1 x2->a4 x0 x1 x2->a5 x0 x1 x2->p):p:=by refine ga h λx0 x1 x2 z2=>?_;exact q x0 x1 x2 z2.1 z2.2.1 z2.2.2.1 z2.2.2.2.1 z2.2.2.2.2.1 z2.2.2.2.2.2
theorem FV{t2 t3:Type}{a0 a1 a2 a3 a4 a5:t0->t1->t2->t3->Prop}(h:yt λx0 x1 x2 x3=>a0 x0 x1 x2 x3/\a1 x0 x1 x2 x3/\a2 x0 x1 x2 x3/\a3 x0 x1 x2 x3/\a4 x0 x1 x2 x3/\a5 x0 x1 x2 x3)(q:∀x0 x1 x2 x3,a0 x0 x1 x2 x3->a1 x0 x1 x2 x3->a2 x0 x1 x2 x3->a3 x0 x1 x2 x3->a4 x0 x1 x2 x3->a5 x0 x1 x2 x3->p):p:=by refine vr h λx0 x1 x2 x3 z1=>?_;exact q x0 x1 x2 x3 z1.1 z1.2.1 z1.2.2.1 z1.2.2.2.1 z1.2.2.2.2.1 z1.2.2.2.2.2
noncomputable def Cp:List (Nat×List (Nat×Nat)):=[(159,[(6872327479327219551,135),(26845041950351199,142),(115298485004486023744151391,149),(115298706365414908258770783,156)]),
 (209,[(6872327479327219551,185),(IC,192),(ID,199),(IF,206)]),
 (293,[(6872327479327219551,283),(IG,290)]),
 (349,[(6872327479327219551,311),(IG,318),(II,325),(IJ,332),(IK,339),(IL,346)]),
 (407,[(6872327479327219551,369),(IG,376),(IM,383),(7697253,390),(7370100,397),(1668247673,404)]),
 (576,[(6872327479327219551,461),(138296631136979081289102437,468),(112628846781812,475),(123563851081060,482),(8672219036227208731128255966309,489),(516904535068724860776302,496),(IN,503),(7887337266063239540,510),(33551867937639955759409423728,517),(516535667469631416984944,524),(2110238271504539477368,531),(8243118248232772976,538),(2036453570056394401136,545),(1886151033,552),(7501166,559),(8672219036227639976003883069028,566),(115944242638436,573)]),
 (696,[(6872327479327219551,630),(IO,637),(IP,644),(IQ,651),(IR,658),(IS,665),(IT,672),(2074498830761634063736,679),(31654340069582192,686),(2074498830804483797620,693)]),
 (822,[(6872327479327219551,714),(138296631136979081289102437,721),(138296631136979068269978469,728),(123563851081060,735),(IU,742),(IV,749),(30515246123868524,756),(469786452840,763),(7497072,770),(495673373300,777),(7308889606288667243,784),(IW,791),(121390560203838061138636646,798),(564072139095822583489904,805),(144402467608530581373415539,812),(36967031707783833182647380334,819),(IO,637),(IP,644),(IQ,651),(IR,658),(IS,665),(IT,672),(2074498830761634063736,679),(31654340069582192,686),(2074498830804483797620,693)]),
 (905,[(6872327479327219551,838),(427020345714,845),(7370100,860),(1717921124,867),(1852138852,874),(IX,881),(1668247673,888),(IY,895),(121382073889652,902)]),
 (1011,[(6872327479327219551,945),(IC,952),(1970496868,959),(1818584692,966),(435643770212,973),(IZ,980),(I4,987),(110404053590900,994),(I5,1001),(I6,1008)]),
 (1095,[(6872327479327219551,1029),(I7,1036),(IZ,1043),(2036448204439583483246,1050),(I4,1057),(110404053590900,1064),(I5,1071),(I6,1078),(I8,1085),(1685024357,1092)])]
noncomputable def mt(C c:Nat):Option Nat:=(Cp.lookup C).bind λl=>l.lookup c
noncomputable def Ec:List (Nat×List (Nat×Nat)):=[(905,[(1751217765,852)])]
noncomputable def pt(C c:Nat):Option Nat:=(Ec.lookup C).bind λl=>l.lookup c
noncomputable def zf:List (Nat×List Nat):=[(159,[I9,Ly]),
 (209,[27747,27760,28770]),
 (293,[LF,Lu,LD,7170404,LX]),
 (349,[Mc,LV,Jh,Ji,Jj,Jk,Jl,Jm,ID,Jn,Jo,Jp,Jq]),
 (407,[Jr]),
 (576,[Js,Jt,Ju,Jv,Jw,Jx,Jy]),
 (696,[Jt,Jz]),
 (822,[Jt,Jv,Jw,Jx,Jz]),
 (905,[JA,I8,JB,500086104428]),
 (1011,[JC,JD,Jv,JE,JF,1937010544]),
 (1095,[JG,JH,JI,LD,JJ,JE])]
noncomputable def Ay(C c:Nat):Bool:=((zf.lookup C).getD []).contains c
noncomputable def tE:List Nat:=[21,159,170,209,220,227,234,241,248,255,262,269,293,349,407,418,425,432,439,446,576,588,595,602,609,616,696,822,905,916,923,930,1011,1095,1106,1113,1120,1127,1134,1141,1148,1153,1160,1167,1174,1179,1184,1189]
noncomputable def Zh(a:Nat):Bool:=tE.contains a
theorem js:mt 159 6872327479327219551=Md 135:=by decide
theorem jZ:mt 159 26845041950351199=Md 142:=by decide
theorem cL:mt 159 115298485004486023744151391=Md 149:=by decide
theorem cM:mt 159 115298706365414908258770783=Md 156:=by decide
theorem i8:mt 209 6872327479327219551=Md 185:=by decide
theorem ey:mt 293 6872327479327219551=Md 283:=by decide
theorem iK:mt 349 6872327479327219551=Md 311:=by decide
theorem jU:mt 407 6872327479327219551=Md 369:=by decide
theorem dU:mt 576 6872327479327219551=Md 461:=by decide
theorem fD:mt 822 6872327479327219551=Md 714:=by decide
theorem iS:mt 905 6872327479327219551=Md 838:=by decide
theorem eO:mt 1011 6872327479327219551=Md 945:=by decide
theorem eN:mt 1095 6872327479327219551=Md 1029:=by decide
inductive LE where
 |k(n:Nat)
 |x(i:Nat)
 |v(i:Nat)
 |add(a b:LE)
 |mul(a b:LE)
 |sub(a b:LE)
 |neg(a:LE)
 |nat(a:LE)
inductive LR where
 |r(o:Nat)(a b:LE)
 |no(r:LR)
 |an(r s:LR)
noncomputable def la(c:Nat):Nat:=(c >>> 9)%2^((c >>> 3)%64)
noncomputable def lb(c:Nat):Nat:=c >>> 9 >>> ((c >>> 3)%64)
noncomputable def dE:Nat->Nat->LE
 |0,_=>.k 0
 |f+1,c=>match c%8 with
  |0=>.k (c >>> 3)
  |1=>.x (c >>> 3)
  |2=>.v (c >>> 3)
  |3=>.add (dE f (la c)) (dE f (lb c))
  |4=>.mul (dE f (la c)) (dE f (lb c))
  |5=>.sub (dE f (la c)) (dE f (lb c))
  |6=>.neg (dE f (c >>> 3))
  |_=>.nat (dE f (c >>> 3))
noncomputable def dR:Nat->Nat->LR
 |0,_=>.r 0 (.k 0) (.k 0)
 |f+1,c=>match c%8 with
  |6=>.no (dR f (c >>> 3))
  |7=>.an (dR f (la c)) (dR f (lb c))
  |o=>.r o (dE 20 (la c)) (dE 20 (lb c))
noncomputable def vN(ns:List Nat):LE->Nat
 |.k n=>n
 |.v i=>ns.getD i 0
 |.add a b=>vN ns a+vN ns b
 |.mul a b=>vN ns a*vN ns b
 |_=>0
noncomputable def vI(xs:List Int)(ns:List Nat):LE->Int
 |.k n=>@OfNat.ofNat Int n (@instOfNat n)
 |.x i=>xs.getD i 0
 |.v _=>0
 |.add a b=>vI xs ns a+vI xs ns b
 |.mul a b=>vI xs ns a*vI xs ns b
 |.sub a b=>vI xs ns a-vI xs ns b
 |.neg a=>- vI xs ns a
 |.nat a=>(vN ns a:Int)
noncomputable def vQ(xs:List Int)(ns:List Nat)(a b:LE):Nat->Prop
 |0=>vI xs ns a<=vI xs ns b
 |1=>vI xs ns a<vI xs ns b
 |2=>vI xs ns a=vI xs ns b
 |3=>vN ns a<=vN ns b
 |4=>vN ns a<vN ns b
 |_=>vN ns a=vN ns b
noncomputable def vR(xs:List Int)(ns:List Nat):LR->Prop
 |.r o a b=>vQ xs ns a b o
 |.no r=>¬vR xs ns r
 |.an r s=>vR xs ns r/\vR xs ns s
noncomputable def lR(xs:List Int)(ns:List Nat)(c:Nat):Prop:=vR xs ns (dR 9 c)
noncomputable def mF:List Int->List Int->List Int
 |[],b=>b
 |a::as,[]=>a::as
 |a::as,b::bs=>(a+b)::mF as bs
noncomputable def lG(k:Int)(l:List Int):List Int:=l.map (k*·)
noncomputable def lU:Nat->List Int
 |0=>[1]
 |i+1=>0::lU i
noncomputable def one?:List Int->Option Int
 |[k]=>Md k
 |_=>Mr
noncomputable def lM(a b:List Int):Option (List Int):=((one? a).map (lG · b)).or ((one? b).map (lG · a))
noncomputable def lF(m:Bool):LE->Option (List Int)
 |.k n=>Md [(n:Int)]
 |.x i=>bif m then Mr else Md (lU (1+2*i))
 |.v i=>bif m then Md (lU (2+2*i)) else Mr
 |.add a b=>(lF m a).bind λa=>(lF m b).bind λb=>Md (mF a b)
 |.mul a b=>(lF m a).bind λa=>(lF m b).bind λb=>lM a b
 |.sub a b=>bif m then Mr else(lF m a).bind λa=>(lF m b).bind λb=>Md (mF a (lG (-1) b))
 |.neg a=>bif m then Mr else(lF m a).bind λa=>Md (lG (-1) a)
 |.nat a=>bif m then Mr else lF Mj a
noncomputable def dot(e:Nat->Int):Nat->List Int->Int
 |_,[]=>0
 |i,a::l=>a*e i+dot e (i+1) l
theorem dN(e:Nat->Int):∀(a b:List Int)(i:Nat),dot e i (mF a b)=dot e i a+dot e i b
 |[],b,i=>(Sb _).symm
 |a::as,[],i=>(PF _).symm
 |a::as,b::bs,i=>by show(a+b)*e i+dot e (i+1) (mF as bs)=a*e i+dot e (i+1) as+(b*e i+dot e (i+1) bs);rw[dN e as bs,Ta,To,To,Int.add_left_comm (b*e i)]
theorem dc(e:Nat->Int)(k:Int):∀(a:List Int)(i:Nat),dot e i (lG k a)=k*dot e i a
 |[],i=>(Int.mul_zero _).symm
 |a::as,i=>by show k*a*e i+dot e (i+1) (lG k as)=k*(a*e i+dot e (i+1) as);rw[dc e k as,Int.mul_add,Nl]
theorem jM(e:Nat->Int):∀(j i:Nat),dot e i (lU j)=e (i+j)
 |0,i=>by show 1*e i+0=e i;rw[Pz,PF]
 |j+1,i=>by show 0*e i+dot e (i+1) (lU j)=e (i+(j+1));rw[Vl,Sb,jM e j,U6,Nat.add_comm 1]
theorem hH(e:Nat->Int)(h:e 0=1)(k:Int):dot e 0 [k]=k:=by show k*e 0+0=k;rw[h,RB,PF]
variable{k:Int}
theorem wF{a:List Int}(h:one? a=Md k):a=[k]:=by
 match a,h with
 |[_],h=>exact congrArg (λx=>[x]) (MJ h)
variable{e:Nat->Int}
theorem AH(h:e 0=1){a b l:List Int}(hl:lM a b=Md l):dot e 0 l=dot e 0 a*dot e 0 b:=by
 rcases Option.or_eq_some_iff.mp hl with q|⟨_,q⟩<;>obtain⟨k,hk,rfl⟩:=MQ.mp q;·rw[wF hk,dc,hH e h]
 ·rw[wF hk,dc,hH e h,NY]
noncomputable def lE(xs:List Int)(ns:List Nat)(i:Nat):Int:=
 if i=0 then 1 else if i%2=1 then xs.getD (i/2) 0 else((ns.getD (i/2-1) 0:Nat):Int)
section
variable(xs:List Int)(ns:List Nat)
theorem Do:lE xs ns 0=1:=rfl
theorem Io(j:Nat):lE xs ns (0+(1+2*j))=xs.getD j 0:=by unfold lE;rw[Oo,if_neg (Qi (Nat.add_pos_left Nat.one_pos _)),SW,if_pos rfl,Ur _ _ (by decide)];show xs.getD (0+j) 0=_;rw[Oo]
theorem HF(j:Nat):lE xs ns (0+(2+2*j))=((ns.getD j 0:Nat):Int):=by unfold lE;rw[Oo,if_neg (Qi (Nat.add_pos_left Nat.two_pos _)),SW,if_neg (by decide),Ur _ _ (by decide)];show((ns.getD (1+j-1) 0:Nat):Int)=_;rw[Nat.add_sub_cancel_left]
theorem m6:∀(c:LE){l:List Int},lF Mj c=Md l->((vN ns c:Nat):Int)=dot (lE xs ns) 0 l
 |.k n,l,h=>by cases h;exact(hH _ (Do xs ns) _).symm
 |.v i,l,h=>by cases h;rw[jM,HF];rfl
 |.add a b,l,h=>by obtain⟨x,hx,h⟩:=Mz.mp h;obtain⟨y,hy,h⟩:=Mz.mp h;cases h;rw[dN,<-m6 a hx,<-m6 b hy];rfl
 |.mul a b,l,h=>by obtain⟨x,hx,h⟩:=Mz.mp h;obtain⟨y,hy,h⟩:=Mz.mp h;rw[AH (Do xs ns) h,<-m6 a hx,<-m6 b hy];rfl
 |.x _,_,h=>nomatch h
 |.sub _ _,_,h=>nomatch h
 |.neg _,_,h=>nomatch h
 |.nat _,_,h=>nomatch h
theorem jW:∀(c:LE){l:List Int},lF Mh c=Md l->vI xs ns c=dot (lE xs ns) 0 l
 |.k n,l,h=>by cases h;exact(hH _ (Do xs ns) _).symm
 |.x i,l,h=>by cases h;rw[jM,Io];rfl
 |.add a b,l,h=>by obtain⟨x,hx,h⟩:=Mz.mp h;obtain⟨y,hy,h⟩:=Mz.mp h;cases h;rw[dN,<-jW a hx,<-jW b hy];rfl
 |.mul a b,l,h=>by obtain⟨x,hx,h⟩:=Mz.mp h;obtain⟨y,hy,h⟩:=Mz.mp h;rw[AH (Do xs ns) h,<-jW a hx,<-jW b hy];rfl
 |.sub a b,l,h=>by obtain⟨x,hx,h⟩:=Mz.mp h;obtain⟨y,hy,h⟩:=Mz.mp h;cases h;rw[dN,dc,<-jW a hx,<-jW b hy,VP,Pz];exact Vb
 |.neg a,l,h=>by obtain⟨x,hx,h⟩:=Mz.mp h;cases h;rw[dc,<-jW a hx,VP,Pz];rfl
 |.nat a,l,h=>m6 xs ns a h
 |.v _,_,h=>nomatch h
end
noncomputable def df(a b:List Int)(k:Int):List Int:=mF (mF b (lG (-1) a)) [k]
noncomputable def lW(p q:List Int):Nat->Bool->Option (List (List Int))
 |0,Mh=>Md [df p q 0]
 |0,Mj=>Md [df q p (-1)]
 |1,Mh=>Md [df p q (-1)]
 |1,Mj=>Md [df q p 0]
 |_,Mh=>Md [df p q 0,df q p 0]
 |_,Mj=>Mr
noncomputable def lH(g:Bool):LR->Option (List (List Int))
 |.r o a b=>(lF (PE 3 o) a).bind λp=>(lF (PE 3 o) b).bind λq=>lW p q (bif PE 3 o then o-3 else o) g
 |.no r=>lH (!g) r
 |.an r s=>bif g then Mr else(lH Mh r).bind λx=>(lH Mh s).bind λy=>Md (x++y)
noncomputable def vq(e:Nat->Int)(L:List (List Int)):Prop:=∀v∈L,0<=dot e 0 v
variable{v:List Int}
theorem sA:vq e [v]↔0<=dot e 0 v:=⟨λh=>h v (MN.mpr rfl),λh w m=>MN.mp m▸h⟩
theorem lj{a b:List (List Int)}:vq e (a++b)↔vq e a/\vq e b:=
 ⟨λh=>⟨λv m=>h v (Oq.mpr (.inl m)),λv m=>h v (Oq.mpr (.inr m))⟩,λh v m=>(Oq.mp m).elim (h.1 v) (h.2 v)⟩
noncomputable def lC(p q:Int):Nat->Prop
 |0=>p<=q
 |1=>p<q
 |_=>p=q
theorem j1(h:e 0=1)(a b:List Int)(k:Int):dot e 0 (df a b k)=dot e 0 b-dot e 0 a+k:=by unfold df;rw[dN,dN,dc,hH e h,VP,Pz,<-Vb]
theorem Eu{p q:Int}:0<=p-q+-1↔q<p:=by omega
theorem Zv{p q:Int}:0<=p-q+0↔q<=p:=by omega
theorem CT(h:e 0=1)(p q:List Int):∀(o:Nat)(g:Bool){L:List (List Int)},lW p q o g=Md L->(vq e L↔if g then ¬lC (dot e 0 p) (dot e 0 q) o else lC (dot e 0 p) (dot e 0 q) o)
 |0,Mh,L,z=>by cases z;rw[sA,j1 h];exact Zv
 |0,Mj,L,z=>by cases z;rw[sA,j1 h];exact Eu.trans Sq.symm
 |1,Mh,L,z=>by cases z;rw[sA,j1 h];exact Eu
 |1,Mj,L,z=>by cases z;rw[sA,j1 h];exact Zv.trans Q7.symm
 |o+2,Mh,L,z=>by cases z;rw[show[df p q 0,df q p 0]=[df p q 0]++[df q p 0] from rfl,lj,sA,sA,j1 h,j1 h];exact⟨λz=>Int.le_antisymm (Zv.mp z.1) (Zv.mp z.2),λz=>⟨Zv.mpr (Int.le_of_eq z),Zv.mpr (Int.le_of_eq z.symm)⟩⟩
 |o+2,Mj,L,z=>nomatch z
variable{xs:List Int}{ns:List Nat}
theorem Bg{a b:LE}{p q:List Int}:∀(o:Nat),lF (PE 3 o) a=Md p->lF (PE 3 o) b=Md q->(lC (dot (lE xs ns) 0 p) (dot (lE xs ns) 0 q) (bif PE 3 o then o-3 else o)↔vQ xs ns a b o)
 |0,ha,hb=>by rw[<-jW xs ns a ha,<-jW xs ns b hb];exact Pm
 |1,ha,hb=>by rw[<-jW xs ns a ha,<-jW xs ns b hb];exact Pm
 |2,ha,hb=>by rw[<-jW xs ns a ha,<-jW xs ns b hb];exact Pm
 |3,ha,hb=>by rw[<-m6 xs ns a ha,<-m6 xs ns b hb];exact Vm
 |4,ha,hb=>by rw[<-m6 xs ns a ha,<-m6 xs ns b hb];exact Sd
 |o+5,ha,hb=>by rw[<-m6 xs ns a ha,<-m6 xs ns b hb];exact Int.natCast_inj
theorem mN:∀(r:LR)(g:Bool){L:List (List Int)},lH g r=Md L->(vq (lE xs ns) L↔if g then ¬vR xs ns r else vR xs ns r)
 |.r o a b,g,L,h=>by
  obtain⟨p,hp,h⟩:=Mz.mp h;obtain⟨q,hq,h⟩:=Mz.mp h;have e:=Bg (xs:=xs) (ns:=ns) o hp hq;refine(CT (Do xs ns) p q _ g h).trans ?_;cases g;·exact e
  ·exact not_congr e
 |.no r,g,L,h=>by
  refine(mN r (!g) h).trans ?_;cases g;·exact Pm
  ·exact Classical.not_not.symm
 |.an r s,Mh,L,h=>by obtain⟨p,hp,h⟩:=Mz.mp h;obtain⟨q,hq,h⟩:=Mz.mp h;cases h;exact lj.trans (An.cg (mN r Mh hp) (mN s Mh hq))
 |.an r s,Mj,L,h=>nomatch h
noncomputable def lX(H:List (List Int))(i:Nat):List Int:=bif VY i 16 then H.getD i [] else lU (2+2*(i-16))
noncomputable def lS(H:List (List Int)):Nat->Nat->List Int
 |0,_=>[]
 |f+1,c=>bif P4 c 0 then[] else mF (lG ((c >>> 10%2^(c >>> 5%32):Nat):Int) (lX H (c%32))) (lS H f (c >>> 10 >>> (c >>> 5%32)))
noncomputable def lZ(k:Int):List Int->Bool
 |[]=>M3 (-k<=0)
 |d::ds=>M3 (-k<=d)&&ds.all (·==0)
noncomputable def lK(H:List (List Int))(v:List Int)(c:Nat):Bool:=lZ ((c%256:Nat):Int) (mF (lG ((c%256+1:Nat):Int) v) (lG (-1) (lS H 20 (c >>> 8))))
noncomputable def l1(c:Nat):Nat:=(c >>> 8)%2^(c%256)
noncomputable def l2(c:Nat):Nat:=c >>> 8 >>> (c%256)
noncomputable def GA(H:List (List Int)):List (List Int)->Nat->Bool
 |[],_=>Mj
 |v::vs,c=>lK H v (l1 c)&&GA H vs (l2 c)
noncomputable def FM:List Nat->Option (List (List Int))
 |[]=>Md []
 |h::hs=>(lH Mh (dR 9 h)).bind λx=>(FM hs).bind λy=>Md (x++y)
noncomputable def lQ(hs:List Nat)(g c:Nat):Bool:=((FM hs).bind λH=>(lH Mh (dR 9 g)).bind λG=>Md (GA H G c)).getD Mh
noncomputable def FS(hs:List Nat)(c:Nat):Bool:=((FM hs).bind λH=>Md (lK H [-1] (l1 c))).getD Mh
theorem wK{o:Option Bool}(h:o.getD Mh=Mj):o=Md true:=by
 match o,h with
 |some Mj,_=>rfl
theorem qt(e:Nat->Int):∀(l:List Int)(i:Nat),l.all (·==0)=Mj->dot e i l=0
 |[],_,_=>rfl
 |a::l,i,h=>by obtain⟨h1,h2⟩:=MR.mp ((Rv ..).symm.trans h);obtain rfl:a=0:=beq_iff_eq.mp h1;show 0*e i+dot e (i+1) l=0;rw[qt e l _ h2,Vl];rfl
variable{d:Int}{hs:List Nat}
section
variable{H:List (List Int)}
theorem Cj(h:vq (lE xs ns) H)(i:Nat):0<=dot (lE xs ns) 0 (lX H i):=by
 unfold lX;cases VY i 16;·show 0<=dot _ 0 (lU _);rw[jM,HF];exact Mt _
 ·show 0<=dot _ 0 (H.getD i []);rw[Mx];cases e:H[i]? with
  |none=>exact QM _
  |some v=>exact h v (MP e)
theorem xo(h:vq (lE xs ns) H):∀f c,0<=dot (lE xs ns) 0 (lS H f c)
 |0,_=>QM _
 |f+1,c=>by
  show 0<=dot (lE xs ns) 0 (bif P4 c 0 then[] else mF (lG ((c >>> 10%2^(c >>> 5%32):Nat):Int) (lX H (c%32))) (lS H f _));cases P4 c 0;·show 0<=dot _ 0 (mF _ _);rw[dN,dc];exact Us (Int.mul_nonneg (Mt _) (Cj h _)) (xo h f _)
  ·exact QM _
theorem Cw{m:Nat}{z:Int}(p:0<=z)(q:-(m:Int)<=((m+1:Nat):Int)*d+-1*z):0<=d:=by refine Q7.mp λhd=>?_;have:((m+1:Nat):Int)*d<=((m+1:Nat):Int)*(-1):=Nt (Int.le_sub_one_of_lt hd) (Mt _);omega
theorem Az(h:vq (lE xs ns) H){c:Nat}(k:lK H v c=Mj):0<=dot (lE xs ns) 0 v:=by
 unfold lK at k;have q:∀w,lZ ((c%256:Nat):Int) w=Mj->-((c%256:Nat):Int)<=dot (lE xs ns) 0 w:=λw k=>by
  induction w with
  |nil=>exact of_decide_eq_true k
  |cons d ds=>obtain⟨k1,k2⟩:=MR.mp k;show _<=d*1+dot (lE xs ns) 1 ds;rw[qt _ _ _ k2,RB,PF];exact of_decide_eq_true k1
 have q:=q _ k;rw[dN,dc,dc] at q;exact Cw (xo h 20 (c >>> 8)) q
theorem xk(h:vq (lE xs ns) H):∀(G:List (List Int))(c:Nat),GA H G c=Mj->vq (lE xs ns) G
 |[],_,_=>nofun
 |v::vs,c,k=>by obtain⟨k1,k2⟩:=MR.mp k;exact(lj (a:=[v])).mpr ⟨sA.mpr (Az h k1),xk h vs _ k2⟩
theorem sI:∀(hs:List Nat){H:List (List Int)},FM hs=Md H->(∀h∈hs,lR xs ns h)->vq (lE xs ns) H
 |[],H,e,_=>by cases e;exact nofun
 |h::hs,H,e,a=>by obtain⟨x,hx,e⟩:=Mz.mp e;obtain⟨y,hy,e⟩:=Mz.mp e;cases e;exact lj.mpr ⟨(mN _ Mh hx).mpr (a h (MU ..)),sI hs hy λh' m=>a h' (MV _ m)⟩
theorem Dn{g c:Nat}(a:∀h∈hs,lR xs ns h)(k:lQ hs g c=Mj):lR xs ns g:=by refine ae (Mz.mp (wK k)) λH zq182=>?_;have e:=zq182.1;have k:=zq182.2;obtain⟨G,e',k⟩:=Mz.mp k;exact(mN _ Mh e').mp (xk (sI hs e a) G c (MJ k))
theorem BI{c:Nat}(a:∀h∈hs,lR xs ns h)(k:FS hs c=Mj):p:=by obtain⟨H,e,k⟩:=Mz.mp (wK k);have:=Az (sI hs e a) (MJ k);rw[hH _ (Do xs ns)] at this;exact absurd this (by decide)
end
variable{p:Nat->Prop}
theorem zj:∀h∈([]:List Nat),p h:=nofun
theorem m9{l:List Nat}(h1:p a)(h:∀x∈l,p x):∀x∈a::l,p x:=λx m=>by
 cases m with
 |head=>exact h1
 |tail _ m=>exact h x m
section
variable(c:Nat)(xs:List Int)(ns:List Nat)
noncomputable def H5:Bool:=lQ [] (l1 c) (l2 c)
theorem ck(k:H5 c=true:=by rfl):lR xs ns (l1 c):=Dn zj k
noncomputable def HO:Bool:=lQ [l1 (l2 c)] (l1 c) (l2 (l2 c))
theorem af(h1:lR xs ns (l1 (l2 c)))(k:HO c=true:=by rfl):lR xs ns (l1 c):=Dn (m9 h1 zj) k
noncomputable def HQ:Bool:=lQ [l1 (l2 c),l1 (l2 (l2 c))] (l1 c) (l2 (l2 (l2 c)))
theorem ao(h1:lR xs ns (l1 (l2 c)))(h2:lR xs ns (l1 (l2 (l2 c))))(k:HQ c=true:=by rfl):lR xs ns (l1 c):=Dn (m9 h1 (m9 h2 zj)) k
noncomputable def Ih:Bool:=lQ [l1 (l2 c),l1 (l2 (l2 c)),l1 (l2 (l2 (l2 c)))] (l1 c) (l2 (l2 (l2 (l2 c))))
theorem aS(h1:lR xs ns (l1 (l2 c)))(h2:lR xs ns (l1 (l2 (l2 c))))(h3:lR xs ns (l1 (l2 (l2 (l2 c)))))(k:Ih c=true:=by rfl):lR xs ns (l1 c):=Dn (m9 h1 (m9 h2 (m9 h3 zj))) k
noncomputable def HY:Bool:=lQ [l1 (l2 c),l1 (l2 (l2 c)),l1 (l2 (l2 (l2 c))),l1 (l2 (l2 (l2 (l2 c))))] (l1 c) (l2 (l2 (l2 (l2 (l2 c)))))
theorem iX(h1:lR xs ns (l1 (l2 c)))(h2:lR xs ns (l1 (l2 (l2 c))))(h3:lR xs ns (l1 (l2 (l2 (l2 c)))))(h4:lR xs ns (l1 (l2 (l2 (l2 (l2 c))))))(k:HY c=true:=by rfl):lR xs ns (l1 c):=Dn (m9 h1 (m9 h2 (m9 h3 (m9 h4 zj)))) k
noncomputable def Il:Bool:=lQ [l1 (l2 c),l1 (l2 (l2 c)),l1 (l2 (l2 (l2 c))),l1 (l2 (l2 (l2 (l2 c)))),l1 (l2 (l2 (l2 (l2 (l2 c)))))] (l1 c) (l2 (l2 (l2 (l2 (l2 (l2 c))))))
theorem DA(h1:lR xs ns (l1 (l2 c)))(h2:lR xs ns (l1 (l2 (l2 c))))(h3:lR xs ns (l1 (l2 (l2 (l2 c)))))(h4:lR xs ns (l1 (l2 (l2 (l2 (l2 c))))))(h5:lR xs ns (l1 (l2 (l2 (l2 (l2 (l2 c)))))))(k:Il c=true:=by rfl):lR xs ns (l1 c):=Dn (m9 h1 (m9 h2 (m9 h3 (m9 h4 (m9 h5 zj))))) k
noncomputable def Ii:Bool:=FS [l1 c] (l2 c)
theorem CL{p:Prop}(h1:lR xs ns (l1 c))(k:Ii c=true:=by rfl):p:=BI (m9 h1 zj) k
noncomputable def IA:Bool:=FS [l1 c,l1 (l2 c)] (l2 (l2 c))
theorem fb{p:Prop}(h1:lR xs ns (l1 c))(h2:lR xs ns (l1 (l2 c)))(k:IA c=true:=by rfl):p:=BI (m9 h1 (m9 h2 zj)) k
noncomputable def Ij:Bool:=FS [l1 c,l1 (l2 c),l1 (l2 (l2 c))] (l2 (l2 (l2 c)))
theorem Cz{p:Prop}(h1:lR xs ns (l1 c))(h2:lR xs ns (l1 (l2 c)))(h3:lR xs ns (l1 (l2 (l2 c))))(k:Ij c=true:=by rfl):p:=BI (m9 h1 (m9 h2 (m9 h3 zj))) k
end
theorem c6{c:Nat}(h:a<=b)(e:PE b c=Mj):a<=c:=Nk h (MG e)
theorem HP{c:Nat}(h:a<b)(e:PE b c=Mj):a<c:=Nk h (MG e)
theorem kI{c:Nat}(h:a<=b)(e:VY b c=Mj):a<c:=Sr h (MG e)
theorem jR{c:Nat}(h:b<=a)(e:PE c b=Mj):c<=a:=Nk (MG e) h
theorem Dq{c:Nat}(h:a=b)(e:PE b c=Mj):a<=c:=h▸MG e
theorem ur{c d:Nat}(h:a=b)(h2:b<=c)(e:PE c d=Mj):a<=d:=h▸c6 h2 e
theorem yq{c k:Nat}(h:b<=a)(e:PE (c+k) b=Mj):c<=a-k:=Ow (jR h e)
theorem o9{a b c:Int}(h:a<=b)(e:M3 (b<=c)=Mj):a<=c:=OV h (of_decide_eq_true e)
theorem ill{a b c:Int}(h:a<=b)(e:M3 (b<c)=Mj):a<c:=Ou h (of_decide_eq_true e)
theorem sR{a b c:Int}(h:b<=a)(e:M3 (c<=b)=Mj):c<=a:=OV (of_decide_eq_true e) h
theorem nF(h:a<=b):(a:Int)<=b:=Vm.mpr h
theorem F8{c:Nat}(h:a<=c)(e:M3 ((c:Int)<=d)=Mj):(a:Int)<=d:=o9 (nF h) e
theorem FN{c:Nat}(h:a<=c)(e:M3 ((c:Int)<d)=Mj):(a:Int)<d:=ill (nF h) e
theorem xT(h:(a:Int)<=b):a<=b:=Vm.mp h
theorem BS{a c:Int}(h:0<=a)(e:M3 (0<=c)=Mj):0<=a+c:=Us h (of_decide_eq_true e)
theorem D9{a c:Int}(h:0<=a)(e:M3 (0<=c)=Mj):0<=a/c:=Ob h (of_decide_eq_true e)
theorem FI(e:Int)(h:M3 (0<k)=Mj):k*(e/k)<=e:=Int.mul_ediv_self_le (Int.ne_of_gt (of_decide_eq_true h))
theorem HD(e:Int)(h:M3 (0<k)=Mj):e<k*(e/k)+k:=Int.lt_mul_ediv_self_add (of_decide_eq_true h)
theorem HJ(e:Int)(k:Int):e%k+k*(e/k)=e:=Int.emod_add_mul_ediv e k
theorem vp(e:Int)(h:M3 (0<k)=Mj):0<=e%k:=Nw e (Int.ne_of_gt (of_decide_eq_true h))
theorem C5(e:Int)(h:M3 (0<k)=Mj):e%k<k:=Nj e (of_decide_eq_true h)
theorem Cs:(2:Int)^8=256:=by decide
theorem xy:(2:Int)^32=4294967296:=by decide
theorem G9:(2:Int)^60=1152921504606846976:=by decide
theorem d5:(2:Int)^63=9223372036854775808:=by decide
theorem HG{n v d:Nat}(h:n<=v+d):n<=v+(d-(v+d-n)):=
 Nk (Ot (Nat.sub_sub_self h).symm) (Ul.mpr (by rw[U6];exact Qs (Ul.mp (MD _)) v))
variable{x:Int}
theorem Hh{k:Nat}(h0:0<=x)(h:x<(k:Int)):x.natAbs<k:=Sd.mp (by rw[Ut h0];exact h)
theorem Id(h0:0<=x)(h:x<=1000000):x.natAbs<2^64:=Hh h0 (Ou h (by decide))
theorem Dw:∀y<4,2<=y->((y:Nat):Int)%2=((y-2:Nat):Int):=by decide
theorem Fa:∀y<4,2<=y->((y-2:Nat):Int)=0∨((y-2:Nat):Int)=1:=by decide
theorem AA:∀i,i<=3->min i 4+(3-i)=3:=by decide
theorem IB(x:Int):x%16777216*256%16777216=x%65536*256:=by rw[NY (x%_)];refine(Int.mul_emod_mul_of_pos (a:=256) (x%16777216) 65536 (by decide)).trans ?_;rw[Int.emod_emod_of_dvd _ (by decide),NY]
noncomputable def er:Me->Me
 |.int i _=>.int i 0
 |.float b _=>.float b 0
 |.str s _=>.str s 0
 |.bytes b _=>.bytes b 0
 |v=>v
theorem jm(v:Me):er v=v∨(bM λi t=>v=.int i t)∨(bM λi t=>v=.str i t)∨(bM λi t=>v=.bytes i t)∨bM λi t=>v=.float i t:=by cases v<;>first|exact .inl rfl|exact .inr (.inl ⟨_,_,rfl⟩)|exact .inr (.inr (.inl ⟨_,_,rfl⟩))|exact .inr (.inr (.inr (.inl ⟨_,_,rfl⟩)))|exact .inr (.inr (.inr (.inr ⟨_,_,rfl⟩)))
variable{v:Me}
theorem jb{w:Me}(h:er v=w)(n:∀i t,w≠.int i t)(n2:∀i t,w≠.str i t)(n3:∀i t,w≠.bytes i t)(n4:∀i t,w≠.float i t):v=w:=by
 rcases jm v with e|⟨i,t,rfl⟩|⟨i,t,rfl⟩|⟨i,t,rfl⟩|⟨i,t,rfl⟩;·exact e.symm.trans h
 ·exact absurd h.symm (n i 0)
 ·exact absurd h.symm (n2 i 0)
 ·exact absurd h.symm (n3 i 0)
 ·exact absurd h.symm (n4 i 0)
variable{a:Ml}
theorem aq(h:er v=.ref a):v=.ref a:=jb h nofun nofun nofun nofun
theorem lu{b:Bool}(h:er v=.bool b):v=.bool b:=jb h nofun nofun nofun nofun
theorem pe(h:er v=.none):v=.none:=jb h nofun nofun nofun nofun
variable{n:String}
theorem bK(h:er v=.type n):v=.type n:=jb h nofun nofun nofun nofun
theorem mA(h:er v=.builtin n):v=.builtin n:=jb h nofun nofun nofun nofun
variable{i:Int}{t:Ug}
theorem mD(h:er v=.int i t):∃u,v=.int i u:=by
 rcases jm v with e|⟨i,t,rfl⟩|⟨i,t,rfl⟩|⟨i,t,rfl⟩|⟨i,t,rfl⟩;·exact⟨t,e.symm.trans h⟩
 ·cases h;exact⟨_,rfl⟩
 all_goals cases h
theorem Co{x:Np}(h:er v=.str x t):∃u,v=.str x u:=by
 rcases jm v with e|⟨i,t,rfl⟩|⟨i,t,rfl⟩|⟨i,t,rfl⟩|⟨i,t,rfl⟩;·exact⟨t,e.symm.trans h⟩
 ·cases h
 ·cases h;exact⟨_,rfl⟩
 all_goals cases h
variable{x:Array UInt8}
theorem qe(h:er v=.bytes x t):∃u,v=.bytes x u:=by
 rcases jm v with e|⟨i,t,rfl⟩|⟨i,t,rfl⟩|⟨i,t,rfl⟩|⟨i,t,rfl⟩;·exact⟨t,e.symm.trans h⟩
 ·cases h
 ·cases h
 ·cases h;exact⟨_,rfl⟩
 ·cases h
variable{P:Me->Prop}
@[elab_as_elim]theorem WN(h:er v=.int i t)(k:∀u,P (.int i u)):P v:=ae (mD h) λu e=>e▸k u
@[elab_as_elim]theorem Yz{x:Np}(h:er v=.str x t)(k:∀u,P (.str x u)):P v:=ae (Co h) λu e=>e▸k u
@[elab_as_elim]theorem Xh(h:er v=.bytes x t)(k:∀u,P (.bytes x u)):P v:=ae (qe h) λu e=>e▸k u
noncomputable def enc(s:Np):Nat:=if s.cps.toList.all (λc=>M3 (0<c)&&M3 (c<256)) then s.cps.toList.foldl (λa c=>a*256+c) 0 else 0
theorem fO(l:List Nat):∀a,l.foldl (λa c=>a*256+c) a=a*256^l.length+l.foldl (λa c=>a*256+c) 0:=by
 induction l with
 |nil=>intro a;simp
 |cons c r ih=>intro a;simp only[PO];refine(ih (a*256+c)).trans (Eq.trans ?_ (congrArg (a*256^(c::r).length+·) (ih (0*256+c)).symm));show _=a*256^(r.length+1)+((0*256+c)*256^r.length+_);generalize 256=b;rw[Nat.zero_mul,Oo,Nat.add_mul,Nat.mul_assoc,QT b,U6];rfl
theorem lP(l:List Nat)(h:l.all (λc=>M3 (0<c)&&M3 (c<256))=Mj):l.foldl (λa c=>a*256+c) 0<256^l.length:=by
 induction l with
 |nil=>simp
 |cons c r ih=>simp only[Rv,Of,decide_eq_true_eq] at h;have:=ih (by simpa using h.2);rw[PO,fO,MW,TZ];have h2:(0*256+c)*256^r.length<=255*256^r.length:=Uu _ (by lia);lia
theorem aaC(c:Nat)(r:List Nat)(h:0<c):256^r.length<=(c::r).foldl (λa c=>a*256+c) 0:=by rw[PO,fO];have:1*256^r.length<=(0*256+c)*256^r.length:=Uu _ (af 0x1080004e03032800031670232e [] [_] h);exact af 0x432840003d54090f6392a11c131d [] [_,_,_] this
theorem om{x y:List Nat}(hx:x.all (λc=>M3 (0<c)&&M3 (c<256))=Mj)(hy:y.all (λc=>M3 (0<c)&&M3 (c<256))=Mj)(h:x.foldl (λa c=>a*256+c) 0=y.foldl (λa c=>a*256+c) 0):y.length<=x.length:=by
 induction y with
 |nil=>simp
 |cons c r=>simp only[Rv,Of,decide_eq_true_eq] at hy;have h1:=aaC c r hy.1.1;have h2:=lP x hx;rw[h] at h2;have h3:256^r.length<256^x.length:=Sr h1 h2;have:=(Nat.pow_lt_pow_iff_right (a:=256) (Ms _ _)).mp h3;rw[MW];exact this
theorem oP:∀{x y:List Nat},x.all (λc=>M3 (0<c)&&M3 (c<256))=Mj->y.all (λc=>M3 (0<c)&&M3 (c<256))=Mj-> x.length=y.length->x.foldl (λa c=>a*256+c) 0=y.foldl (λa c=>a*256+c) 0->x=y
 |[],[],_,_,_,_=>rfl
 |[],_::_,_,_,h,_=>by cases h
 |_::_,[],_,_,h,_=>by cases h
 |c::x,d::y,hx,hy,hl,h=>by
  simp only[Rv,Of,decide_eq_true_eq] at hx hy;rw[MW,MW] at hl;have hl:x.length=y.length:=af 0x2108009c2000138a11c4133e94d4150f [] [_,_] hl;rw[PO,PO,fO x,fO y,hl] at h;have h1:=lP x (by simpa using hx.2);have h2:=lP y (by simpa using hy.2);rw[hl] at h1;generalize 256^y.length=B at*;generalize hX:V7 (λa c=>a*256+c) 0 x=X at*;generalize hY:V7 (λa c=>a*256+c) 0 y=Y at*;have hc:c=d:=by
   simp only[Nat.zero_mul,Oo] at h;have e1:(c*B+X)/B=c:=by rw[QT,Nat.mul_add_div (jR h1 rfl),Nat.div_eq_of_lt h1];exact rfl
   have e2:(d*B+Y)/B=d:=by rw[QT,Nat.mul_add_div (by lia),Nat.div_eq_of_lt h2];exact rfl
   rw[<-e1,<-e2,h]
  subst hc;have:X=Y:=af 0x8420027080004ea42ba42b4295d4150f [] [_,_,_] h;rw[oP (x:=x) (y:=y) (by simpa using hx.2) (by simpa using hy.2) hl (by rw[hX,hY];exact this)]
variable{n:Np}
theorem li{x:Np}(hn:enc n≠0)(h:enc x=enc n):x=n:=by
 unfold enc at h hn;split at hn
 ·rename_i h2;split at h;·rename_i h1;have e1:=om h1 h2 h;have e2:=om h2 h1 h.symm;have:=oP h1 h2 (Uh e2 e1) h;cases x;cases n;simp only[Str.mk.injEq];exact Q9.mp this
  ·exact absurd h.symm hn
 ·exact absurd rfl hn
abbrev Loc:=List (Nat×Me)
noncomputable def gf:Loc->Nat->Option Me
 |[],_=>Mr
 |(j,v)::r,k=>if j=k then Md v else gf r k
noncomputable def sf:Loc->Nat->Me->Loc
 |[],k,v=>[(k,v)]
 |(j,u)::r,k,v=>if j=k then(j,v)::r else(j,u)::sf r k v
theorem ju(l:Loc)(k j:Nat)(v:Me):gf (sf l k v) j=if j=k then Md v else gf l j:=by
 induction l with
 |nil=>
  show(if k=j then Md v else Mr)=if j=k then Md v else Mr
  by_cases h:k=j;·rw[if_pos h,if_pos h.symm]
  ·rw[if_neg h,if_neg (Qj h)]
 |cons p r ih=>
  obtain⟨i,u⟩:=p;show gf (if i=k then(i,v)::r else(i,u)::sf r k v) j=if j=k then Md v else if i=j then Md u else gf r j
  by_cases h:i=k
  ·rw[if_pos h];show(if i=j then Md v else gf r j)=_;by_cases e:i=j;·rw[if_pos e,if_pos (e.symm.trans h)]
   ·rw[if_neg e,if_neg (λz=>e (h.trans z.symm)),if_neg e]
  ·rw[if_neg h];show(if i=j then Md u else gf (sf r k v) j)=_;by_cases e:i=j;·rw[if_pos e,if_neg (λz=>h (e.trans z)),if_pos e]
   ·rw[if_neg e,ih,if_neg e]
inductive Cell where
 |Wv(C:Ml)(fs:Loc)
 |list(xs:List Me)
 |tup(xs:List Me)
 |WK(b:List UInt8)
 |W9(m:List (Int×Me))
abbrev Sg:=Ml->Option Cell
noncomputable def upd(J:Sg)(a:Ml)(c:Cell):Sg:=λb=>if b=a then Md c else J b
theorem aa(J:Sg)(a:Ml)(c:Cell):upd J a c a=Md c:=if_pos rfl
variable{b:Ml}
theorem ag(J:Sg)(c:Cell)(h:b≠a):upd J a c b=J b:=if_neg h
theorem Ae(J:Sg)(a:Ml)(c c':Cell):upd (upd J a c) a c'=upd J a c':=by funext b;unfold upd;by_cases h:b=a<;>simp[h]
abbrev Hn:=Ml->Option P9
structure bv where
 o:Ml->Option P9
 fr:Ml->Prop
noncomputable def Kept(x:Prop)(h:Oy)(a:Ml)(o:P9):Prop:=∃sl,h.get? a=Md {o with slots:=sl}/\(¬x->sl=o.slots)
variable{o:P9}{x:Prop}{h:Oy}
theorem Kept.of(e:h.get? a=Md o):Kept x h a o:=⟨o.slots,e,λb=>rfl⟩
variable{h':Oy}
theorem Kept.to(k:Kept x h a o)(e:∀o',h.get? a=Md o'->h'.get? a=Md o'):Kept x h' a o:=⟨k.choose,e _ k.choose_spec.1,k.choose_spec.2⟩
theorem Kept.at(k:Kept x h a o)(n:¬x):h.get? a=Md o:=by refine ae k λsl z8=>?_;rw[z8.1,z8.2 n]
inductive Own where
 |free
 |W7
 |loc
 |obj
 |part(a:Ml)
noncomputable def dP(m:Np->Option Me)(fs:Loc):Prop:=∀x,(m x).map er=gf fs (enc x)
variable{fs:Loc}
theorem dP.set{m:Np->Option Me}(h:dP m fs)(hn:enc n≠0):dP (λx=>if x=n then Md v else m x) (sf fs (enc n) (er v)):=λx=>by
 rw[ju];by_cases e:x=n;·subst e;simp
 ·show Option.map er (if x=n then Md v else m x)=_;rw[if_neg e,if_neg (λq=>e (li hn q))];exact h x
variable{u:Me}
theorem dP.get{m:Np->Option Me}(h:dP m fs)(e:gf fs (enc n)=Md u):∃v,m n=Md v/\er v=u:=by have:=h n;rw[e] at this;refine ae (MQ.mp this) λv z7=>?_;obtain⟨a,b⟩:=z7;exact⟨v,a,b⟩
theorem dP.none{m:Np->Option Me}(h:dP m fs)(e:gf fs (enc n)=Mr):m n=none:=by have:=h n;rw[e] at this;exact T7.mp this
noncomputable def DI(h:Oy)(a:Ml)(kvs:List (Int×Me)):Prop:=
 ∃es,h.get? a=Md (⟨.type "dict",Mr,.dict es kvs.length,#[]⟩:P9)/\(∀(prog:R9)(w:O7),KeysOf (Se prog w) es/\Pairs (Se prog w) es.toList kvs)/\(kvs.map (·.1)).Nodup
variable{kvs:List (Int×Me)}
theorem DI.at(x:DI h a kvs)(prog:R9)(w:O7):h.DictAt (Se prog w) a kvs kvs.length:=by refine ae x λes z6=>?_;exact⟨_,es,z6.1,⟨rfl,rfl,rfl⟩,rfl,(z6.2.1 prog w).1,(z6.2.1 prog w).2,z6.2.2⟩
inductive xh(C:Ml)(fs:Loc)(m:Np->Option Me)(es:Array Ra):Prop where
 |mk(map:dP m fs)
  (handed:∀x v,m x=Md v->handedIn v=Mj)
  (le:es.size<=fs.length)
  (le2:es.size<=101)
  (Ay:∀c,(gf fs c).isSome=Mj->Ay C c=Mj)
noncomputable def R(g:Ml->Own)(h:Oy)(a:Ml):Cell->Prop
 |.Wv C fs=>yt λd m es n=>h.get? a=Md ⟨.ref C,Md d,.plain,#[]⟩/\g d=.part a/\h.Ns d m/\h.get? d=Md ⟨.type "dict",Mr,.dict es n,#[]⟩/\xh C fs m es
 |.list xs=>bM λys n=>h.get? a=Md ⟨.type "list",Mr,.seq ys n,#[]⟩/\ys.toList.map er=xs
 |.tup xs=>bM λys n=>h.get? a=Md ⟨.type "tuple",Mr,.seq ys n,#[]⟩/\ys.toList.map er=xs
 |.WK b=>h.get? a=Md ⟨.type "bytearray",Mr,.bytearray b.toArray 0,#[]⟩
 |.W9 m=>∃kvs,DI h a kvs/\kvs.map (λp=>(p.1,er p.2))=m
structure Inv(Φ:bv)(J:Sg)(g:Ml->Own)(h:Oy):Prop where
 fz:∀a o,Φ.o a=Md o->Kept (Φ.fr a) h a o/\g a=.W7
 frs:∀a,Φ.fr a->g a=.W7∨g a=.loc
 cells:∀a c,J a=Md c->g a=.obj/\R g h a c
 used:∀a,g a≠.free->∃o,h.get? a=Md o
variable{g:Ml->Own}
theorem R.to{g':Ml->Own}{c:Cell}(x:R g h a c)(ha:∀o,h.get? a=Md o->h'.get? a=Md o)(hd:∀d,g d=.part a->g' d=.part a/\∀o,h.get? d=Md o->h'.get? d=Md o):R g' h' a c:=by
 induction c with
 |Wv C fs=>refine vr x λd m es n z5=>?_;have e:=hd d z5.2.1;refine ae z5.2.2.1 λo z2=>?_;refine ae z2 λes' z3=>?_;refine ae z3 λep z4=>?_;have q:=z4.1;have r:=z4.2;exact⟨d,m,es,n,ha _ z5.1,e.1,⟨o,es',ep,e.2 _ q,r⟩,e.2 _ z5.2.2.2.1,z5.2.2.2.2⟩
 |list xs=>refine bI x λys n h1=>?_;exact⟨ys,n,ha _ h1.1,h1.2⟩
 |tup xs=>refine bI x λys n h1=>?_;exact⟨ys,n,ha _ h1.1,h1.2⟩
 |WK b=>exact ha _ x
 |W9 m=>refine ae x λkvs z1=>?_;refine ae z1.1 λes h1=>?_;exact⟨kvs,⟨es,ha _ h1.1,h1.2⟩,z1.2⟩
theorem R.keeps{c:Cell}(x:R g h a c)(k:∀b o,h.get? b=Md o->h'.get? b=Md o):R g h' a c:=x.to (k a) λd hd=>⟨hd,k d⟩
variable{x:Own}{Φ Φ':bv}{J J':Sg}
section
variable{g':Ml->Own}
theorem Inv.tr(S:Ml->Prop)(I:Inv Φ J g h)(out:∀b,¬S b->g' b=g b/\Φ'.o b=Φ.o b/\(Φ'.fr b↔Φ.fr b)/\J' b=J b)(keep:∀b o,¬S b->h.get? b=Md o->h'.get? b=Md o)(part:∀b a,S b->g b=.part a->S a)(fz:∀b o,S b->Φ'.o b=Md o->Kept (Φ'.fr b) h' b o/\g' b=.W7)(frs:∀b,S b->Φ'.fr b->g' b=.W7∨g' b=.loc)(cells:∀b c,S b->J' b=Md c->g' b=.obj/\R g' h' b c)(used:∀b,S b->g' b≠.free->∃o,h'.get? b=Md o):Inv Φ' J' g' h' where
 fz b o e:=(Sf (S b)).elim (λq=>fz b o q e) λq=>by have t:=out b q;rw[propext t.2.2.1,t.1];have:=I.1 b o (t.2.1▸e);exact⟨this.1.to λo=>keep b o q,this.2⟩
 frs b hb:=(Sf (S b)).elim (λq=>frs b q hb) λq=>by have t:=out b q;rw[t.1];exact I.2 b (t.2.2.1.mp hb)
 cells b c e:=(Sf (S b)).elim (λq=>cells b c q e) λq=>by have t:=out b q;have:=I.3 b c (t.2.2.2▸e);refine⟨t.1.trans this.1,this.2.to (λo=>keep b o q) λd hd=>?_⟩;have hs:¬S d:=λz=>q (part d b z hd);exact⟨(out d hs).1.trans hd,λo=>keep d o hs⟩
 used b hb:=(Sf (S b)).elim (λq=>used b q hb) λq=>by rw[(out b q).1] at hb;exact(I.4 b hb).elim λo ho=>⟨o,keep b o q ho⟩
theorem Inv.at{c:Cell}(I:Inv Φ J g h)(hg:g a=.obj)(al:∀b o,h.get? b=Md o->∃o',h'.get? b=Md o')(same:∀b,b≠a->g b≠.part a->h'.get? b=h.get? b)(r:R g h' a c):Inv Φ (upd J a c) g h':=by
 have no:∀b,(b=a∨g b=.part a)->g b≠.W7/\g b≠.loc/\(g b=.obj->b=a):=λb q=>by
  rcases q with q|q;·rw[q,hg];exact⟨nofun,nofun,λf=>rfl⟩
  ·rw[q];exact⟨nofun,nofun,nofun⟩
 refine I.tr (λb=>b=a∨g b=.part a) (λb q=>⟨rfl,rfl,Pm,ag _ _ λz=>q (.inl z)⟩) (λb o q e=>(same b (λz=>q (.inl z)) λz=>q (.inr z)).trans e)
  (λb d q e=>?_) (λb o q e=>absurd (I.1 b o e).2 (no b q).1) (λb q e=>(I.2 b e).elim (λz=>absurd z (no b q).1) λz=>absurd z (no b q).2.1) (λb c' q e=>?_) λb f hb=>(I.4 b hb).elim λo ho=>al b o ho
 ·rcases q with q|q;·rw[q,hg] at e;cases e
  ·rw[q] at e;cases e;exact .inl rfl
 ·by_cases z:b=a;·subst z;rw[aa] at e;cases e;exact⟨hg,r⟩
  ·rw[ag _ _ z] at e;exact absurd ((no b q).2.2 (I.3 b c' e).1) z
theorem Inv.keeps(I:Inv Φ J g h)(k:∀b o,h.get? b=Md o->h'.get? b=Md o):Inv Φ J g h' where
 fz b o e:=⟨(I.1 b o e).1.to (k _),(I.1 b o e).2⟩
 frs:=I.2
 cells b c e:=⟨(I.3 b c e).1,(I.3 b c e).2.keeps k⟩
 used b hb:=(I.4 b hb).elim λo ho=>⟨o,k b o ho⟩
theorem jO{q:P9}(hb:h.get? b=Md q):(h.push o).get? b=Md q:=ME _ hb
theorem Inv.Wy(I:Inv Φ J g h)(o:P9):Inv Φ J g (h.push o):=I.keeps λa a e=>ME _ e
theorem Inv.nC(I:Inv Φ J g h)(hg:g a=.free):J a=none:=
 QR.mpr λc q=>Own.noConfusion (hg.symm.trans (I.3 a c q).1)
theorem Inv.nO(I:Inv Φ J g h)(hg:g a=.free):Φ.o a=none:=
 QR.mpr λc q=>Own.noConfusion (hg.symm.trans (I.1 a c q).2)
theorem Inv.fresh(I:Inv Φ J g h)(ha:h.objs.size<=a):J a=Mr/\Φ.o a=Mr/\g a=.free:=by have hg:g a=.free:=O8 λq=>(I.4 a q).elim λo ho=>absurd (NA ho) (PG.mpr ha);exact⟨I.nC hg,I.nO hg,hg⟩
theorem Inv.X1(I:Inv Φ J g h)(ha:h.objs.size<=a):¬Φ.fr a:=λq=>by have:=I.2 a q;rw[(I.fresh ha).2.2] at this;rcases this with z|z<;>cases z
theorem Inv.aai(I:Inv Φ J g h)(ha:g a≠.obj):J a=none:=by
 cases q:J a with
 |none=>rfl
 |some c=>exact absurd (I.3 a c q).1 ha
theorem Inv.Z8(I:Inv Φ J g h)(ha:g a≠.W7):Φ.o a=none:=by
 cases q:Φ.o a with
 |none=>rfl
 |some c=>exact absurd (I.1 a c q).2 ha
noncomputable def ic(g:Ml->Own)(a:Ml)(x:Own):Ml->Own:=λb=>if b=a then x else g b
theorem bg:ic g a x a=x:=if_pos rfl
theorem cZ(h:b≠a):ic g a x b=g b:=if_neg h
theorem Inv.Zb(I:Inv Φ J g h)(hf:g a=.free)(ha:∃o,h.get? a=Md o):Inv Φ J (ic g a x) h:=by
 have nf:¬Φ.fr a:=λq=>by have:=I.2 a q;rw[hf] at this;rcases this with z|z<;>cases z
 refine I.tr (·=a) (λb q=>⟨cZ q,rfl,Pm,rfl⟩) (λb b b e=>e) (λb d q e=>by rw[q,hf] at e;cases e) (λb o q e=>?_) (λb q e=>absurd (q▸e) nf) (λb c q e=>?_) λb q b=>q▸ha;·exact cns ((I.nO (q▸hf)).symm.trans e)
 ·exact cns ((I.nC (q▸hf)).symm.trans e)
theorem Inv.cell{c:Cell}(I:Inv Φ J g h)(hf:g a=.obj)(hn:J a=Mr)(r:R g h a c):Inv Φ (upd J a c) g h where
 fz:=I.1
 frs:=I.2
 cells b c' e:=by
  by_cases q:b=a;·subst q;rw[aa] at e;cases e;exact⟨hf,r⟩
  ·rw[ag _ _ q] at e;exact I.3 b c' e
 used:=I.4
theorem Inv.Xf(I:Inv Φ J g h)(o:P9)(c:Cell)(ho:o.isFreed=Mh)(r:∀g' h',h'.get? h.objs.size=Md o->R g' h' h.objs.size c):Inv Φ (upd J h.objs.size c) (ic g h.objs.size .obj) (h.push o):=by have F:=I.fresh (MD _);have I2:=(I.Wy o).Zb (x:=.obj) F.2.2 ⟨o,MS _ ho⟩;exact I2.cell bg F.1 (r _ _ (MS _ ho))
theorem Inv.Zf(I:Inv Φ J g h)(hg:g a=.loc∨g a=.W7)(hl:∃o,h.get? a=Md o)(out:∀b,b≠a->Φ'.o b=Φ.o b/\(Φ'.fr b↔Φ.fr b))(ho:∀o,Φ'.o a=Md o->x=.W7/\h.get? a=Md o)(hx:Φ'.fr a->x=.W7∨x=.loc):Inv Φ' J (ic g a x) h:=by
 refine I.tr (·=a) (λb q=>⟨cZ q,(out b q).1,(out b q).2,rfl⟩) (λf f f e=>e) (λb d q e=>?_) (λb o q e=>?_) (λb q e=>?_) (λb c q e=>?_) λb q f=>q▸hl;·subst q;rcases hg with z|z<;>rw[z] at e<;>cases e
 ·subst q;exact⟨.of (ho o e).2,bg.trans (ho o e).1⟩
 ·subst q;rw[bg];exact hx e
 ·subst q;have:=(I.3 b c e).1;rcases hg with z|z<;>rw[z] at this<;>cases this
end
variable{α:Type}
theorem XW{vs:List α}(h:vs.length=1):∃v,vs=[v]:=by
 cases vs with
 |nil=>cases h
 |cons v l=>induction l with
  |nil=>exact⟨v,rfl⟩
  |cons=>cases h
theorem dM{vs:List α}(h:vs.length=2):bM λv u=>vs=[v,u]:=by
 cases vs with
 |nil=>cases h
 |cons v l=>refine ae (XW (Sh h)) λu z11=>?_;rw[z11];exact⟨v,u,rfl⟩
variable{n:Nat}
theorem co(h:∀i,i<n->p i)(hn:p n):∀i,i<n+1->p i:=λi hi=>(Nat.lt_succ_iff_lt_or_eq.mp hi).elim (h i) λe=>e▸hn
theorem uT:∀i,i<0->p i:=λi h=>absurd h (Qz i)
theorem iL(h0:p 0)(h1:p 1)(h2:p 2)(h3:p 3):∀i,i<4->p i:=co (co (co (co uT h0) h1) h2) h3
variable{b:Builtin}{p pos:Qw}{k:Me->RW Unit}{e value:MY}{x name attr:Np}{w:O7}{β:Type}{A:O9}{E Q:Me->Mn->Prop}{s:Mn}{env:VD}{vs rest first:List Me}{f:Me}{prog:R9}{id:String}{args:List (Bool×RW Me)}{whole:RW Me}{K:PQ}{ox:P9}{od:Option P9}{expr:Bool}
namespace Wc
noncomputable def Yi(id:String):Bool:=Builtin.Bytes.decodersThatHold.contains id||(["bytearray.__contains__", "bytearray.__mod__", "bytearray.__rmod__", "_struct.pack_into.held", "bytearray.find.held"]:List String).contains id
noncomputable def dec:UX->Bool
 |.builtin id _=>Yi id
 |_=>Mh
noncomputable def Cl(l:List (UX×Qw)):Prop:=∀c∈l,dec c.1=Mh
theorem Cl.cons{c:UX}{l:List (UX×Qw)}(h:dec c=Mh)(k:Cl l):Cl ((c,p)::l):=λx hx=>by
 rcases MT.mp hx with q|q;·rw[q];exact h
 ·exact k x q
noncomputable def Wj(M:RX)(A:O9)(t:RW α)(Q:α->Mn->Prop)(E:Me->Mn->Prop)(s:Mn):Prop:=
 ∀Γ p,Γ.In A->dec Γ.code=Mh->Cl Γ.below->Sem.wp M Γ t (λa b s'=>Q a s') (λe b s'=>E e s') p s
noncomputable def Wx(M:RX)(A:O9)(c:UX)(R:Pj->Mn->Prop)(s:Mn):Prop:=
 ∀Γ p,Γ.code=c->Γ.Below A->Cl Γ.below->wpCode M Γ R p s
section
variable{M:RX}{R:Pj->Mn->Prop}
theorem of{t:RW α}{Q:α->Mn->Prop}(h:My M A t Q E s):Wj M A t Q E s:=λΓ p a b b=>h Γ p a
theorem aam{c:UX}(h:VR M A c R s):Wx M A c R s:=λΓ p a b d=>h Γ p a b
theorem wpAny_pure{a:α}{Q:α->Mn->Prop}(h:Q a s):Wj M A (NO a) Q E s:=of (MC h)
theorem Wq{Q:Unit->Mn->Prop}(h:Q () s):Wj M A (OW pos) Q E s:=of (QS h)
theorem WV{t:String}{Q:Unit->Mn->Prop}(h:Q () s):Wj M A (rule t) Q E s:=of (Py h)
theorem Xm{Q:Unit->Mn->Prop}(h:Q () s):Wj M A point Q E s:=of (U7 h)
theorem Wn{t:RW α}{Q Q':α->Mn->Prop}{E':Me->Mn->Prop}(h:Wj M A t Q E s)(hQ:∀a s,Q a s->Q' a s)(hE:∀e s,E e s->E' e s):Wj M A t Q' E' s:=
 λΓ p a b c=>RD M Γ t (λa d s=>hQ a s) (λe d s=>hE e s) p s (h Γ p a b c)
theorem Wi{m:RW α}{f:α->RW β}{Q:β->Mn->Prop}(h:Wj M A m (λa s'=>Wj M A (f a) Q E s') E s):Wj M A (m>>=f) Q E s:=λΓ p a b c=>by rw[Sem.wp_bind'];exact RD M Γ m (λx p' s' h'=>h' Γ p' a b c) (λd d d h'=>h') p s (h Γ p a b c)
theorem Xj{m:RW α}{Q:α->Mn->Prop}(h:Wj M A m Q (λe s'=>Wj M A (k e) (λd s''=>E e s'') E s') s):Wj M A (m.onRaise k) Q E s:=λΓ p a b c=>by rw[Sem.wp_onRaise];exact RD M Γ m (λd d d h'=>h') (λe p' s' h'=>h' Γ p' a b c) p s (h Γ p a b c)
theorem Wo{m:RW α}{Q:α->Mn->Prop}(h:Wj M A m Q E s):Wj M A (Pn vs m) Q E s:=
 λΓ p a b c=>by rw[Sem.wp_holding];exact h Γ p a b c
theorem Z6{m:RW α}{Q:α->Mn->Prop}(h:Wj M A m Q E s):Wj M A (m.keep vs) Q E s:=
 λΓ p a b c=>by rw[Sem.wp_keep];exact h Γ p a b c
theorem bz{m:RW Me}(h:Wj M A m Q E s):Wj M A (operate vs m) Q E s:=
 λΓ p a b c=>by rw[Sem.wp_operate];exact h Γ p a b c
theorem XY{Q:Unit->Mn->Prop}(h:Wj M A (VE env x v) Q E s):Wj M A (Uv env x v) Q E s:=
 λΓ p a b c=>by rw[Sem.wp_bindName];exact h Γ p a b c
theorem WR{c:UX}{R':Pj->Mn->Prop}(h:Wx M A c R s)(hR:∀r s,R r s->R' r s):Wx M A c R' s:=
 λΓ p hc hΓ k=>wpCode_mono hR (h Γ p hc hΓ k)
set_option backward.match.sparseCases true in theorem XX{c:UX}(hc:Wx M A c (λr s'=>match r with|.ok (.ret v)=>Q v s'|.ok _=>False|.error e=>E e s') s):Wj M A (runValue c) Q E s:=
 λΓ p a b k=>by rw[Sem.wp_runValue];exact hc _ p rfl (a.enter c Mr p (by intro x;cases x)) (Cl.cons b k)
set_option backward.match.sparseCases true in theorem WO{pos:List Me}{kw:List (Np×Me)}(hc:Wx M A (.call f ⟨pos,kw⟩) (λr s'=>match r with|.ok (.ret v)=>Q v s'|.ok _=>False|.error e=>E e s') s):Wj M A (OH f pos kw) Q E s:=XX hc
theorem lI{c:UX}{Q:T8->Mn->Prop}(hc:Wx M A c (λr s'=>match r with|.ok f=>Q f s'|.error e=>E e s') s):Wj M A (run c Mr) Q E s:=
 λΓ p a b k=>by rw[Sem.wp_run];exact hc _ p rfl (a.enter c Mr p (by intro x;cases x)) (Cl.cons b k)
theorem YV{c:UX}{Q:T8->Mn->Prop}(hc:Wx M A c (λr s'=>match r with|.ok f=>Q f s'|.error _=>False) s):Wj M A (runOwn c env) Q E s:=by
 unfold runOwn;refine Xj (lI (WR hc λr s' h=>?_));induction r with
 |ok f=>exact h
 |error e=>exact h.elim
theorem WC{c:UX}(hd:dec c=Mh)(h:Wj M (A.under c) (M.den c) (λfin s'=>match fin with|.done f=>R (.ok f) s'|.again c'=>c'.quiet=Mj/\Wx M A c' R s') (λe s'=>R (.error e) s') s):Wx M A c R s:=λΓ p hc hΓ k=>by
 rw[wpCode_iff_wp,hc];refine RD M Γ _ (λfin p' s' h'=>?_) (λa a a h'=>h') p s (h Γ p (hc▸hΓ.in) (by rw[hc];exact hd) k);induction fin with
 |done f=>exact h'
 |again c'=>exact⟨h'.1,h'.2 (Γ.goto c') p' rfl (hΓ.goto c') k⟩
def LQ(M:RX)(A:O9)(c:UX)(R:Pj->Mn->Prop)(I:Nat->Mn->Prop)(n:Nat):Fin->Mn->Prop
 |.done f,s'=>R (.ok f) s'
 |.again c',s'=>(c'=c/\∃m,m<n/\I m s')∨(c'.quiet=Mj/\Wx M A c' R s')
theorem Yd{c:UX}(hd:dec c=Mh)(hq:c.quiet=Mj)(I:Nat->Mn->Prop)(turn:∀n s,I n s->Wj M (A.under c) (M.den c) (LQ M A c R I n) (λe s'=>R (.error e) s') s)(n:Nat)(h:I n s):Wx M A c R s:=by
 induction n using Nat.strongRecOn generalizing s with
 |ind n ih=>
  refine WC hd (Wn (turn n s h) (λfin s' hf=>?_) λa a h'=>h');induction fin with
  |done f=>exact hf
  |again c'=>
   rcases hf with⟨rfl,m,hm,hI⟩|hf;·exact⟨hq,ih m hm hI⟩
   ·exact hf
end
section
variable{R:Pj->Mn->Prop}
noncomputable abbrev N0:Me->Mn->Prop:=λa a=>False
theorem Xp{args:Args}(hb:Qa TB id=Md b)(hd:Yi id=Mh)(h:Wj (Mk prog w) (A.under (.builtin id args)) (b args) (λfin s'=>match fin with|.done f=>R (.ok f) s'|.again c'=>c'.quiet=Mj/\Wx (Mk prog w) A c' R s') (λe s'=>R (.error e) s') s):Wx (Mk prog w) A (.builtin id args) R s:=by refine WC hd ?_;show Wj _ _ (match Qa TB id with|some b=>b args|none=>Uw ((withoutEnding? id "#data").getD id)) _ _ s;rw[hb];exact h
theorem WI{args:Args}(hq:plainId id=Mj)(hb:Qa TB id=Md b)(hd:Yi id=Mh)(h:Wj (Mk prog w) A.in1 (NS id args) (λa s₁=>Wj (Mk prog w) A.in1 (b args) (λfin s'=>match fin with|.done f=>R (.ok f) s'|.again c'=>c'.quiet=Mj/\Wx (Mk prog w) A c' R s') (λe s'=>R (.error e) s') s₁) (λe s'=>R (.error e) s') s):Wx (Mk prog w) A (.call (.builtin id) args) R s:=by refine WC rfl ?_;show Wj _ A.in1 (do NS id args;VS (.builtin id args)) _ _ s;refine Wi (Wn h (λa s₁ h₁=>wpAny_pure ⟨plainId_quiet hq args,Xp hb hd ?_⟩) λa a z=>z);rw[RE hq args];exact h₁
set_option backward.match.sparseCases true in theorem XQ{args:List Me}(hk:NS id ⟨args,[]⟩=NO ())(hp:plainId id=Mj)(hd:Yi id=Mh)(hb:Qa TB id=Md b)(hc:Wj (Mk prog w) A.in1 (b ⟨args,[]⟩) (λfin s'=>∃v,fin=.done (.ret v)/\Q v s') E s):Wj (Mk prog w) A (OH (.builtin id) args) Q E s:=by refine WO (WI hp hb hd ?_);rw[hk];exact wpAny_pure (Wn hc (λfin s' h'=>by refine ae h' λv z3=>?_;obtain rfl:=z3.1;exact z3.2) λa a h'=>h')
theorem ZU{l op r pos}(h:Wj (Mk prog w) A (NW l env) (λa s₁=>Wj (Mk prog w) A (NW r env) (λb s₂=>Wj (Mk prog w) A (binaryOp op a b) Q E s₂) E s₁) E s):Wj (Mk prog w) A (NW (.BinOp l op r pos) env) Q E s:=by rw[eval_BinOp];exact Wi (Wn h (λa s₁ h₁=>Wi (Wo (Wn h₁ (λb s₂ h₂=>Wi (Wq (bz h₂))) λc c z=>z))) λc c z=>z)
theorem Zs{l op r pos}(h:Wj (Mk prog w) A (NW l env) (λa s₁=>Wj (Mk prog w) A (NW r env) (λb s₂=>Wj (Mk prog w) A (Qk op a b) Q E s₂) E s₁) E s)(hm:OA op r=Mh):Wj (Mk prog w) A (NW (.Compare l [op] [r] pos) env) Q E s:=by rw[eval_Compare1,QN hm];exact Wi (Wn h (λa s₁ h₁=>Wi (Wo (Wn h₁ (λb s₂ h₂=>Wi (Wq (bz h₂))) λc c z=>z))) λc c z=>z)
theorem Yx{l op r pos whole}{Q:Bool->Mn->Prop}(h:Wj (Mk prog w) A (NW l env) (λa s₁=>Wj (Mk prog w) A (NW r env) (λb s₂=>Wj (Mk prog w) A (Qk op a b) (λc s₃=>Wj (Mk prog w) A (truthy c) Q E s₃) E s₂) E s₁) E s)(hm:OA op r=Mh):Wj (Mk prog w) A (QC (.Compare l [op] [r] pos) env whole) Q E s:=by rw[isTrue_Compare1,QN hm];exact Wi (Wn h (λa s₁ h₁=>Wi (Wo (Wn h₁ (λb s₂ h₂=>Wi (Wq (Wi (bz (Wn h₂ (λc s₃ h₃=>Wo h₃) λd d z=>z))))) λd d z=>z))) λd d z=>z)
theorem YJ{op:UnaryOp}{x:MY}(h:Wj (Mk prog w) A (NW x env) (λv s₁=>Wj (Mk prog w) A (unaryOp op v) Q E s₁) E s):Wj (Mk prog w) A (NW (.UnaryOp op x pos) env) Q E s:=by rw[arm_eval_UnaryOp];exact Wi (Wn h (λv s₁ h₁=>Wi (Wq (Wo h₁))) λa a z=>z)
theorem ZV{test body orelse:MY}(h:Wj (Mk prog w) A (QC test env (NW test env)) (λb s₁=>if b then Wj (Mk prog w) A (NW body env) Q E s₁ else Wj (Mk prog w) A (NW orelse env) Q E s₁) E s):Wj (Mk prog w) A (NW (.IfExp test body orelse pos) env) Q E s:=by rw[arm_eval_IfExp];refine Wi (Wn h (λb s₁ h₁=>?_) λa a z=>z);cases b<;>exact h₁
theorem Zd{x:MY}{Q:Bool->Mn->Prop}(h:Wj (Mk prog w) A (QC x env (NW x env)) (λb s₁=>Q (!b) s₁) E s):Wj (Mk prog w) A (QC (.UnaryOp .Not x pos) env whole) Q E s:=by rw[arm_isTrue_UnaryOp];exact Wi (Wn h (λb s₁ h₁=>wpAny_pure h₁) λa a z=>z)
theorem YW{e:MY}{Q:Bool->Mn->Prop}(h:Wj (Mk prog w) A whole (λv s₁=>Wj (Mk prog w) A (truthy v) Q E s₁) E s)
  (he:QC e env whole=(do let v <-whole;OW e.pos;Pn [v] (truthy v)):=by rfl):Wj (Mk prog w) A (QC e env whole) Q E s:=by
 rw[he]
 exact Wi (Wn h (λv s₁ h₁=>Wi (Wq (Wo h₁))) λa a z=>z)
theorem YM{op:Ux}{values:List MY}{Q:Bool->Mn->Prop}(h:Wj (Mk prog w) A (VZ op values env) Q E s):Wj (Mk prog w) A (QC (.BoolOp op values pos) env whole) Q E s:=by rw[arm_isTrue_BoolOp];exact h
set_option backward.match.sparseCases true in theorem Yq{x:MY}{rest:List MY}{Q:Bool->Mn->Prop}(h:Wj (Mk prog w) A (QC x env (NW x env)) (λb s₁=>if b then Wj (Mk prog w) A (VZ .And rest env) Q E s₁ else Q Mh s₁) E s):Wj (Mk prog w) A (VZ .And (x::rest) env) Q E s:=by
 show Wj (Mk prog w) A (do match BoolOp.And,<-QC x env (NW x env) with|.And,Mh=>NO Mh|.Or,Mj=>NO Mj|_,_=>VZ .And rest env) Q E s;refine Wi (Wn h (λb s₁ h₁=>?_) λa a z=>z);cases b;·exact wpAny_pure h₁
 ·exact h₁
theorem Xd{Q:List Me->Mn->Prop}(h:Q [] s):Wj (Mk prog w) A (QA (Rb pos (OM [] env))) Q E s:=of (PySem.wpAny_items_nil h)
theorem WT{rest:List MY}{Q:List Me->Mn->Prop}(h:Wj (Mk prog w) A (NW e env) (λv s₁=>Wj (Mk prog w) A (QA (Rb pos (OM rest env))) (λvs s₂=>Q (v::vs) s₂) E s₁) E s)(he:OM (e::rest) env=(Mh,NW e env)::OM rest env:=by rfl):Wj (Mk prog w) A (QA (Rb pos (OM (e::rest) env))) Q E s:=by
 rw[he];show Wj (Mk prog w) A (do
  let v <-NW e env
  let here <-(NO [v]:RW (List Me))
  return here++(<-Pn here (QA (Rb pos (OM rest env))))) Q E s
 exact Wi (Wn h (λv s₁ h₁=>Wi (wpAny_pure (Wi (Wo (Wn h₁ (λvs s₂ h₂=>wpAny_pure h₂) λa a z=>z))))) λa a z=>z)
theorem ZZ{elts:List MY}{k:Nat}(h:Wj (Mk prog w) A (QA (Rb pos (OM elts env))) (λvs s₁=>Wj (Mk prog w) A (Uy vs) Q E s₁) E s):Wj (Mk prog w) A (NW (.Tuple elts k pos) env) Q E s:=by rw[arm_eval_Tuple];exact Wi (Wq (Wi h))
theorem XT{x:RW Me}{rest:List (Bool×RW Me)}{Q:Args->Mn->Prop}(h:Wj (Mk prog w) A (QA ((Mh,x)::rest)) (λvs s'=>Q ⟨vs,[]⟩ s') E s):Wj (Mk prog w) A (Vp f Mj ((Mh,x)::rest) []) Q E s:=by show Wj (Mk prog w) A (QA ((Mh,x)::rest)>>=_) Q E s;refine Wi (Wn h (λvs s' h'=>?_) λa a z=>z);exact Wo (Wi (wpAny_pure (Wi (wpAny_pure (wpAny_pure h')))))
theorem pW{Q:Args->Mn->Prop}(h:Q ⟨[],[]⟩ s):Wj (Mk prog w) A (Vp f Mj [] []) Q E s:=of (evalArgs_nil3 h)
theorem pO{Q:Args->Mn->Prop}(hp:args.any (·.1)=Mh)(h:Wj (Mk prog w) A (QA args) (λvs s'=>Q ⟨vs,[]⟩ s') E s):Wj (Mk prog w) A (Vp f Mj args []) Q E s:=by
 induction args with
 |nil=>intro Γ p a b c;have h':Q ⟨[],[]⟩ s:=h Γ p a b c;exact pW (E:=E) h' Γ p a b c
 |cons p r=>obtain⟨b,t⟩:=p;obtain rfl:b=false:=(Qb.mp hp).1;exact XT h
theorem Y3{P:Oy->Prop}(hp:args.any (·.1)=Mh)(hk:∀h,P h->∃k,(k=Keeper.frame∨k=Keeper.machine∨k=Keeper.boundFrame)/\V8 (Mk prog w) h (keeperOf f) k)(h:Wj (Mk prog w) A (QA args) (λvs s₁=>P s₁.heap/\Wj (Mk prog w) A (OH f (first++vs)) Q E s₁) E s):Wj (Mk prog w) A (QU pos f first args []) Q E s:=by
 unfold QU;refine Wi (Wo (pO hp (Wn h (λvs s₁ h₁=>Wi (Wq ?_)) λd d z=>z)));refine ae (hk _ h₁.1) λk z2=>?_;have hk':=z2.1;have hb:(args.any (·.1)||([]:List (Option Np×RW Me)).any (·.1.isNone))=false:=by rw[hp];rfl
 rw[hb];refine Wi (of (z2.2.here ?_));have tail:∀{t:RW Me},Wj (Mk prog w) A t Q E s₁->Wj (Mk prog w) A (t>>=λr=>Pn [r] point>>=λd=>NO r) Q E s₁:=
  λht=>Wi (Wn ht (λr s₂ hr=>Wi (Wo (Xm (wpAny_pure hr)))) λd d z=>z)
 have marked (mk:Me):Wj (Mk prog w) A (callMarked mk f (first++vs) []) Q E s₁:=by unfold callMarked;exact Z6 h₁.2
 have both:∀{c:Prop}[Decidable c]{a b:RW Me},Wj (Mk prog w) A a Q E s₁->Wj (Mk prog w) A b Q E s₁->Wj (Mk prog w) A (if c then a else b) Q E s₁:=λ{c _ a b} ha hb=>by
  by_cases q:c;·rw[if_pos q];exact ha
  ·rw[if_neg q];exact hb
 refine hk'.elim (λe=>?_) λe=>e.elim (λe=>?_) λe=>?_;·rw[e];exact both (c:=args.length+2*([]:List (Option Np×RW Me)).length>30) (tail h₁.2) (tail (marked _))
 ·rw[e];exact tail h₁.2
 ·rw[e];exact both (c:=args.length+2*([]:List (Option Np×RW Me)).length>30) (tail h₁.2) (tail (marked _))
theorem dj(hp:args.any (·.1)=Mh)(hf:∀a,f≠.ref a)(h:Wj (Mk prog w) A (QA args) (λvs s₁=>Wj (Mk prog w) A (OH f (first++vs)) Q E s₁) E s):Wj (Mk prog w) A (QU pos f first args []) Q E s:=by refine Y3 (P:=λb=>True) hp (λh b=>⟨.machine,.inr (.inl rfl),λA Q E s b hq=>?_⟩) (Wn h (λb b z=>⟨trivial,z⟩) λb b z=>z);cases f<;>first|exact MC hq|exact absurd rfl (hf _)
theorem Zu{value:MY}{attr:Np}{pos:Qw}{Q:Me->Mn->Prop}
  (h:Wj (Mk prog w) A (NW value env) (λo s₁=>Wj (Mk prog w) A (Si o attr Mj) Q E s₁) E s)
  (he:NW (.Attribute value attr pos) env=(do
   let o <-NW value env
   OW pos.atName
   let r <-Pn [o] (Si o attr Mj)
   Ss value o r
   NO r)):Wj (Mk prog w) A (NW (.Attribute value attr pos) env) Q E s:=by
 rw[he]
 exact Wi (Wn h (λo s₁ h₁=>Wi (Wq (Wi (Wo (Wn h₁ (λr s₂ h₂=>Wi (of (wpAny_letTemporaryGo (wpAny_pure h₂)))) λa a z=>z))))) λa a z=>z)
theorem Yb{value slice pos}(h:Wj (Mk prog w) A (NW value env) (λo s₁=>Wj (Mk prog w) A (NW slice env) (λi s₂=>Wj (Mk prog w) A (Tp value slice o i) Q E s₂) E s₁) E s):Wj (Mk prog w) A (NW (.Subscript value slice pos) env) Q E s:=by rw[eval_Subscript];exact Wi (Wn h (λo s₁ h₁=>Wi (Wo (Wn h₁ (λi s₂ h₂=>Wi (Wq h₂)) λa a z=>z))) λa a z=>z)
theorem YN{id:Np}{args:List MY}{keywords:List Keyword}(h:Wj (Mk prog w) A (NW (.Name id p) env) (λf s₁=>Wj (Mk prog w) A (QU pos f [] (Rb pos (OM args env)) (backToKw pos (keywordEach keywords env))) Q E s₁) E s):Wj (Mk prog w) A (NW (.Call (.Name id p) args keywords pos) env) Q E s:=by rw[arm_eval_Call_Name'];exact Wi h
theorem YE{x C f:Ml}{args:List Me}{Q:Option Me->Mn->Prop}(X:K.In s.heap)(I:Uz s.heap x ox C od)(hs:Ov K (.ref C) name=Md (Md (.ref f)))(hf:typeIn K (.ref f)=Md (.type "function"))(h:Wj (Mk prog w) A (OH (.ref f) (.ref x::args)) (λv=>Q (Md v)) E s):Wj (Mk prog w) A (Sj (.ref x) name args) Q E s:=
 Wi (Wi (of (I.type.here (of ((PH X hs).here (Wo (Wi (of ((bind_fn X _ hf).here (Wi (Wn h (λa a z=>wpAny_pure z) λa a z=>z)))))))))))
theorem aaH{x C:Ml}{g a:Me}(X:K.In s.heap)(I:Uz s.heap x ox C od)(hga:Ov K (.ref C) "__getattribute__"=Md (Md (.builtin "object.__getattribute__")))(hf:findObj K C od name=Md (.bind g a))(hk:Ov K (.ref C) "__getattr__"=Md Mr)(h:Wj (Mk prog w) A.in1 (OH g [a,.ref x,.ref C]) (λv s'=>Wj (Mk prog w) A (handedOut v) Q E s') N0 {s with toks:=s.toks+1}):Wj (Mk prog w) A (Si (.ref x) name expr) Q E s:=by have L0:=I.type (M:=Mk prog w);have L1:=PH (M:=Mk prog w) X hga;have L2:=looks_find (M:=Mk prog w) X I hf;have L3:=PH (M:=Mk prog w) X hk;refine Wi (of (PySem.wpAny_mkText (Wo (Wi (of (L0.at (Wi (of (L1.at ?_)))))))));show Wj _ _ (getAttrEveryday _ _ _) _ _ _;refine Wi (Xj (XX (Xp F.plainObj_entry_getattr_hooked (by decide +kernel) ?_)));rw[RE (by decide +kernel)];refine Wi (wpAny_pure (Wi (of (L0.at (Wi (of (L2.at (Wi (of (L3.at ?_))))))))));show Wj _ _ (Pn [a] (OH g [a,.ref x,.ref C])>>=ret) _ _ _;exact Wi (Wo (Wn h (λv s' z=>wpAny_pure z) λb b z=>z.elim))
theorem aaA{p x:Ml}{fget:Ml}{tp:Me}(X:K.In s.heap)(hp:recIn K p "property"=Md (.ref fget::rest))(h:Wx (Mk prog w) A (.call (.ref fget) ⟨[.ref x],[]⟩) R s):Wx (Mk prog w) A (.call (.builtin "property.__get__") ⟨[.ref p,.ref x,tp],[]⟩) R s:=by
 refine ae (rec_of X hp) λd z1=>?_;refine ae z1 λsl ho=>?_;refine WI KF.slot_prop.plain KF.entry_prop (by decide +kernel) (of (KF.slot_prop.check _ _ _ _ _ _ _ _ ⟨_,ho,rfl⟩ (KF.args_prop _ _ _) ?_));refine of ?_;obtain⟨hh,g,d0,t,os⟩:=s;dsimp only at ho;repeat lk
 exact⟨rfl,h⟩
theorem WL{st rest}{Q:T8->Mn->Prop}(h:Wj (Mk prog w) A (P0 st env) (λf s'=>match f with|.next=>Wj (Mk prog w) A (Qc rest env) Q E s'|f=>Q f s') E s):Wj (Mk prog w) A (Qc (st::rest) env) Q E s:=by
 rw[execs_cons];refine Wi (Wn h (λf s' h'=>?_) λa a z=>z);induction f with
 |next=>exact h'
 |_=>exact wpAny_pure h'
theorem ZP{test body orelse pos}{Q:T8->Mn->Prop}(h:Wj (Mk prog w) A (QC test env (NW test env)) (λb s₂=>if b then Wj (Mk prog w) A (Qc body env) Q E s₂ else Wj (Mk prog w) A (Qc orelse env) Q E s₂) E s):Wj (Mk prog w) A (P0 (.If test body orelse pos) env) Q E s:=by rw[exec_If];refine Wi (Wq (Wi (Wn h (λb s₂ h₂=>?_) λa a z=>z)));cases b<;>exact h₂
theorem X7{e pos}{Q:T8->Mn->Prop}(h:Wj (Mk prog w) A (NW e env) (λv=>Q (.ret v)) E s):Wj (Mk prog w) A (P0 (.Return (Md e) pos) env) Q E s:=by rw[exec_Return_some];exact Wi (Wq (Wi (Wn h (λv s' z=>wpAny_pure z) λa a z=>z)))
theorem YB{e pos}{Q:T8->Mn->Prop}(h:Wj (Mk prog w) A (NW e env) (λa=>Q .next) E s)(hi:Tb env=Mh)(hs:UN e Mr pos.line env=NO Mh):Wj (Mk prog w) A (P0 (.Expr e pos) env) Q E s:=by rw[exec_Expr env e pos hi hs];exact Wi (Wq (Wi (Wn h (λv s' h'=>of (wpAny_dropValue h')) λa a z=>z)))
theorem YI{x pos' op value pos}{Q:T8->Mn->Prop}(h:Wj (Mk prog w) A (loadName env x) (λold s₁=>Wj (Mk prog w) A (NW value env) (λv s₂=>Wj (Mk prog w) A (UO op old v) (λr s₃=>Wj (Mk prog w) A (VE env x r) (λa=>Q .next) E s₃) E s₂) E s₁) E s):Wj (Mk prog w) A (P0 (.AugAssign (.Name x pos') op value pos) env) Q E s:=by rw[exec_AugAssign_Name];refine Wi (Wq (Wi (Wn h (λold s₁ h₁=>?_) λa a z=>z)));refine Wi (Wo (Wn h₁ (λv s₂ h₂=>?_) λa a z=>z));refine Wi (Wq (Wi (bz (Wn h₂ (λr s₃ h₃=>?_) λa a z=>z))));exact Wi (Wq (Wi (XY (Wn h₃ (λa a z=>wpAny_pure z) λa a z=>z))))
theorem XR{o:MY}{tpos:Qw}{op:RG}{Q:T8->Mn->Prop}(h:Wj (Mk prog w) A (NW o env) (λov s₁=>Wj (Mk prog w) A (Si ov attr Mj) (λold s₂=> Wj (Mk prog w) A (NW value env) (λv s₃=>Wj (Mk prog w) A (UO op old v) (λnew s₄=> Wj (Mk prog w) A (Vq ov attr new) (λa=>Q .next) E s₄) E s₃) E s₂) E s₁) E s):Wj (Mk prog w) A (P0 (.AugAssign (.Attribute o attr tpos) op value pos) env) Q E s:=by
 have e:P0 (.AugAssign (.Attribute o attr tpos) op value pos) env=(do
   OW pos
   let ov <-NW o env
   let new <-Pn [ov] do
    OW tpos.atName
    let old <-Si ov attr Mj
    let v <-Pn [old] (NW value env)
    OW pos
    operate [old,v] (UO op old v)
   OW tpos.atName
   Pn [new,ov] (Vq ov attr new)
   release [new,ov] []
   NO .next):=rfl
 rw[e];refine Wi (Wq (Wi (Wn h (λov s₁ h₁=>?_) λa a z=>z)));refine Wi (Wo (Wi (Wq (Wi (Wn h₁ (λold s₂ h₂=>?_) λa a z=>z)))));refine Wi (Wo (Wn h₂ (λv s₃ h₃=>?_) λa a z=>z));refine Wi (Wq (bz (Wn h₃ (λnew s₄ h₄=>?_) λa a z=>z)));exact Wi (Wq (Wi (Wo (Wn h₄ (λa a h₅=>Wi (of (Tq (wpAny_pure h₅)))) λa a z=>z))))
theorem YH{elts k tpos value pos}{names:List Np}{Q:T8->Mn->Prop}(h:Wj (Mk prog w) A (NW value env) (λv s₁=>Wj (Mk prog w) A (unpackItems v names.length Mr) (λitems s₂=> Wj (Mk prog w) A (Rw (names.reverse.map λn=>Uv env n) items.reverse) (λa=>Q .next) E s₂) E s₁) E s)(hs:O0 [.Tuple elts k tpos] value pos.line env=NO Mh)(hw:O1 [.Tuple elts k tpos] value env=NO (Md names)):Wj (Mk prog w) A (P0 (.Assign [.Tuple elts k tpos] value pos) env) Q E s:=by rw[exec_Assign,hs,hw];refine Wi (Wq (Wi (wpAny_pure ?_)));rw[if_neg (by decide)];refine Wi (Wn h (λv s₁ h₁=>Wi (wpAny_pure ?_)) λa a z=>z);show Wj (Mk prog w) A (do rule "assign.swapped-stores";let items <-unpackItems v names.length Mr;Rw (names.reverse.map λn=>Uv env n) items.reverse;NO .next) Q E s₁;exact Wi (WV (Wi (Wn h₁ (λitems s₂ h₂=>Wi (Wn h₂ (λa a z=>wpAny_pure z) λa a z=>z)) λa a z=>z)))
theorem Ys{Q:Unit->Mn->Prop}(h:Wj (Mk prog w) A (VE env x v) Q E s):Wj (Mk prog w) A (Rc (.Name x pos) env v) Q E s:=by show Wj (Mk prog w) A (do OW pos;Uv env x v) Q E s;exact Wi (Wq (XY h))
theorem Xe{m:RW α}{Q:α->Mn->Prop}(h:Wj (Mk prog w) A m Q N0 s):Wj (Mk prog w) A (m.onRaise k) Q E s:=
 Xj (Wn h (λa a z=>z) λa a z=>z.elim)
theorem ZA{stmts:List OO}(h:Wj (Mk prog w) A (Qc stmts env) (λf s'=>R (.ok f) s') N0 s):Wx (Mk prog w) A (.block stmts env) R s:=by refine WC rfl ?_;show Wj _ _ (do return Fin.done (<-(Qc stmts env).onRaise (λx=>do Rd x env;RQ x))) _ _ s;exact Wi (Xe (Wn h (λf s' h'=>wpAny_pure h') λa a z=>z))
def BQ(I:Nat->Mn->Prop)(R:Pj->Mn->Prop)(n:Nat):T8->Mn->Prop
 |.next,s=>∃m,m<n/\I m s
 |.cont,s=>∃m,m<n/\I m s
 |.brk,s=>R (.ok .next) s
 |.ret v,s=>R (.ok (.ret v)) s
def FQ(M:RX)(A:O9)(env:VD)(target:MY)(it:Me)(body orelse:List OO)(I:Nat->Mn->Prop)(R:Pj->Mn->Prop)(n:Nat):Option Me->Mn->Prop
 |none,s=>Wj M A (Qc orelse env) (λf s₃=>R (.ok f) s₃) N0 s
 |some v,s=>Wj M A (OR target it v) (λa=>Wj M A (Rc target env v) (λa=>Wj M A (Qc body env) (BQ I R n) N0) N0) N0 s
theorem YL{target it body orelse}(I:Nat->Mn->Prop)(turn:∀n s,I n s->Wj (Mk prog w) A (QD it) (FQ (Mk prog w) A env target it body orelse I R n) N0 s)(n:Nat)(h:I n s):Wx (Mk prog w) A (.forLoop target it body orelse env) R s:=by
 refine Yd rfl rfl I (λn s hI=>?_) n h;show Wj _ A ((forTurn target it body orelse env).onRaise (λx=>do Rd x env;RQ x)) _ _ s;refine Xe ?_;refine Wi (Wq (Wi (Xe (Wn (turn n s hI) (λr s₁ h₁=>?_) λa a z=>z))));induction r with
 |none=>exact wpAny_pure (.inr ⟨rfl,ZA h₁⟩)
 |some v=>
  refine Wi (Wn h₁ (λa s₁' h₁'=>?_) λa a z=>z);refine Wi (Wn h₁' (λa s₂ h₂=>Wi (Wn h₂ (λf s₃ h₃=>?_) λa a z=>z)) λa a z=>z);induction f with
  |next=>exact wpAny_pure (.inl ⟨rfl,h₃⟩)
  |cont=>exact wpAny_pure (.inl ⟨rfl,h₃⟩)
  |brk=>exact wpAny_pure h₃
  |ret v=>exact wpAny_pure h₃
def WQ(M:RX)(A:O9)(env:VD)(body orelse:List OO)(I:Nat->Mn->Prop)(R:Pj->Mn->Prop)(n:Nat):Bool->Mn->Prop
 |true,s=>Wj M A (Qc body env) (BQ I R n) N0 s
 |false,s=>Wj M A (Qc orelse env) (λf s₃=>R (.ok f) s₃) N0 s
theorem Y2{test body orelse}(I:Nat->Mn->Prop)(turn:∀n s,I n s->Wj (Mk prog w) A (QC test env (NW test env)) (WQ (Mk prog w) A env body orelse I R n) N0 s)(n:Nat)(h:I n s):Wx (Mk prog w) A (.whileLoop test body orelse env) R s:=by
 refine Yd rfl rfl I (λn s hI=>?_) n h;show Wj _ A ((whileTurn test body orelse env).onRaise (λx=>do Rd x env;RQ x)) _ _ s;refine Xe ?_;show Wj _ _ (QC test env (NW test env)>>=_) _ _ _;refine Wi (Wn (turn n s hI) (λb s₂ h₂=>?_) λa a z=>z);induction b with
 |false=>exact Wi (Wn h₂ (λf s₃ h₃=>wpAny_pure h₃) λa a z=>z)
 |true=>
  refine Wi (Wn h₂ (λf s₃ h₃=>?_) λa a z=>z);induction f with
  |next=>exact wpAny_pure (.inl ⟨rfl,h₃⟩)
  |cont=>exact wpAny_pure (.inl ⟨rfl,h₃⟩)
  |brk=>exact wpAny_pure h₃
  |ret v=>exact wpAny_pure h₃
theorem XJ{target iter body orelse pos}{Q:T8->Mn->Prop}(h:Wj (Mk prog w) A (NW iter env) (λx s₁=>Wj (Mk prog w) A (Tr x) (λit s₂=> Wx (Mk prog w) A (.forLoop target it body orelse env) (λr s'=>match r with|.ok f=>Q f s'|.error _=>False) s₂) E s₁) E s)(hs:∀x,QV iter env x=NO x):Wj (Mk prog w) A (P0 (.For target iter body orelse pos) env) Q E s:=by rw[exec_For];refine Wi (Wq (Wi (Wn h (λx s₁ h₁=>?_) λa a z=>z)));rw[hs x];exact Wi (wpAny_pure (Wi (Wq (Wi (Wo (Wn h₁ (λit s₂ h₂=>YV h₂) λa a z=>z))))))
theorem ZT{test body orelse pos}{Q:T8->Mn->Prop}(h:Wx (Mk prog w) A (.whileLoop test body orelse env) (λr s'=>match r with|.ok f=>Q f s'|.error _=>False) s):Wj (Mk prog w) A (P0 (.While test body orelse pos) env) Q E s:=by rw[exec_While];exact Wi (Wq (YV h))
set_option backward.match.sparseCases true in theorem ZI{body}(h:Wj (Mk prog w) (A.deeper env) (Qc body env) (λf s'=>R (.ok (.ret (match f with|.ret v=>v|_=>.none))) s') N0 s):Wx (Mk prog w) A (.func body env) R s:=by refine WC rfl ?_;show Wj _ (A.deeper env) (do point;match <-(Qc body env).onRaise (UP env) with|.ret v=>ret v|_=>ret .none) _ _ s;refine Wi (Xm (Wi (Xe (Wn h (λf s' h'=>?_) λa a z=>z))));cases f<;>exact wpAny_pure h'
end
end Wc
inductive Op where
 |add|sub|mul|shl|shr|Zc|bor|Yh|X6|pow
inductive Cm where
 |lt|le|gt|ge
inductive LK where
 |rng(down:Bool)
 |seq
 |keys
 |zip(n:Nat)
inductive T where
 |cst(v:Me)(k:T)
 |ld(c:Nat)(k:T)
 |ldc(c:Nat)(k:T)
 |st(c:Nat)(k:T)
 |pop(k:T)
 |dup(k:T)
 |W8(k:T)
 |fld(c:Nat)(k:T)
 |prop(c:Nat)(k:T)
 |XD(c:Nat)(k:T)
 |bin(op:Op)(k:T)
 |iop(op:Op)(k:T)
 |cmp(op:Cm)(k:T)
 |XK(op:Cm)(k:T)
 |eqv(neg:Bool)(k:T)
 |isn(neg:Bool)(k:T)
 |inn(neg:Bool)(xs:List Me)(k:T)
 |neg(k:T)
 |abk(k:T)
 |ite(a b:T)
 |blk(e k:T)
 |seq(s k:T)
 |Xz(n:Nat)(k:T)
 |Xa(n:Nat)(k:T)
 |YO(k:T)
 |idx(k:T)
 |XF(k:T)
 |sli(k:T)
 |sel(keys:List Me)(k:T)
 |call(n:Nat)(k:T)
 |meth(c:Nat)(k:T)
 |XM(n:Nat)(k:T)
 |bm(c:Nat)(k:T)
 |cb(n:Nat)(k:T)
 |len(k:T)
 |isi(t:Me)(k:T)
 |Xr(k:T)
 |abs(k:T)
 |YT(k:T)
 |Xb(k:T)
 |YC(k:T)
 |Yj(k:T)
 |unp(n:Nat)(k:T)
 |WA(kd:LK)(body k:T)
 |whl(body k:T)
 |Xo(rng:Bool)(c:Nat)(body k:T)
 |ret
 |Wz
 |brk
 |WZ
 |rai
 |yld
inductive Out where
 |ret(v:Me)
 |next(ρ:Loc)
 |brk(ρ:Loc)
 |WZ(ρ:Loc)
 |val(v:Me)(ρ:Loc)
noncomputable def u3:Op->Int->Int->Prop
 |.mul,a,b=>IntMulOk a b
 |.shl,a,b=>0<=b/\b<=1000000/\a.natAbs<2^64
 |.shr,_,b=>0<=b
 |.Yh,_,b=>b≠0/\b.natAbs.log2<9000
 |.X6,_,b=>b≠0
 |.pow,a,b=>0<=b/\b<=1000000/\a.natAbs<2^64
 |_,_,_=>True
noncomputable def opV:Op->Int->Int->Int
 |.add,a,b=>a+b
 |.sub,a,b=>a-b
 |.mul,a,b=>a*b
 |.shl,a,b=>a*2^b.toNat
 |.shr,a,b=>a.fdiv (2^b.toNat)
 |.Zc,a,b=>OB a b
 |.bor,a,b=>Oc a b
 |.Yh,a,b=>a.fdiv b
 |.X6,a,b=>a.fmod b
 |.pow,a,b=>a^b.toNat
noncomputable def yu:Cm->Int->Int->Bool
 |.lt,a,b=>M3 (a<b)
 |.le,a,b=>M3 (a<=b)
 |.gt,a,b=>M3 (b<a)
 |.ge,a,b=>M3 (b<=a)
structure Sys where
 prog:R9
 w:O7
 base:Hn
 os:O6
 cv:Loc:=[]
 kl:Ml->Option (List Me):=λa=>Mr
 kt:Ml->Option (List Me):=λa=>Mr
noncomputable def WJ(Z:Sys)(Φ:bv):Prop:=∀a o,Z.base a=Md o->Φ.o a=Md o/\¬Φ.fr a
noncomputable def Bq(Φ:bv)(here:Ml->Prop)(l:List VD):Prop:=∀env∈l,env.scope.kind=.function/\∃L,env.frame=Md L/\Φ.fr L/\(here L∨∃o,Φ.o L=Md o/\∀vs,o.data≠.fields vs)
variable{P:Ml->Prop}
theorem Bq.Wr{P':Ml->Prop}{l:List VD}(h:Bq Φ P l)(h1:∀a,Φ.fr a->Φ'.fr a)(h2:∀a o,Φ.o a=Md o->Φ'.o a=Md o)(h3:∀a,P a->P' a∨∃o,Φ'.o a=Md o/\∀vs,o.data≠.fields vs):Bq Φ' P' l:=λenv he=>by
 obtain z3:=h env he;refine ae z3.2 λL z4=>?_;have c:=z4.2.2;refine⟨z3.1,L,z4.1,h1 _ z4.2.1,?_⟩;rcases c with c|⟨o,c,d⟩;·exact h3 _ c
 ·exact .inr ⟨o,h2 _ _ c,d⟩
noncomputable def o8(n:Nat)(A:O9)(Φ:bv):Prop:=A.depth+20*n<=900/\A.units+60*n<=9000/\A.handled=Mr/\∃l,A.frames=Md l/\Bq Φ (λa=>False) l
theorem o8.le{m:Nat}(h:o8 m A Φ)(e:n<=m):o8 n A Φ:=⟨by have:=h.1;exact ao 0x108685000117082540448270b379508c4b841540448270336 [] [_,_,_] e this,by have:=h.2.1;exact ao 0x843e1800047194097809904e26792a118946502bc04c8270b3b [] [_,_,_] e this,h.2.2⟩
noncomputable def oM(n:Nat)(A:O9)(Φ:bv)(L:Ml):Prop:=A.depth+20*n<=900/\A.units+60*n<=9000/\A.handled=Mr/\∃l,A.frames=Md l/\Bq Φ (λa=>a=L) l
noncomputable def cS(n:Nat)(A:O9)(Φ:bv)(L:Ml):Prop:=A.depth+20*n+10<=900/\A.units+60*n+30<=9000/\A.handled=Mr/\∃l,A.frames=Md l/\Bq Φ (λa=>a=L) l
variable{L:Ml}
theorem cS.room(h:cS n A Φ L):oM n A Φ L:=⟨by have:=h.1;exact af 0x4200013e1050aa02241381e0d1b841540448270336 [] [_,_] this,by have:=h.2.1;exact af 0x2100009c6503c2bc04c8270bc9a646502bc04c8270b3b [] [_,_] this,h.2.2⟩
theorem cS.Xn{B:O9}(h:cS n A Φ L)(hd:B.depth<=A.depth+10)(hu:B.units<=A.units+30)(hh:B.handled=A.handled:=by rfl)(hf:B.frames=A.frames:=by rfl):oM n B Φ L:=⟨by have:=h.1;exact ao 0x108610000f7082855011242b8de6d268485704c83841540448270336 [] [_,_,_] hd this,by have:=h.2.1;exact ao 0x108610000f46503c2bc04c90ae47ab4ff090ae0990c6502bc04c8270b3b [] [_,_,_] hu this,hh.trans h.2.2.1,by rw[hf];exact h.2.2.2⟩
noncomputable def AS(Z:Sys)(Φ:bv)(Q:Me->Sg->Prop)(r:Pj)(s':Mn):Prop:=
 nW λv J' g'=>r=.ok (.ret v)/\Inv Φ J' g' s'.heap/\s'.gens=#[]/\s'.os=Z.os/\Q (er v) J'
noncomputable def ac(Z:Sys)(n:Nat)(f:Me)(args:List Me)(J:Sg)(Q:Me->Sg->Prop):Prop:=
 ∀(Φ:bv)(g:Ml->Own)(s:Mn)(A:O9)(vals:List Me),Inv Φ J g s.heap->WJ Z Φ->o8 n A Φ->s.gens=#[]->s.os=Z.os->vals.map er=args->
  Wc.Wx (Mk Z.prog Z.w) A (.call f ⟨vals,[]⟩) (AS Z Φ Q) s
variable{Q:Me->Sg->Prop}{Z:Sys}
theorem ac.Wr{m:Nat}{args:List Me}{Q':Me->Sg->Prop}(h:ac Z n f args J Q)(e:n<=m)(q:∀v J',Q v J'->Q' v J'):ac Z m f args J Q':=
 λΦ g s A vals I b r h1 h2 h3=>Wc.WR (h Φ g s A vals I b (r.le e) h1 h2 h3) λ_ _ ⟨v,J',g',a,b,c,d,z⟩=>⟨v,J',g',a,b,c,d,q _ _ z⟩
inductive dZ(J:Sg):Nat->Me->Me->Prop
 |int{d:Nat}{x:Int}{t u:Ug}:dZ J (d+1) (.int x t) (.int x u)
 |str{d:Nat}{x:Np}{t u:Ug}:dZ J (d+1) (.str x t) (.str x u)
 |none{d:Nat}:dZ J (d+1) .none .none
 |bool{d:Nat}{x:Bool}:dZ J (d+1) (.bool x) (.bool x)
 |list {d:Nat} {a b:Ml} {xs ys:List Me}:J a=Md (.list xs)->J b=Md (.list ys)->xs.length=ys.length->(∀p∈xs.zip ys,dZ J d p.1 p.2)->dZ J (d+1) (.ref a) (.ref b)
 |tup {d:Nat} {a b:Ml} {xs ys:List Me}:J a=Md (.tup xs)->J b=Md (.tup ys)->xs.length=ys.length->(∀p∈xs.zip ys,dZ J d p.1 p.2)->dZ J (d+1) (.ref a) (.ref b)
inductive sM(J:Sg):Me->Me->Bool->Prop
 |int {x y:Int} {t u:Ug}:sM J (.int x t) (.int y u) (M3 (x=y))
 |str {x y:Np} {t u:Ug}:sM J (.str x t) (.str y u) (M3 (x=y))
 |bytes {x y:Array UInt8} {t u:Ug}:sM J (.bytes x t) (.bytes y u) (M3 (x=y))
 |same{x y:Ml}:dZ J 9 (.ref x) (.ref y)->sM J (.ref x) (.ref y) Mj
 |odd {x y:Ml} {xs ys:List Me}:J x=Md (.list xs)->J y=Md (.list ys)->xs.length≠ys.length->sM J (.ref x) (.ref y) Mh
noncomputable def take?(n:Nat)(st:List Me):Option (List Me×List Me):=if n<=st.length then Md ((st.take n).reverse,st.drop n) else Mr
noncomputable def AX:Cell->Option (List Me)
 |.list xs=>Md xs
 |.tup xs=>Md xs
 |_=>Mr
noncomputable def WY:Cell->Option (List Me)
 |.list xs=>Md xs
 |_=>Mr
theorem qL(xs:List Me):WY (.list xs)=Md xs:=rfl
noncomputable def qX:Cell->Option (List Me)
 |.tup xs=>Md xs
 |_=>Mr
noncomputable def Yv:Cell->Option (List (Int×Me))
 |.W9 m=>Md m
 |_=>Mr
abbrev Nx:=Nat->Sg->Option (Option (List Me))
noncomputable def Ax(l:List Me):Nx:=λi a=>Md ((l[i]?).map λv=>[v])
noncomputable def rS(sel:Cell->Option (List Me))(a:Ml):Nx:=λi J=>((J a).bind sel).map λxs=>(xs[i]?).map λv=>[v]
noncomputable def CJ(a:Ml)(N:Nat):Nx:=λi J=>((J a).bind Yv).bind λm=>if m.length=N then Md ((m[i]?).map λp=>[.int p.1 0]) else Mr
noncomputable def uJ(as:List Ml):Nx:=λi J=>(as.mapM λa=>(J a).bind WY).map λxss=>xss.mapM λxs=>xs[i]?
noncomputable def s9(N D:Loc->Sg->Prop)(R:Me->Sg->Prop):Out->Sg->Prop:=λo J=>match o with
 |.next ρ=>N ρ J
 |.WZ ρ=>N ρ J
 |.brk ρ=>D ρ J
 |.ret v=>R v J
 |.val _ _=>False
abbrev aaJ(α:Type):=α->Loc->Sg->(Out->Sg->Prop)->Prop
noncomputable def sC(nx:Nx)(turn:aaJ (List Me))(D:Loc->Sg->Prop)(R:Me->Sg->Prop):Nat->Nat->Loc->Sg->Prop
 |0,_,_,_=>False
 |f+1,i,ρ,J=>(nx i J=Md Mr/\D ρ J)∨∃vs,nx i J=Md (Md vs)/\turn vs ρ J (s9 (sC nx turn D R f (i+1)) D R)
noncomputable def zp(turn:Loc->Sg->(Out->Sg->Prop)->Prop)(D:Loc->Sg->Prop)(R:Me->Sg->Prop):Nat->Loc->Sg->Prop
 |0,_,_=>False
 |f+1,ρ,J=>turn ρ J (s9 (zp turn D R f) D R)
noncomputable def wb(N:List Me->Sg->Prop)(ws:List Me):Out->Sg->Prop:=λo J=>match o with
 |.val w _=>N (ws++[w]) J
 |.next _=>N ws J
 |_=>False
noncomputable def kE(nx:Nx)(turn:Me->Sg->(Out->Sg->Prop)->Prop)(D:List Me->Sg->Prop):Nat->Nat->List Me->Sg->Prop
 |0,_,_,_=>False
 |f+1,i,ws,J=>(nx i J=Md Mr/\D ws J)∨∃v,nx i J=Md (Md [v])/\turn v J (wb (kE nx turn D f (i+1)) ws)
noncomputable def aQ(a b:Int):List Int:=(Oi (b-a).toNat).map λi:Nat=>a+(i:Int)
noncomputable def eH(a b:Int):List Int:=(Oi (a-b).toNat).map λi:Nat=>a-(i:Int)
noncomputable def cW(l:List Int):List Value:=l.map λi=>.int i 0
noncomputable def iO:Me->Bool
 |.builtin _=>Mh
 |_=>Mj
inductive fy(Z:Sys)(n:Nat)(J:Sg)(Q:Me->Sg->Prop):Me->Me->Prop
 |bytes {b:Array UInt8} {t u:Ug} {j:Int} {x:UInt8}:b.size<=1000000->0<=j->j<2^63->b[j.toNat]?=Md x->Q (.int x.toNat 0) J->fy Z n J Q (.bytes b t) (.int j u)
 |list {a:Ml} {xs:List Me} {v:Me} {j:Int} {u:Ug}:J a=Md (.list xs)->0<=j->j<2^63->xs[j.toNat]?=Md v->Q v J->fy Z n J Q (.ref a) (.int j u)
 |neg {a:Ml} {xs:List Me} {v:Me} {j:Int} {u:Ug}:J a=Md (.list xs)->j<0->-(2^63)<=j->0<=j+xs.length->xs[(j+xs.length).toNat]?=Md v->Q v J->fy Z n J Q (.ref a) (.int j u)
 |tup {a:Ml} {xs:List Me} {v:Me} {j:Int} {u:Ug}:J a=Md (.tup xs)->0<=j->j<2^63->xs[j.toNat]?=Md v->Q v J->fy Z n J Q (.ref a) (.int j u)
 |WK {a:Ml} {b:List UInt8} {x:UInt8} {j:Int} {u:Ug}:J a=Md (.WK b)->0<=j->j<2^63->b[j.toNat]?=Md x->Q (.int x.toNat 0) J->fy Z n J Q (.ref a) (.int j u)
 |Wv {a C:Ml} {fs:Loc} {f:Nat} {j:Int} {u:Ug}:J a=Md (.Wv C fs)->mt C 115298485004486023744151391=Md f->ac Z n (.ref f) [.ref a,.int j u] J Q->fy Z n J Q (.ref a) (.int j u)
inductive k8(Z:Sys)(n:Nat)(J:Sg)(Q:Sg->Prop):Me->Me->Me->Prop
 |list {a:Ml} {xs:List Me} {v:Me} {j:Int} {u:Ug}:J a=Md (.list xs)->0<=j->j<xs.length->xs.length<=1000000->Q (upd J a (.list (xs.set j.toNat v)))->k8 Z n J Q (.ref a) (.int j u) v
 |dict {a:Ml} {m:List (Int×Me)} {v:Me} {j:Int} {u:Ug}:J a=Md (.W9 m)->m.length<=1000000->Q (upd J a (.W9 (if m.any (·.1==j) then m.map (λp=>if p.1==j then(j,v) else p) else m++[(j,v)])))->k8 Z n J Q (.ref a) (.int j u) v
 |Wv {a C:Ml} {fs:Loc} {f:Nat} {v:Me} {j:Int} {u:Ug}:J a=Md (.Wv C fs)->mt C 115298706365414908258770783=Md f->ac Z n (.ref f) [.ref a,.int j u,v] J (λb=>Q)->k8 Z n J Q (.ref a) (.int j u) v
inductive gR(Z:Sys)(n:Nat)(J:Sg)(Q:Me->Sg->Prop):Me->Prop
 |bytes {b:Array UInt8} {t:Ug}:b.size<=1000000->Q (.int b.size 0) J->gR Z n J Q (.bytes b t)
 |list {a:Ml} {xs:List Me}:J a=Md (.list xs)->xs.length<=1000000->Q (.int xs.length 0) J->gR Z n J Q (.ref a)
 |tup {a:Ml} {xs:List Me}:J a=Md (.tup xs)->xs.length<=1000000->Q (.int xs.length 0) J->gR Z n J Q (.ref a)
 |WK {a:Ml} {b:List UInt8}:J a=Md (.WK b)->b.length<=1000000->Q (.int b.length 0) J->gR Z n J Q (.ref a)
 |dict {a:Ml} {m:List (Int×Me)}:J a=Md (.W9 m)->m.length<=1000000->Q (.int m.length 0) J->gR Z n J Q (.ref a)
 |Wv {a C:Ml} {fs:Loc} {f:Nat}:J a=Md (.Wv C fs)->mt C 26845041950351199=Md f->ac Z n (.ref f) [.ref a] J (λv J'=>∃i,v=.int i 0/\0<=i/\i<2^63/\Q v J')->gR Z n J Q (.ref a)
noncomputable def end?(v:Me)(d:Nat):Option Nat:=match v with
 |.none=>Md d
 |.int j _=>if And (0<=j) (j<2^63) then Md j.toNat else Mr
 |_=>Mr
noncomputable def cut(l u:Me)(len:Nat):Option (Nat×Nat):=(end? l 0).bind λi=>(end? u len).map λj=>(i,j)
inductive fT(J:Sg):Me->Me->Bool->Prop
 |int{i:Int}{t:Ug}:fT J (.int i t) (.type "int") Mj
 |aaP{i:Int}{t:Ug}:fT J (.int i t) (.type "bool") Mh
 |aa5{i:Int}{t:Ug}:fT J (.int i t) (.type "tuple") Mh
 |abl{b:Bool}:fT J (.bool b) (.type "int") Mj
 |tup {a:Ml} {xs:List Me}:J a=Md (.tup xs)->fT J (.ref a) (.type "tuple") Mj
 |list {a:Ml} {xs:List Me}:J a=Md (.list xs)->fT J (.ref a) (.type "tuple") Mh
 |Wv {a C:Ml} {fs:Loc}:J a=Md (.Wv C fs)->fT J (.ref a) (.ref C) Mj
 |aba {a C:Ml} {xs:List Me}:J a=Md (.list xs)->(Cp.lookup C).isSome=Mj->fT J (.ref a) (.ref C) Mh
noncomputable def EY(v x:Me):Option Bool:=match v,x with
 |.int a _,.int b _=>Md (M3 (a=b))
 |.str a _,.str b _=>Md (M3 (a=b))
 |_,_=>Mr
noncomputable def Ag(v:Me):List Me->Option Bool
 |[]=>Md Mh
 |x::r=>(EY v x).bind λb=>(Ag v r).map λc=>b||c
noncomputable def YS(vs:List Me)(b:List UInt8):Prop:=∃ns:List Int,vs=ns.map (λi=>.int i 0)/\(∀n∈ns,0<=n/\n<256)/\ns.map (λn=>n.toNat.toUInt8)=b
inductive BM(J:Sg):Nat->Me->String->Prop
 |Y5 {a:Ml} {xs:List Me}:J a=Md (.list xs)->BM J JK (.ref a) "list.append"
 |bapp {a:Ml} {b:List UInt8}:J a=Md (.WK b)->BM J JK (.ref a) "bytearray.append"
 |Y9 {a:Ml} {b:List UInt8}:J a=Md (.WK b)->BM J 111568023285348 (.ref a) "bytearray.extend"
 |Za {a:Ml} {m:List (Int×Me)}:J a=Md (.W9 m)->BM J 6776180 (.ref a) "dict.get"
 |Y6{i:Int}{t:Ug}:BM J JL (.int i t) "int.bit_length"
inductive rR(J:Sg)(Q:Me->Sg->Prop):String->Me->List Me->Prop
 |Y5 {a:Ml} {xs:List Me} {v:Me}:J a=Md (.list xs)->xs.length<=100000->Q .none (upd J a (.list (xs++[v])))->rR J Q "list.append" (.ref a) [v]
 |bapp {a:Ml} {b:List UInt8} {i:Int} {t:Ug}:J a=Md (.WK b)->0<=i->i<256->b.length<=100000->Q .none (upd J a (.WK (b++[PB i.toNat])))->rR J Q "bytearray.append" (.ref a) [.int i t]
 |Y9 {a:Ml} {b:List UInt8} {x:Array UInt8} {t:Ug}:J a=Md (.WK b)->b.length+x.size<=100000->Q .none (upd J a (.WK (b++x.toList)))->rR J Q "bytearray.extend" (.ref a) [.bytes x t]
 |Za {a:Ml} {m:List (Int×Me)} {i:Int} {t:Ug} {d:Me}:J a=Md (.W9 m)->Q (((m.find? (·.1==i)).map (·.2)).getD d) J->rR J Q "dict.get" (.ref a) [.int i t,d]
 |Y6{i:Int}{t:Ug}:0<i->Q (.int ((i.toNat.log2:Nat)+1:Int) 0) J->rR J Q "int.bit_length" (.int i t) []
inductive r7(op:Op)(J:Sg)(K:Me->Sg->Prop):Me->Me->Prop
 |int{a b:Int}{t u:Ug}:u3 op a b->K (.int (opV op a b) 0) J->r7 op J K (.int a t) (.int b u)
 |bytes {a b:Array UInt8} {t u:Ug}:op=.add->a.size+b.size<=100000->K (.bytes (a++b) 0) J->r7 op J K (.bytes a t) (.bytes b u)
 |abd {a:UInt8} {b:Int} {t u:Ug}:op=.mul->0<=b->b<=1000->K (.bytes (Ui b.toNat a) 0) J->r7 op J K (.bytes #[a] t) (.int b u)
 |list {a b:Ml} {xs ys:List Me}:op=.add->J a=Md (.list xs)->J b=Md (.list ys)->xs.length+ys.length<=100000->(∀x,J x=Mr->K (.ref x) (upd J x (.list (xs++ys))))->r7 op J K (.ref a) (.ref b)
 |aa9 {a:Ml} {v:Me} {b:Int} {u:Ug}:op=.mul->J a=Md (.list [v])->0<=b->b<=100000->(∀x,J x=Mr->K (.ref x) (upd J x (.list (M9 b.toNat v))))->r7 op J K (.ref a) (.int b u)
inductive vD(J:Sg)(K:Me->Sg->Prop):Me->Prop
 |bytes{b:Array UInt8}{t:Ug}:K (.bytes b 0) J->vD J K (.bytes b t)
 |WK {a:Ml} {b:List UInt8}:J a=Md (.WK b)->b.length<=100000->K (.bytes b.toArray 0) J->vD J K (.ref a)
 |list {a:Ml} {xs:List Me} {b:List UInt8}:J a=Md (.list xs)->YS xs b->b.length<=100000->K (.bytes b.toArray 0) J->vD J K (.ref a)
inductive Aw(Z:Sys)(J:Sg)(sel:Cell->Option (List Me))(kst:Ml->Option (List Me))(F:Ml->List Me->Prop):Me->Prop
 |cell {a:Ml} {xs:List Me}:(J a).bind sel=Md xs->F a xs->Aw Z J sel kst F (.ref a)
 |Yl {a:Ml} {xs:List Me}:kst a=Md xs->F a xs->Aw Z J sel kst F (.ref a)
noncomputable def Bi:Op->Bool
 |.add=>Mj|.sub=>Mj|.shl=>Mj|.shr=>Mj|.bor=>Mj
 |_=>Mh
noncomputable def p1(F:Me->List Me->Prop):List Me->Prop
 |v::st=>F v st
 |[]=>False
noncomputable def p2(F:Me->Me->List Me->Prop)(st:List Me):Prop:=p1 (λu st=>p1 (F u) st) st
noncomputable def bB(F:Int->Prop):Me->Prop
 |.int a _=>F a
 |_=>False
noncomputable def f8(F:Ml->Prop):Me->Prop
 |.ref a=>F a
 |_=>False
noncomputable def dT(F:Bool->Prop):Me->Prop
 |.bool a=>F a
 |_=>False
theorem bB.inv{F:Int->Prop}(h:bB F (er v)):bM λa t=>v=.int a t/\F a:=by cases v<;>first|exact⟨_,_,rfl,h⟩|exact h.elim
theorem f8.inv{F:Ml->Prop}(h:f8 F (er v)):∃a,v=.ref a/\F a:=by cases v<;>first|exact⟨_,rfl,h⟩|exact h.elim
theorem dT.inv{F:Bool->Prop}(h:dT F (er v)):∃a,v=.bool a/\F a:=by cases v<;>first|exact⟨_,rfl,h⟩|exact h.elim
theorem ints.inv{F:Int->Int->Prop}{w:Me}(h:bB (λb=>bB (λa=>F a b) (er v)) (er w)):yt λa t b u=>v=.int a t/\w=.int b u/\F a b:=by refine bI (bB.inv h) λb u z2=>?_;refine bI (bB.inv z2.2) λa t z1=>?_;exact⟨a,t,b,u,z1.1,z2.1,z1.2⟩
noncomputable abbrev Ft(K:Me->Loc->Sg->Prop):Out->Sg->Prop:=λo J=>match o with
 |.val v ρ=>K v ρ J
 |_=>False
noncomputable abbrev CU(K:Loc->Sg->Prop)(Q:Out->Sg->Prop):Out->Sg->Prop:=λo J=>match o with
 |.next ρ=>K ρ J
 |o=>Q o J
noncomputable def Src(J:Sg):LK->List Me->List Me->Nx->Prop
 |.rng down,st,st',nx=>p2 (λw v r=>r=st'/\bB (λb=>bB (λa=>(-1000000<=a/\a<=1000000/\-1000000<=b/\b<=1000000)/\nx=Ax (cW (if down then eH a b else aQ a b))) v) w) st
 |.seq,st,st',nx=>p1 (λo r=>r=st'/\f8 (λa=>((∃xs,J a=Md (.list xs))/\nx=rS WY a)∨((∃xs,J a=Md (.tup xs))/\nx=rS qX a)) o) st
 |.keys,st,st',nx=>p1 (λo r=>r=st'/\f8 (λa=>∃m,J a=Md (.W9 m)/\nx=CJ a m.length) o) st
 |.zip m,st,st',nx=>∃as,take? m st=Md (as.map MK,st')/\nx=uJ as
noncomputable def Gx(Z:Sys)(J:Sg):Bool->List Me->List Me->Nx->Prop
 |true,st,st',nx=>Src J (.rng Mh) st st' nx
 |false,st,st',nx=>p1 (λo r=>r=st'/\f8 (λa=>((∃xs,J a=Md (.list xs))/\nx=rS WY a)∨∃xs,Z.kl a=Md xs/\nx=Ax xs) o) st
noncomputable def exec(Z:Sys)(n:Nat):T->List Me->Loc->Sg->(Out->Sg->Prop)->Prop
 |.cst v k,st,ρ,J,Q=>exec Z n k (v::st) ρ J Q
 |.ld c k,st,ρ,J,Q=>∃v,gf ρ c=Md v/\exec Z n k (v::st) ρ J Q
 |.ldc c k,st,ρ,J,Q=>∃v,gf Z.cv c=Md v/\exec Z n k (v::st) ρ J Q
 |.st c k,st,ρ,J,Q=>p1 (λv st=>exec Z n k st (sf ρ c v) J Q) st
 |.pop k,st,ρ,J,Q=>p1 (λd st=>exec Z n k st ρ J Q) st
 |.dup k,st,ρ,J,Q=>p1 (λv st=>exec Z n k (v::v::st) ρ J Q) st
 |.W8 k,st,ρ,J,Q=>p2 (λu v st=>exec Z n k (v::u::st) ρ J Q) st
 |.fld c k,st,ρ,J,Q=>p1 (λo st=>f8 (λa=>nW λC fs v=>J a=Md (.Wv C fs)/\gf fs c=Md v/\exec Z n k (v::st) ρ J Q) o) st
 |.prop c k,st,ρ,J,Q=>p1 (λo st=>f8 (λa=>nW λC fs f=>J a=Md (.Wv C fs)/\pt C c=Md f/\ac Z n (.ref f) [.ref a] J λv J'=>iO v=Mj/\exec Z n k (v::st) ρ J' Q) o) st
 |.XD c k,st,ρ,J,Q=>p2 (λo v st=>f8 (λa=>bM λC fs=>J a=Md (.Wv C fs)/\((gf fs c).isSome=Mj∨(Ay C c=Mj/\fs.length<=100))/\iO v=Mj/\exec Z n k st ρ (upd J a (.Wv C (sf fs c v))) Q) o) st
 |.bin op k,st,ρ,J,Q=>p2 (λw v st=>r7 op J (λr J'=>exec Z n k (r::st) ρ J' Q) v w) st
 |.iop op k,st,ρ,J,Q=>p2 (λw v st=>bB (λb=>bB (λa=>u3 op a b/\Bi op=Mj/\exec Z n k (.int (opV op a b) 0::st) ρ J Q) v) w) st
 |.cmp op k,st,ρ,J,Q=>p2 (λw v st=>bB (λb=>bB (λa=>exec Z n k (.bool (yu op a b)::st) ρ J Q) v) w) st
 |.XK op k,st,ρ,J,Q=>p2 (λw v st=>bB (λb=>bB (λa=>exec Z n k (.bool (yu op a b)::w::st) ρ J Q) v) w) st
 |.eqv neg k,st,ρ,J,Q=>p2 (λb a st=>∃r,sM J a b r/\exec Z n k (.bool (if neg then !r else r)::st) ρ J Q) st
 |.isn neg k,st,ρ,J,Q=>p1 (λv st=>exec Z n k (.bool (if neg then !(v==.none) else(v==.none))::st) ρ J Q) st
 |.inn neg xs k,st,ρ,J,Q=>p1 (λv st=>∃r,Ag v xs=Md r/\exec Z n k (.bool (if neg then !r else r)::st) ρ J Q) st
 |.neg k,st,ρ,J,Q=>p1 (λv st=>bB (λa=>exec Z n k (.int (-a) 0::st) ρ J Q) v) st
 |.abk k,st,ρ,J,Q=>p1 (λv st=>dT (λb=>exec Z n k (.bool (!b)::st) ρ J Q) v) st
 |.ite a b,st,ρ,J,Q=>p1 (λv st=>dT (λc=>(c=Mj->exec Z n a st ρ J Q)/\(c=Mh->exec Z n b st ρ J Q)) v) st
 |.blk e k,st,ρ,J,Q=>exec Z n e [] ρ J (Ft λv ρ' J'=>exec Z n k (v::st) ρ' J' Q)
 |.seq s k,st,ρ,J,Q=>exec Z n s [] ρ J (CU (λρ' J'=>exec Z n k st ρ' J' Q) Q)
 |.Xz m k,st,ρ,J,Q=>bM λvs st'=>take? m st=Md (vs,st')/\∀x,J x=Mr->exec Z n k (.ref x::st') ρ (upd J x (.tup vs)) Q
 |.Xa m k,st,ρ,J,Q=>bM λvs st'=>take? m st=Md (vs,st')/\∀x,J x=Mr->exec Z n k (.ref x::st') ρ (upd J x (.list vs)) Q
 |.YO k,st,ρ,J,Q=>∀x,J x=Mr->exec Z n k (.ref x::st) ρ (upd J x (.W9 [])) Q
 |.idx k,st,ρ,J,Q=>p2 (λi o st=>fy Z n J (λv J'=>exec Z n k (v::st) ρ J' Q) o i) st
 |.XF k,st,ρ,J,Q=>p2 (λi o st=>p1 (λv st=>k8 Z n J (λJ'=>exec Z n k st ρ J' Q) o i v) st) st
 |.sli k,st,ρ,J,Q=>p2 (λu l st=>p1 (λo st=>Aw Z J WY Z.kl (λd xs=>bM λi j=>cut l u xs.length=Md (i,j)/\xs.length<=1000000/\∀x,J x=Mr->exec Z n k (.ref x::st) ρ (upd J x (.list ((xs.take j).drop i))) Q) o) st) st
 |.sel keys k,st,ρ,J,Q=>p1 (λkey st=>nW λvs st' p=>take? keys.length st=Md (vs,st')/\(keys.zip vs).find? (λp=>p.1==key)=Md p/\exec Z n k (p.2::st') ρ J Q) st
 |.call m k,st,ρ,J,Q=>nW λvs f st'=>take? m st=Md (vs,f::st')/\ac Z n f vs J λv J'=>exec Z n k (v::st') ρ J' Q
 |.meth c k,st,ρ,J,Q=>p1 (λo st=>f8 (λa=>nW λC fs f=>J a=Md (.Wv C fs)/\mt C c=Md f/\gf fs c=Mr/\exec Z n k (.ref f::o::st) ρ J Q) o) st
 |.XM m k,st,ρ,J,Q=>yt λvs f o st'=>take? m st=Md (vs,f::o::st')/\ac Z n f (o::vs) J λv J'=>exec Z n k (v::st') ρ J' Q
 |.bm c k,st,ρ,J,Q=>p1 (λo st=>∃id,BM J c o id/\exec Z n k (.builtin id::o::st) ρ J Q) st
 |.cb m k,st,ρ,J,Q=>yt λvs id o st'=>take? m st=Md (vs,.builtin id::o::st')/\rR J (λv J'=>exec Z n k (v::st') ρ J' Q) id o vs
 |.len k,st,ρ,J,Q=>p1 (λo st=>gR Z n J (λv J'=>exec Z n k (v::st) ρ J' Q) o) st
 |.isi t k,st,ρ,J,Q=>p1 (λv st=>∃b,fT J v t b/\exec Z n k (.bool b::st) ρ J Q) st
 |.Xr k,st,ρ,J,Q=>p1 (λv st=>dT (λb=>exec Z n k (.int (if b then 1 else 0) 0::st) ρ J Q) v) st
 |.abs k,st,ρ,J,Q=>p1 (λv st=>bB (λa=>exec Z n k (.int (a.natAbs:Int) 0::st) ρ J Q) v) st
 |.YT k,st,ρ,J,Q=>p2 (λw v st=>bB (λb=>bB (λa=>exec Z n k (.int (if b<a then b else a) 0::st) ρ J Q) v) w) st
 |.Xb k,st,ρ,J,Q=>p1 (λv st=>vD J (λr J'=>exec Z n k (r::st) ρ J' Q) v) st
 |.YC k,st,ρ,J,Q=>∀x,J x=Mr->exec Z n k (.ref x::st) ρ (upd J x (.WK [])) Q
 |.Yj k,st,ρ,J,Q=>p1 (λo st=>Aw Z J AX Z.kt (λd xs=>xs.length<=100000/\∀x,J x=Mr->exec Z n k (.ref x::st) ρ (upd J x (.list xs)) Q) o) st
 |.unp m k,st,ρ,J,Q=>p1 (λo st=>f8 (λa=>∃xs,J a=Md (.tup xs)/\xs.length=m/\exec Z n k (xs++st) ρ J Q) o) st
 |.WA kd body k,st,ρ,J,Q=>nW λst' nx f=>Src J kd st st' nx/\sC nx (λvs ρ J Q'=>exec Z n body vs ρ J Q') (λρ' J'=>exec Z n k st' ρ' J' Q) (λv J'=>Q (.ret v) J') f 0 ρ J
 |.whl body k,st,ρ,J,Q=>∃f,zp (λρ J Q'=>exec Z n body [] ρ J Q') (λρ' J'=>exec Z n k st ρ' J' Q) (λv J'=>Q (.ret v) J') f ρ J
 |.Xo rng c body k,st,ρ,J,Q=>nW λst' nx f=>f<=100001/\Gx Z J rng st st' nx/\
   kE nx (λv J Q'=>exec Z n body [] [(c,v)] J Q') (λws J'=>∀x,J' x=Mr->exec Z n k (.ref x::st') ρ (upd J' x (.list ws)) Q) f 0 [] J
 |.ret,st,_,J,Q=>p1 (λv d=>Q (.ret v) J) st
 |.Wz,_,ρ,J,Q=>Q (.next ρ) J
 |.brk,_,ρ,J,Q=>Q (.brk ρ) J
 |.WZ,_,ρ,J,Q=>Q (.WZ ρ) J
 |.rai,_,_,_,_=>False
 |.yld,st,ρ,J,Q=>p1 (λv d=>Q (.val v ρ) J) st
structure CX where
 K:PQ
 scope:O2
noncomputable def rl:Op->RG
 |.add=>.Add|.sub=>.Sub|.mul=>.Mult|.shl=>.LShift|.shr=>.RShift|.Zc=>.BitAnd|.bor=>.BitOr|.Yh=>.FloorDiv|.X6=>.Mod|.pow=>.Pow
noncomputable def rX:Cm->U8
 |.lt=>.Lt|.le=>.LtE|.gt=>.Gt|.ge=>.GtE
noncomputable def HK:(op:RG)->Option {o:Op // op=rl o}
 |.Add=>Md ⟨.add,rfl⟩|.Sub=>Md ⟨.sub,rfl⟩|.Mult=>Md ⟨.mul,rfl⟩|.LShift=>Md ⟨.shl,rfl⟩|.RShift=>Md ⟨.shr,rfl⟩|.BitAnd=>Md ⟨.Zc,rfl⟩|.BitOr=>Md ⟨.bor,rfl⟩|.FloorDiv=>Md ⟨.Yh,rfl⟩|.Mod=>Md ⟨.X6,rfl⟩|.Pow=>Md ⟨.pow,rfl⟩
 |_=>Mr
noncomputable def GC:(op:U8)->Option {o:Cm // op=rX o}
 |.Lt=>Md ⟨.lt,rfl⟩|.LtE=>Md ⟨.le,rfl⟩|.Gt=>Md ⟨.gt,rfl⟩|.GtE=>Md ⟨.ge,rfl⟩
 |_=>Mr
noncomputable def Xl:MY->Bool
 |.Starred _ _=>Mj
 |_=>Mh
noncomputable def dA:MY->Bool
 |.Slice ..=>Mj
 |_=>Mh
noncomputable def YD:MY->Bool
 |.Set ..=>Mj
 |_=>Mh
noncomputable def cR(X:CX)(scope:O2):CX:=⟨X.K,{scope with names:=scope.names.map λ(n,k)=>if k==.free&&X.scope.kind==.function&&X.scope.names.lookup n==Md .cell then(n,.cell) else(n,k)}⟩
abbrev EC(X:CX)(scope:O2)(y:Np):Prop:=
 And (scope.kind=.function) (And (∀x∈scope.names,x.2≠.cell) (And (∀x∈scope.names,x.2=.free->And (X.scope.kind=.function) (X.scope.names.lookup x.1=Md .cell))
 (And (∀x∈scope.names,x.2=.local->scope.names.lookup x.1=Md .local) (And (scope.names.lookup y=Md .local) (enc y≠0)))))
noncomputable def j8(X:CX)(scope:O2)(y:Np):Bool:=M3 (EC X scope y)
inductive St(Z:Sys)(Φ:bv)(J:Sg)(L:Ml)(ρ:Loc)(s:Mn):Prop
 |mk (g:Ml->Own) (m:Np->Option Me) (inv:Inv Φ J g s.heap) (hL:g L=.loc) (ns:s.heap.Ns L m) (hm:dP m ρ) (gens:s.gens=#[]) (os:s.os=Z.os)
variable{ρ:Loc}
theorem St.gens:St Z Φ J L ρ s->s.gens=#[]|⟨_,_,_,_,_,_,h,_⟩=>h
theorem St.os:St Z Φ J L ρ s->s.os=Z.os|⟨_,_,_,_,_,_,_,h⟩=>h
theorem St.tk(x:St Z Φ J L ρ s)(t:Nat):St Z Φ J L ρ {s with toks:=t}:=by cases x with|mk g m a b c d e f=>exact .mk g m a b c d e f
noncomputable def PV(Z:Sys)(Φ:bv)(L:Ml)(ρ:Loc)(C:Me->Sg->Prop)(v:Me)(s':Mn):Prop:=∃J',St Z Φ J' L ρ s'/\C (er v) J'
variable{op:Op}{C:Me->Sg->Prop}
theorem zl{a b:Int}{u:Ug}(x:St Z Φ J L ρ s)(ok:u3 op a b)(h:C (.int (opV op a b) 0) J):My (Mk Z.prog Z.w) A (binaryOp (rl op) (.int a t) (.int b u)) (PV Z Φ L ρ C) E s:=by
 have q:PV Z Φ L ρ C (.int (opV op a b) s.toks) {s with toks:=s.toks+1}:=⟨J,x.tk _,h⟩;induction op with
 |add=>exact PyProof.Rows.add_int q
 |sub=>exact sub_int' q
 |mul=>exact mul_int q ok
 |shl=>exact lshift_int_small ok.1 ok.2.1 ok.2.2 q
 |shr=>exact rshift_int ok q
 |Zc=>exact and_int q
 |bor=>exact or_int q
 |Yh=>exact floordiv_int ok.1 q (.inl (PyProof.noPylong_of_log2 ok.2))
 |X6=>exact mod_int' ok q
 |pow=>exact pow_int_small ok.1 ok.2.1 ok.2.2 q
theorem Ar{a b:Int}{u:Ug}(x:St Z Φ J L ρ s)(ok:u3 op a b)(h:C (.int (opV op a b) 0) J)(ho:Bi op=Mj):My (Mk Z.prog Z.w) A (UO (rl op) (.int a t) (.int b u)) (PV Z Φ L ρ C) E s:=by
 have q:PV Z Φ L ρ C (.int (opV op a b) s.toks) {s with toks:=s.toks+1}:=⟨J,x.tk _,h⟩;induction op with
 |add=>exact PyProof.Rows.iadd_int q
 |sub=>exact PyProof.Rows.isub_int q
 |shl=>exact ilshift_int_small ok.1 ok.2.1 ok.2.2 q
 |shr=>exact irshift_int ok q
 |bor=>exact ior_int q
 |_=>cases ho
theorem tB{op:Cm}{a b:Int}{u:Ug}(x:St Z Φ J L ρ s)(h:C (.bool (yu op a b)) J):My (Mk Z.prog Z.w) A (Qk (rX op) (.int a t) (.int b u)) (PV Z Φ L ρ C) E s:=by
 have q:PV Z Φ L ρ C (.bool (yu op a b)) s:=⟨J,x,h⟩;induction op with
 |lt=>exact PyProof.Rows.lt_int q
 |le=>exact PyProof.Rows.le_int q
 |gt=>exact PyProof.Rows.gt_int q
 |ge=>exact PyProof.Rows.ge_int q
variable{ns:List Np}
theorem gz(nd:ns.Nodup):∀{i:Nat}{n:Np}{v:Me},ns[i]?=Md n->vs[i]?=Md v->(ns.zip vs).lookup n=Md v:=by
 induction ns generalizing vs with
 |nil=>intro i n v h;simp at h
 |cons m r ih=>
  intro i n v h1 h2;cases vs with
  |nil=>simp at h2
  |cons u vs=>
   rw[OI,Ox];induction i with
   |zero=>simp at h1 h2;subst h1 h2;simp
   |succ i=>simp only[QO] at h1 h2;have hm:n∈r:=MP h1;have:(n==m)=false:=beq_eq_false_iff_ne.mpr λq=>(OF.mp nd).1 (q▸hm);rw[this];exact ih (OF.mp nd).2 h1 h2
theorem nB(nd:ns.Nodup):∀{i:Nat}{n:Np},ns[i]?=Md n->vs.length<=i->(ns.zip vs).lookup n=none:=by
 induction ns generalizing vs with
 |nil=>intro i n h;simp at h
 |cons m r ih=>
  intro i n h1 h2;induction vs with
  |nil=>rfl
  |cons u vs=>
   rw[OI,Ox];induction i with
   |zero=>simp at h2
   |succ i=>simp only[QO] at h1;have hm:n∈r:=MP h1;have:(n==m)=false:=beq_eq_false_iff_ne.mpr λq=>(OF.mp nd).1 (q▸hm);rw[this];exact ih (OF.mp nd).2 h1 (by simpa using h2)
variable{l:List (Np×Me)}
theorem nJ(hl:ns.length<=vs.length)(h:∀(i:Nat)(n:Np)(v:Me),ns[i]?=Md n->vs[i]?=Md v->l.lookup n=Md v):(ns.filterMap λn=>(l.lookup n).map (n,·))=ns.zip vs:=by
 induction ns generalizing vs with
 |nil=>rfl
 |cons m r ih=>
  induction vs with
  |nil=>simp at hl
  |cons v vs=>rw[List.filterMap_cons,h 0 m v rfl rfl];simp only[Pc,OI];rw[ih (by simpa using hl) λi n u h1 h2=>h (i+1) n u (by simpa using h1) (by simpa using h2)]
noncomputable def fill(l:List (Np×Me)):List (Np×Me)->List (Np×Me)
 |[]=>l
 |(n,d)::r=>fill (if(l.lookup n).isNone then l++[(n,d)] else l) r
theorem iH{n:Np}{v:Me}:∀{r l:List (Np×Me)},l.lookup n=Md v->(fill l r).lookup n=Md v
 |[],_,h=>h
 |(m,d)::r,l,h=>by
  refine iH (r:=r) ?_;split;·rw[PI,h];rfl
  ·exact h
theorem qS{n:Np}{d:Me}:∀{r l:List (Np×Me)}{i:Nat},(r.map (·.1)).Nodup->r[i]?=Md (n,d)->l.lookup n=Mr->(fill l r).lookup n=Md d
 |[],_,i,_,h,_=>by simp at h
 |(m,e)::r,l,0,nd,h,hn=>by simp at h;obtain⟨rfl,rfl⟩:=h;refine iH (r:=r) ?_;rw[hn];simp[PI,hn]
 |(m,e)::r,l,i+1,nd,h,hn=>by
  simp only[QO] at h;simp only[Nn,OF] at nd;refine qS (r:=r) nd.2 h ?_;have hm:n≠m:=λq=>nd.1 (q▸NB (f:=(·.1)) (MP h));split;·rw[PI,hn];simp[Ox,beq_eq_false_iff_ne.mpr hm]
  ·exact hn
theorem r9{M:RX}{Q:List (Np×Me)->Mn->Prop}(r:List (Np×Me)):∀{l:List (Np×Me)},Q (fill l r) s-> My M A (forIn r l λx (b:List (Np×Me))=>(if(b.lookup x.1).isNone then NO (QB (b++[(x.1,x.2)])) else NO (QB b):RW (ForInStep (List (Np×Me))))) Q E s:=by
 induction r with
 |nil=>intro l h;rw[List.forIn_nil];exact MC h
 |cons p r ih=>
  intro l h;obtain⟨n,d⟩:=p;rw[List.forIn_cons];refine Mg ?_;dsimp only;cases hq:(l.lookup n).isNone with
  |true=>rw[if_pos rfl];refine MC (ih ?_);have h:Q (fill (if(l.lookup n).isNone=Mj then l++[(n,d)] else l) r) s:=h;rw[if_pos hq] at h;exact h
  |false=>rw[if_neg (by decide)];refine MC (ih ?_);have h:Q (fill (if(l.lookup n).isNone=Mj then l++[(n,d)] else l) r) s:=h;rw[if_neg (by rw[hq];decide)] at h;exact h
inductive aaO(p:VF)(ns:List Np):Prop where
 |mk (po:p.posonlyargs=[])
  (ar:p.args.map (·.arg)=ns)
  (va:p.vararg=Mr)
  (ko:p.kwonlyargs=[])
  (kw:p.kwarg=Mr)
variable{ds:List Me}
theorem zW{vals:List Me}(nd:ns.Nodup)(h2:ds.length<=ns.length)(h3:ns.length<=vals.length+ds.length):(ns.take (ns.length-ds.length)).filter (λn=>((ns.zip vals).lookup n).isNone)=[]:=by rw[List.filter_eq_nil_iff];intro n hn;refine ae (List.getElem_of_mem hn) λi z1=>?_;refine ae z1 λhi z2=>?_;rw[OJ] at hi;have hv:i<vals.length:=iX 0x42484508610001a5510cc565aa866a5228a0a08ea8472159054140f [] [_,_,_,_,_,_] h3 hi (Mf h2) (OS _ _);rw[<-z2,List.getElem_take,gz nd (MH _) (MH hv)];nofun
theorem zA{vals:List Me}(nd:ns.Nodup)(h1:vals.length<=ns.length)(h2:ds.length<=ns.length)(h3:ns.length<=vals.length+ds.length):(ns.filterMap λn=>((fill (ns.zip vals) ((ns.drop (ns.length-ds.length)).zip ds)).lookup n).map (n,·))=ns.zip (vals++ds.drop (vals.length+ds.length-ns.length)):=by
 refine nJ (by rw[MI,Po];exact HG h3) λi n v hi hv=>?_;by_cases hlt:i<vals.length;·rw[M8 hlt] at hv;exact iH (gz nd hi hv)
 ·have hle:=Rf hlt;rw[MZ hle,QE] at hv;have hin:i<ns.length:=(ML.mp hi).1;refine qS ?_ ((Qo (i:=i-(ns.length-ds.length))).mpr ⟨?_,?_⟩) (nB nd hi hle);·rw[Rg (by rw[Po];exact ao 0x422842003da9413428f6aa42b4a9054130f [] [_,_,_,_] (Mf h2) (Mf (V9 _ _)))];exact nd.sublist (List.drop_sublist _ _)
  ·rw[QE,show ns.length-ds.length+(i-(ns.length-ds.length))=i from af 0x8420027080004e5508cfa3b2a8267d1d [] [_,_,_] (Mf (aS Lo [] [_,_,_,_,_] h3 hlt (Mf h2)))];exact hi
  ·rw[show i-(ns.length-ds.length)=vals.length+ds.length-ns.length+(i-vals.length) from iX 0x42684908e10001a42784b08a10801a65d4856a5238ba19d54234e98e5a826851faa2d0ad4a472a11c151d [] [_,_,_,_,_,_,_,_] (Mf h2) (Mf (aS Lo [] [_,_,_,_,_] h3 hlt (Mf h2))) (Mf h3) (Mf (af 0x840002750930954130f [] [_,_] hlt))];exact hv
variable{fd:Su}
theorem rO{vals:List Me}(hp:aaO fd.params ns)(nd:ns.Nodup)(hd:∀(M:RX)(A:O9)(E:Me->Mn->Prop)(Q:Option (Array Me)->Mn->Prop),(∀x:Option (Array Me),(x.getD #[]).toList=ds->Q x s)->My M A (seqItems? fd.defaults) Q E s)(h1:vals.length<=ns.length)(h2:ds.length<=ns.length)(h3:ns.length<=vals.length+ds.length):V0 s fd ⟨vals,[]⟩ (ns.zip (vals++ds.drop (vals.length+ds.length-ns.length))):=by
 intro M A E Q hq;obtain⟨_,_,⟨po,ar,va,ko,_,kg,_⟩,_,_,_,_,df⟩:=fd;induction hp with
 |mk e1 e2 e3 e4 e5=>
 replace e1:po=[]:=e1;replace e2:ar.map (·.arg)=ns:=e2;replace e3:va=none:=e3;replace e4:ko=[]:=e4;replace e5:kg=none:=e5;subst e1 e2 e3 e4 e5;show My M A (seqItems? df>>=_) Q E _;refine Mg (hd M A E _ λx hx=>?_);subst hx;have e0:(x.getD #[]).toList.drop ((x.getD #[]).toList.length-(ar.map (·.arg)).length)=(x.getD #[]).toList:=by rw[Um h2];rfl
 refine Un (decide_eq_false λz=>absurd (of_decide_eq_true (MR.mp z).1) (PG.mpr h1)) (Un (decide_eq_false λz=>?c2) (Mg (r9 (Q:=λslots s'=>_) _ (MC ?_))));case c2=>
  refine TA (z.symm.trans (congrArg (λl:List Np=>!l.isEmpty) (Eq.trans (b:=(ar.map (·.arg)).take ((ar.map (·.arg)).length-(x.getD #[]).toList.length) |>.filter _) ?_ (zW nd h2 h3))))
  exact congrArg (λd:List Me=>((ar.map (·.arg)).take ((ar.map (·.arg)).length-d.length)).filter (λn=>(((ar.map (·.arg)).zip vals).lookup n).isNone)) e0
 show Q (List.filterMap (λn=>((fill ((ar.map (·.arg)).zip vals) (((ar.map (·.arg)).drop ((ar.map (·.arg)).length-((x.getD #[]).toList.drop ((x.getD #[]).toList.length-(ar.map (·.arg)).length)).length)).zip ((x.getD #[]).toList.drop ((x.getD #[]).toList.length-(ar.map (·.arg)).length)))).lookup n).map (n,·)) (ar.map (·.arg)++[])) _;rw[e0,NG,zA nd h1 h2 h3];exact hq
noncomputable def bv.add(Φ:bv)(L:Ml)(o:P9):bv:=⟨λb=>if b=L then Md o else Φ.o b,Φ.fr⟩
theorem bv.XU:(Φ.add L o).o L=Md o:=if_pos rfl
theorem bv.YX{b:Ml}(h:b≠L):(Φ.add L o).o b=Φ.o b:=if_neg h
theorem bv.Zt{o':P9}(h:Φ.o L=Mr)(e:Φ.o a=Md o):(Φ.add L o').o a=Md o:=(if_neg λq=>by rw[q,h] at e;cases e).trans e
inductive x7(Z:Sys)(Φ:bv)(J:Sg)(L:Ml)(ρ:Loc)(n:Nat)(A:O9)(s:Mn):Prop
 |mk (Φ':bv) (g:Ml->Own):Inv Φ' J g s.heap->WJ Z Φ'->o8 n A Φ'->(∀J' g' s',Inv Φ' J' g' s'.heap->s'.gens=#[]->s'.os=Z.os->St Z Φ J' L ρ s')->x7 Z Φ J L ρ n A s
theorem St.aae(hb:WJ Z Φ)(hr:oM n A Φ L)(x:St Z Φ J L ρ s):x7 Z Φ J L ρ n A s:=by
 obtain⟨g,m,I,hL,⟨oL,es,ep,hLo,r⟩,hm,hg,ho⟩:=x;have hΦL:Φ.o L=none:=I.Z8 (by rw[hL];exact nofun);refine⟨Φ.add L oL,ic g L .W7,I.Zf (.inl hL) ⟨_,hLo⟩ (λb q=>⟨bv.YX q,Pm⟩) (λo e=>?_) λb=>.inl rfl,λa o e=>⟨bv.Zt hΦL (hb a o e).1,(hb a o e).2⟩,?_,λJ' g' s' I2 hg' ho'=>?_⟩;·exact⟨rfl,by rw[hLo,<-e];exact bv.XU.symm⟩
 ·refine ae hr.2.2.2 λl z3=>?_;exact⟨hr.1,hr.2.1,hr.2.2.1,l,z3.1,z3.2.Wr (λb q=>q) (λa o e=>bv.Zt hΦL e) λa q=>.inr ⟨oL,by rw[q];exact bv.XU,λvs z=>by rw[r.1] at z;cases z⟩⟩
 ·have hL2:=I2.1 L oL bv.XU;refine ae hL2.1 λsl z2=>?_;have hL3:=z2.1;exact⟨ic g' L .loc,m,I2.Zf (.inr hL2.2) ⟨_,hL3⟩ (λb q=>⟨(bv.YX q).symm,Pm⟩) (λo e=>by rw[hΦL] at e;cases e) λb=>.inr rfl,bg,⟨_,es,ep,hL3,r⟩,hm,hg',ho'⟩
theorem tm{vals:List Me}(hb:WJ Z Φ)(hr:oM n A Φ L)(x:St Z Φ J L ρ s)(h:ac Z n f (vals.map er) J C):Wc.Wx (Mk Z.prog Z.w) A (.call f ⟨vals,[]⟩) (λr s'=>∃v,r=.ok (.ret v)/\PV Z Φ L ρ C v s') s:=by
 have zqi:_:=x.aae hb hr;induction zqi with
 |mk Φ' g I hb' hr' back=>exact Wc.WR (h _ _ s A vals I hb' hr' x.gens x.os rfl) λr s' ⟨v,J',g',e,I',h1,h2,hC⟩=>⟨v,e,J',back J' g' s' I' h1 h2,hC⟩
theorem gX{vals:List Me}(hb:WJ Z Φ)(hr:oM n A Φ L)(x:St Z Φ J L ρ s)(h:ac Z n f (vals.map er) J C):Wc.Wj (Mk Z.prog Z.w) A (OH f vals) (PV Z Φ L ρ C) E s:=
 Wc.WO (Wc.WR (tm hb hr x h) λr s' ⟨v,e,q⟩=>by rw[e];exact q)
noncomputable def Bj:Data->Option (Array Me×Nat)
 |.seq vs n=>Md (vs,n)
 |_=>Mr
variable{d:Data}{v:Array Me×Nat}
theorem s8(h:Bj d=Md v):d=.seq v.1 v.2:=by cases d<;>first|exact cns h|exact congrArg (λx:Array Me×Nat=>Data.seq x.1 x.2) (MJ h)
noncomputable def Ai(o:P9):Option (Array Me×Nat):=bif o.cls==.type "tuple"&&o.dict.isNone then Bj o.data else Mr
theorem tG(h:Ai o=Md v):o=⟨.type "tuple",Mr,.seq v.1 v.2,o.slots⟩:=by
 obtain⟨c,d,dt,sl⟩:=o;unfold Ai at h;cases q:(c==.type "tuple"&&d.isNone) with
 |false=>rw[q] at h;cases h
 |true=>rw[q] at h;have z:=MR.mp q;rw[beq_iff_eq.mp z.1,Pa.mp z.2,show dt=_ from s8 h]
noncomputable def wf(K:PQ)(d:Me)(ds:List Me):Bool:=match d with
 |.none=>ds.isEmpty
 |.ref a=>(K.lookup a).any λo=>(Bj o.data).any λv=>v.1.toList.map er==ds
 |_=>Mh
noncomputable def Zw(p:VF)(ns:List Nat)(sc:O2):Bool:=
 p.posonlyargs.isEmpty&&p.vararg.isNone&&p.kwonlyargs.isEmpty&&p.kwarg.isNone&&(p.args.map λa=>enc a.arg)==ns&&M3 ns.Nodup&&ns.all (· != 0)&&p.args.all λa=>sc.names.lookup a.arg==Md .local
noncomputable def DH:(d:Data)->Option {fd:Su // d=.func fd}
 |.func fd=>Md ⟨fd,rfl⟩
 |_=>Mr
noncomputable def aaa(d:Data):Option FuncData:=(DH d).map UA
theorem oU(h:aaa d=Md fd):d=.func fd:=ae (MQ.mp h) λx z=>x.2.trans (congrArg _ z.2)
noncomputable def cP(K:PQ)(f:Ml):Option FuncData:=(K.lookup f).bind λo=>aaa o.data
noncomputable def wz:(d:FuncBody)->Option {b:List OO // d=.stmts b}
 |.stmts b=>Md ⟨b,rfl⟩
 |_=>Mr
noncomputable def lg(d:FuncBody):Option (List OO):=(wz d).map UA
abbrev HB(K:PQ)(fd:Su)(ns:List Nat)(ds:List Me):Prop:=Zw fd.params ns fd.scope=Mj/\fd.globals=Nz/\fd.builtins=Qd/\fd.closure.isEmpty=Mj/\fd.scope.isCoroutine=Mh/\fd.scope.isGenerator=Mh/\fd.scope.kind=.function/\
 fd.scope.names.all (λx=>x.2 !=.cell)=Mj/\codeIn K fd.code fd.qualname=Mj/\wf K fd.defaults ds=Mj/\ds.length<=ns.length
noncomputable def kQ(K:PQ)(f:Ml)(ns:List Nat)(ds:List Me):Bool:=match cP K f with
 |some fd=>(letI:∀{a b:Prop}[Decidable a][Decidable b],Decidable (An a b):=Ea;M3 (HB K fd ns ds))&&(lg fd.body).isSome
 |none=>Mh
noncomputable def aM(K:PQ)(f:Ml):Option (O2×List OO):=(cP K f).bind λfd=>(lg fd.body).map λb=>(fd.scope,b)
inductive Hr(K:PQ)(f:Ml)(fd:Su):Prop
 |mk (o:P9) (b:List OO):K.lookup f=Md o->o.data=.func fd->fd.body=.stmts b->aM K f=Md (fd.scope,b)->Hr K f fd
theorem qY{f:Ml}(hf:cP K f=Md fd)(h2:(lg fd.body).isSome=Mj):Hr K f fd:=by refine ae (Mz.mp hf) λo z1=>?_;obtain⟨ho,hd⟩:=z1;refine ae (NT.mp h2) λb hb=>?_;refine⟨o,b,ho,oU hd,ae (MQ.mp hb) λx z=>x.2.trans (congrArg _ z.2),?_⟩;·unfold aM;rw[hf,NI,hb];rfl
inductive Ho(K:PQ)(f:Ml)(ns:List Nat)(ds:List Me):Prop
 |mk (o:P9) (fd:Su) (b:List OO):K.lookup f=Md o->o.data=.func fd->fd.body=.stmts b->aM K f=Md (fd.scope,b)->HB K fd ns ds->Ho K f ns ds
theorem wc{f:Ml}{ns:List Nat}(h:kQ K f ns ds=Mj):Ho K f ns ds:=by
 unfold kQ at h;cases hf:cP K f with
 |none=>rw[hf] at h;cases h
 |some fd=>
  rw[hf] at h;obtain⟨h1,h2⟩:=MR.mp h;have zqi:_:=qY hf h2;induction zqi with
  |mk o b a1 a2 a3 a4=>exact⟨o,fd,b,a1,a2,a3,a4,odt h1⟩
noncomputable def bG(K:PQ)(Φ:Hn):Prop:=∀a o,K.lookup a=Md o->Φ a=Md o
inductive kH(env:VD)(sc:O2)(L:Ml):Prop where
 |mk (scope:env.scope=sc)
  (kind:sc.kind=.function)
  (locals:env.locals=L)
  (globals:env.globals=Nz)
  (builtins:env.builtins=Qd)
theorem wV(nd:(ns.map enc).Nodup)(h0:∀n∈ns,enc n≠0):∀(vs:List Me)(x:Np),((ns.zip vs).lookup x).map er=gf ((ns.map enc).zip (vs.map er)) (enc x):=by
 induction ns with
 |nil=>intro vs x;rfl
 |cons n r ih=>
  intro vs x;cases vs with
  |nil=>rfl
  |cons v vs=>
   show(match x==n with|true=>Md v|false=>(r.zip vs).lookup x).map er=if enc n=enc x then Md (er v) else gf ((r.map enc).zip (vs.map er)) (enc x)
   rw[Nn,OF] at nd;by_cases h:x=n;·rw[h,beq_self_eq_true,if_pos rfl];rfl
   ·rw[beq_eq_false_iff_ne.mpr h,if_neg (λq=>h (li (h0 n (MU ..)) q.symm))];exact ih nd.2 (λm hm=>h0 m (MV _ hm)) vs x
theorem mB(nd:(l.map (·.1)).Nodup)(x:Np):l.reverse.lookup x=l.lookup x:=by
 induction l with
 |nil=>rfl
 |cons p r ih=>
  obtain⟨n,v⟩:=p;rw[Nn,OF] at nd;rw[P5,PI,ih nd.2,Ox];by_cases h:x=n
  ·subst h;have:r.lookup x=none:=by rw[List.lookup_eq_none_iff];intro p hp;rw[bne_iff_ne,ne_eq];intro q;exact nd.1 (q▸NB (f:=(·.1)) hp)
   simp[this]
  ·have e:(x==n)=false:=beq_eq_false_iff_ne.mpr h;simp[Ox,e]
theorem jJ(nd:(ns.map enc).Nodup):ns.Nodup:=(List.pairwise_map.mp nd).imp λh q=>h (congrArg enc q)
noncomputable def bV(Q:Me->Sg->Prop):Out->Sg->Prop:=λo J=>match o with
 |.ret v=>Q v J
 |_=>False
noncomputable def j2(Z:Sys)(Φ:bv)(L:Ml)(Q:Out->Sg->Prop)(N:Loc->Sg->Prop)(f:T8)(s':Mn):Prop:=bM λJ' ρ'=>St Z Φ J' L ρ' s'/\match f with
 |.next=>N ρ' J'
 |.brk=>Q (.brk ρ') J'
 |.cont=>Q (.WZ ρ') J'
 |.ret v=>Q (.ret (er v)) J'
variable{Z':Sys}
theorem qB{fl:T8}{s':Mn}{r:T8->Pj}(ho:Z'.os=Z.os)(leave:∀{J:Sg}{g:Ml->Own}{h:Oy},Inv Φ' J g h->Inv Φ J g h)(h:j2 Z' Φ' L (bV Q) (λa J=>Q .none J) fl s')(h1:∀v,r (.ret v)=.ok (.ret v))(h2:r .next=.ok (.ret .none)):AS Z Φ Q (r fl) s':=by
 refine bI h λJ' ρ' z=>?_;have hq:=z.2;induction z.1 with
 |mk g' m' I3 hL ns hm hg' ho'=>
  cases fl with
  |next=>exact⟨.none,J',g',h2,leave I3,hg',ho'.trans ho,hq⟩
  |ret v=>exact⟨v,J',g',h1 v,leave I3,hg',ho'.trans ho,hq⟩
  |brk=>exact hq.elim
  |cont=>exact hq.elim
noncomputable def ss(Z:Sys)(sc:O2)(env:VD):Prop:=∀x,sc.names.lookup x=Md .cell->nW λa o v=>env.cells.lookup x=Md a/\Z.base a=Md o/\o.data=.cell (Md v)/\o.isFreed=Mh/\gf Z.cv (enc x)=Md (er v)
theorem tO[BEq β][LawfulBEq β]{j k:β}{u v:α}{r:List (β×α)}(h:((j,u)::r).lookup k=Md v):(k=j/\v=u)∨r.lookup k=Md v:=by
 have h:(match k==j with|true=>Md u|false=>r.lookup k)=Md v:=h;cases q:k==j with
 |true=>rw[q] at h;exact .inl ⟨beq_iff_eq.mp q,(MJ h).symm⟩
 |false=>rw[q] at h;exact .inr h
theorem y7[BEq β]{j k:β}{u:α}{r:List (β×α)}(h:(r.lookup k).isSome=Mj):(((j,u)::r).lookup k).isSome=true:=by
 show(match k==j with|true=>Md u|false=>r.lookup k).isSome=Mj;cases k==j with
 |true=>rfl
 |false=>exact h
theorem Xi[BEq β][LawfulBEq β]{l:List (β×α)}{k:β}{v:α}(h:l.lookup k=Md v):(k,v)∈l:=by
 induction l with
 |nil=>cases h
 |cons p r ih=>exact(tO h).elim (λq=>by rw[q.1,q.2];exact MU ..) λq=>MV _ (ih q)
noncomputable def Fi:Nat->Nat->List Nat->List Nat
 |0,_,acc=>acc
 |f+1,n,acc=>if n=0 then acc else Fi f (n/256) (n%256::acc)
noncomputable def qV(c:Nat):Str:=⟨(Fi 40 c []).toArray⟩
noncomputable def X9(C:Nat):Bool:=(Cp.lookup C).isSome
theorem oQ{C c:Nat}(h:Ay C c=Mj):X9 C=true:=by
 unfold Ay at h;cases q:zf.lookup C with
 |none=>rw[q] at h;cases h
 |some l=>exact NU.mp (show zf.all (λp=>X9 p.1)=Mj by decide) _ (Xi q)
theorem jo{C c f:Nat}(h:mt C c=Md f):X9 C=true:=by
 unfold mt at h;unfold X9;cases q:Cp.lookup C with
 |none=>rw[q] at h;cases h
 |some l=>rfl
theorem x4{C c f:Nat}(h:pt C c=Md f):X9 C=true:=by
 unfold pt at h;cases q:Ec.lookup C with
 |none=>rw[q] at h;cases h
 |some l=>exact NU.mp (show Ec.all (λp=>X9 p.1)=Mj by decide) _ (Xi q)
abbrev aaU(K:PQ)(C:Ml)(p:Nat×Nat):Prop:=enc (qV p.1)=p.1/\Ov K (.ref C) (qV p.1)=Md (Md (.ref p.2))/\isFn K (.ref p.2)=Mj/\(cP K p.2).isSome=Mj
abbrev EB(K:PQ)(C:Ml)(c:Nat):Prop:=enc (qV c)=c/\Ov K (.ref C) (qV c)=Md Mr
noncomputable def aaS:Option (Option Me)->Option Ml
 |some (Md (.ref q))=>Md q
 |_=>Mr
variable{q:Ml}
theorem xV{x:Option (Option Me)}(h:aaS x=Md q):x=Md (Md (.ref q)):=by rcases x with _|_|x<;>first|(cases h;done)|(cases x<;>first|(cases h;done)|(cases h;rfl))
noncomputable def we:Option CFound->Option Ml
 |some (.val (.ref q))=>Md q
 |_=>Mr
theorem vd{x:Option CFound}(h:we x=Md q):x=Md (.val (.ref q)):=by
 rcases x with _|x;·cases h
 ·induction x with
  |val v=>cases v<;>first|(cases h;done)|(cases h;rfl)
  |get=>cases h
noncomputable abbrev xY(K:PQ)(C:Ml)(p:Nat×Nat):Bool:=M3 (enc (qV p.1)=p.1)&&(aaS (Ov K (.ref C) (qV p.1))).any λq=>M3 (And (UQ K (.ref q) "__get__"=Md (Md (.builtin "property.__get__"))) (And (takesIn K (.ref q)=Md Mj) (((recIn K q "property").bind List.head?)=Md (.ref p.2))))
abbrev G1(K:PQ)(C:Ml):Prop:=hasDictIn K C=Mj/\plainGet K C ""=Mj/\Ov K (.ref C) "__setattr__"=Md (Md (.builtin "object.__setattr__"))/\plainOver K C=Mj/\makesIn K C=Mj/\noSeq K C=Mj/\
 UQ K (.ref C) "__getattribute__"=Md (Md (.builtin "type.__getattribute__"))/\readsIn K C (.type "type")=Mj/\we (findCls K (.ref C) (.type "type") "__init__")=mt C (enc ("__init__":Np))/\typeIn K (.ref C)=Md (.type "type")/\
 (∀p∈(Cp.lookup C).getD [],aaU K C p)/\(∀p∈(zf.lookup C).getD [],EB K C p)/\(∀p∈(Ec.lookup C).getD [],xY K C p=Mj)
noncomputable def wC(K:PQ)(C:Ml):Bool:=letI:∀{a b:Prop}[Decidable a][Decidable b],Decidable (An a b):=Ea;M3 (G1 K C)
inductive vF(Z:Sys)(C:Ml):Prop where
 |mk (ok:∃K,bG K Z.base/\wC K C=Mj)
inductive xE(K:PQ)(C:Ml):Prop where
 |mk (dict:hasDictIn K C=Mj)
  (get:plainGet K C ""=Mj)
  (set:Ov K (.ref C) "__setattr__"=Md (Md (.builtin "object.__setattr__")))
  (over:plainOver K C=Mj)
  (makes:makesIn K C=Mj)
  (noseq:noSeq K C=Mj)
  (init:∀g,mt C (enc ("__init__":Np))=Md g->UQ K (.ref C) "__getattribute__"=Md (Md (.builtin "type.__getattribute__"))/\readsIn K C (.type "type")=Mj/\findCls K (.ref C) (.type "type") "__init__"=Md (.val (.ref g)))
  (typ:typeIn K (.ref C)=Md (.type "type"))
  (fld:∀x,enc x≠0->Ay C (enc x)=Mj->Ov K (.ref C) x=Md Mr)
  (meth:∀x f,enc x≠0->mt C (enc x)=Md f->Ov K (.ref C) x=Md (Md (.ref f))/\isFn K (.ref f)=Mj/\(cP K f).isSome=Mj)
  (prop:∀x f,enc x≠0->pt C (enc x)=Md f->bM λq r=>Ov K (.ref C) x=Md (Md (.ref q))/\UQ K (.ref q) "__get__"=Md (Md (.builtin "property.__get__"))/\takesIn K (.ref q)=Md Mj/\recIn K q "property"=Md (.ref f::r))
theorem pE{c:Nat}(h0:enc x≠0)(h:enc (qV c)=c)(e:enc x=c):x=qV c:=(li h0 (h.trans e.symm)).symm
inductive EK(Z:Sys)(C:Ml):Prop
 |mk(K:PQ):bG K Z.base->xE K C->EK Z C
section
variable{C:Ml}{f:Nat}
theorem B9(h0:enc x≠0)(h:EB K C (enc x)):Ov K (.ref C) x=Md none:=by rw[pE h0 h.1 rfl];exact h.2
theorem aad{l:List (Nat×List (Nat×Nat))}{P:Nat×Nat->Prop}{c:Nat}(h:∀p∈(l.lookup C).getD [],P p)(hx:((l.lookup C).bind λl=>l.lookup c)=Md f):P (c,f):=by refine ae (Mz.mp hx) λl' z13=>?_;obtain⟨hl,hx⟩:=z13;rw[hl] at h;exact h _ (Xi hx)
theorem zC(h0:enc x≠0)(h:∀p∈(Cp.lookup C).getD [],aaU K C p)(hx:mt C (enc x)=Md f):Ov K (.ref C) x=Md (Md (.ref f))/\isFn K (.ref f)=Mj/\(cP K f).isSome=true:=by have:=aad h hx;rw[pE h0 this.1 rfl];exact this.2
theorem zn(h0:enc x≠0)(h:∀p∈(Ec.lookup C).getD [],xY K C p=Mj)(hx:pt C (enc x)=Md f):bM λq r=>Ov K (.ref C) x=Md (Md (.ref q))/\UQ K (.ref q) "__get__"=Md (Md (.builtin "property.__get__"))/\takesIn K (.ref q)=Md Mj/\recIn K q "property"=Md (.ref f::r):=by
 have b:=MR.mp (aad (P:=λp=>xY K C p=Mj) h hx);rw[pE h0 (of_decide_eq_true b.1) rfl];refine ae ((Option.any_eq_true _ _).mp b.2) λq z12=>?_;have hq:=z12.1;have b:=z12.2;have b:=of_decide_eq_true b;refine ae (Mz.mp b.2.2) λl z11=>?_;obtain⟨hl,b3⟩:=z11;induction l with
 |nil=>cases b3
 |cons f' r=>cases b3;exact⟨q,r,xV hq,b.1,b.2.1,hl⟩
end
theorem vF.Ym{C:Ml}(h:vF Z C):EK Z C:=by refine ae h.1 λK z10=>?_;have P:=odt z10.2;have q:=P.2.2.2.2.2;have r:=q.2.2.2.2;exact⟨K,z10.1,P.1,P.2.1,P.2.2.1,P.2.2.2.1,P.2.2.2.2.1,q.1,λg hg=>⟨q.2.1,q.2.2.1,vd (q.2.2.2.1.trans hg)⟩,r.1,λx h0 hx=>B9 h0 (r.2.2.1 _ (List.contains_iff_mem.mp hx)),λx f h0 hx=>zC h0 r.2.1 hx,λx f h0 hx=>zn h0 r.2.2.2 hx⟩
inductive aN(Z:Sys)(Kg:PQ):Prop where
 |mk(frag:bG Kg Z.base)
  (ns:bM λmg mb=>(∀h:Oy,(∀a o,Z.base a=Md o->h.get? a=Md o)->h.Ns Nz mg/\h.Ns Qd mb/\h.NoLimit)/\∀x:Np,x≠"__name__"->mb x=Sk x)
  (cls:∀C,X9 C=Mj->vF Z C)
  (sysm:∃o,Z.base Ua=Md o)
  (keep:∀a,Zh a=Mj->∃K,bG K Z.base/\keepIn K (.ref a)=Mj)
  (kl:∀a xs,Z.kl a=Md xs->bM λys n=>Z.base a=Md (⟨.type "list",Mr,.seq ys n,#[]⟩:P9)/\ys.toList.map er=xs)
  (kt:∀a xs,Z.kt a=Md xs->bM λys n=>Z.base a=Md (⟨.type "tuple",Mr,.seq ys n,#[]⟩:P9)/\ys.toList.map er=xs)
variable{o:Me}{Q:Out->Sg->Prop}{Kg:PQ}{D:Ml}
section
variable{k:T}{st:List Me}
theorem St.here(hb:WJ Z Φ)(x:St Z Φ J L ρ s):∀a o,Z.base a=Md o->s.heap.get? a=Md o:=λa o e=>by obtain⟨g,m,I,_⟩:=x;exact(I.1 a o (hb a o e).1).1.at (hb a o e).2
inductive AV(g:Ml->Own)(h:Oy)(a D:Ml)(fs:Loc):Prop
 |mk (d:Ml) (m:Np->Option Me) (es:Array Ra) (n:Nat):g d=.part a->h.Ns d m->h.get? d=Md (⟨.type "dict",Mr,.dict es n,#[]⟩:P9)->xh D fs m es->
  Uz h a ⟨.ref D,Md d,.plain,#[]⟩ D (Md ⟨.type "dict",Mr,.dict es n,#[]⟩)->(∀x,lookIn x (⟨.type "dict",Mr,.dict es n,#[]⟩:P9)=Md (m x))->AV g h a D fs
set_option tactic.hygienic true in
theorem hG(r:R g h a (.Wv D fs)):AV g h a D fs:=by
 refine vr r λd m es n z9=>?_;refine⟨d,m,es,n,z9.2.1,z9.2.2.1,z9.2.2.2.1,z9.2.2.2.2,⟨z9.1,rfl,rfl,z9.2.2.2.1⟩,λx=>?_⟩;refine ae z9.2.2.1 λo z6=>?_;refine ae z6 λes' z7=>?_;refine ae z7 λep z8=>?_;obtain⟨e1,e2,e3,e4⟩:=z8;rw[z9.2.2.2.1] at e1;cases e1;injection e2 with e2;subst e2
 unfold lookIn;dsimp only;have:=e4 x;unfold nsFind findBy at this;rw[<-Array.find?_toList] at this;split;·rename_i en he;rw[he] at this;rw[<-this];rfl
 ·rename_i he;rw[he] at this;rw[if_neg];·rw[<-this];rfl
  ·rw[TC,Vr];intro en hen;refine ae (e3 en (RI.mp hen)) λy z5=>?_;refine ae z5 λt hy=>?_;simp[VG,hy]
theorem tw(B:aN Z Kg)(hb:WJ Z Φ)(x:St Z Φ J L ρ s)(hn:enc name≠0)(h:exec Z n (.fld (enc name) k) (er o::st) ρ J Q):My (Mk Z.prog Z.w) A (Si o name expr) (PV Z Φ L ρ λv J'=>exec Z n k (v::st) ρ J' Q) E s:=by refine ae (f8.inv h) λa z3=>?_;rw[z3.1];refine ga z3.2 λD fs v z4=>?_;have x':=x;obtain⟨g,m,I,_⟩:=x;obtain z2:=I.3 a _ z4.1;obtain⟨d,mm,es,nn,h1,h2,h3,h4,h5,h6⟩:=hG z2.2;have hk:=h4.5 _ (by rw[z4.2.1];rfl);obtain⟨K,hK,F⟩:=(B.3 D (oQ hk)).Ym;have X:K.In s.heap:=λa o e=>x'.here hb a o (hK a o e);refine ae (h4.1.get z4.2.1) λu z1=>?_;refine get_value X h5 (Tc F.2).1 (findObj_own F.1 (F.9 name hn hk) rfl (by rw[h6,z1.1])) (h4.2 _ _ z1.1) ?_;exact⟨J,x'.tk _,by rw[z1.2];exact z4.2.2⟩
end
variable{v:Me}
theorem jz(h:iO (er v)=Mj):handedIn v=true:=by cases v<;>first|rfl|exact ctf h.symm|cases h
variable{es:Array Ra}
theorem rG{x:Option P9}{o o':P9}{es':Array Ra}{n':Nat}(h:x=Md o)(h':x=Md o')(e:o.data=.dict es n)(e':o'.data=.dict es' n':=by rfl):es=es':=by rw[MJ (h.symm.trans h')] at e;injection e.symm.trans e'
variable{d:Ml}
theorem BG{m:Np->Option Me}(hn:h.Ns d m)(hd:h.get? d=Md (⟨.type "dict",Mr,.dict es n,#[]⟩:P9))(name:Np)(hash:Int)(t:Ug)(v:Me):(h.update d (RK name hash (.str name t) v)).Ns d (λx=>if x=name then Md v else m x)/\ bM λes' n'=>(h.update d (RK name hash (.str name t) v)).get? d=Md (⟨.type "dict",Mr,.dict es' n',#[]⟩:P9)/\es'.size<=es.size+1/\((m name).isSome=Mj->es'.size<=es.size):=by
 refine ae hn λo z15=>?_;refine ae z15 λes1 z16=>?_;refine ae z16 λep z17=>?_;have hk:=z17.2.2.1;have hm:=z17.2.2.2;have e2:_:=(rG z17.1 hd z17.2.1).symm;subst e2;cases hi:es.findIdx? (·.key.isStr name) with
 |some i=>
  have hg:(h.update d (RK name hash (.str name t) v)).get? d=Md (⟨.type "dict",Mr,.dict (es.modify i λe=>{e with val:=v}) n,#[]⟩:P9):=by have e:=Ng (RK name hash (.str name t) v) hd (by simp only[Sv,QF,hi];rfl);rw[e];simp only[Sv,QF,hi]
  refine⟨⟨_,_,n,hg,rfl,hk.modify _ _,λx=>?_⟩,_,_,hg,by simp,λa=>by simp⟩;show _=if x=name then Md v else m x
  rw[<-hm];exact findBy_modify (λn v=>v.isStr n) Value.isStr_inj es name x v i hi
 |none=>
  have hg:(h.update d (RK name hash (.str name t) v)).get? d=Md (⟨.type "dict",Mr,.dict (es.push ⟨hash,.str name t,v⟩) (n+1),#[]⟩:P9):=by have e:=Ng (RK name hash (.str name t) v) hd (by simp only[Sv,QF,hi];rfl);rw[e];simp only[Sv,QF,hi]
  refine⟨⟨_,_,n+1,hg,rfl,hk.push _ _ _ _,λx=>?_⟩,_,_,hg,by simp,λq=>?_⟩
  ·show _=if x=name then Md v else m x
   rw[<-hm];exact findBy_push (λn v=>v.isStr n) es name x _ _ v (λy=>by
    show(name==y)=M3 (y=name);by_cases h:y=name;·subst h;simp
    ·have:¬name=y:=λe=>h e.symm;simp[h,this]) hi
  ·exfalso;rw[<-hm,nsFind,findBy_of_findIdx?,hi] at q;cases q
theorem uL(fs:Loc)(c:Nat)(v:Me):fs.length<=(sf fs c v).length/\(gf fs c=Mr->(sf fs c v).length=fs.length+1):=by
 induction fs with
 |nil=>exact⟨Nc _,λa=>rfl⟩
 |cons p r ih=>
  show(p::r).length<=(if p.1=c then(p.1,v)::r else(p.1,p.2)::sf r c v).length/\((if p.1=c then Md p.2 else gf r c)=Mr->(if p.1=c then(p.1,v)::r else(p.1,p.2)::sf r c v).length=(p::r).length+1);by_cases q:p.1=c;·rw[if_pos q,if_pos q];exact⟨MD _,λh=>by cases h⟩
  ·rw[if_neg q,if_neg q];exact⟨Rh ih.1,λh=>congrArg (·+1) (ih.2 h)⟩
variable{t:Nat}
section
variable{k:T}{st:List Me}
noncomputable def PU(Z:Sys)(Φ:bv)(L:Ml)(ρ:Loc)(C:Sg->Prop)(s':Mn):Prop:=∃J',St Z Φ J' L ρ s'/\C J'
theorem St.at{c:Cell}{m:Np->Option Me}(I:Inv Φ J g s.heap)(hL:g L=.loc)(hns:s.heap.Ns L m)(hm:dP m ρ)(hg:s.gens=#[])(ho:s.os=Z.os)(hga:g a=.obj)(al:∀b o,s.heap.get? b=Md o->∃o',h'.get? b=Md o')(same:∀b,b≠a->g b≠.part a->h'.get? b=s.heap.get? b)(r:R g h' a c):St Z Φ (upd J a c) L ρ {s with heap:=h',toks:=t}:=by refine⟨g,m,I.at hga al same r,hL,?_,hm,hg,ho⟩;refine ae hns λo z12=>?_;refine ae z12 λes z13=>?_;refine ae z13 λep z14=>?_;have e:=z14.1;have q:=z14.2;exact⟨o,es,ep,(same L (λz=>by rw[z,hga] at hL;cases hL) (λz=>by rw[hL] at z;cases z)).trans e,q⟩
theorem oZ(h:Ov K (.ref D) name=Md Mr):takerIn K D name=Md none:=by unfold takerIn;rw[h];rfl
theorem tI(B:aN Z Kg)(hb:WJ Z Φ)(x:St Z Φ J L ρ s)(hn:enc name≠0)(h:exec Z n (.XD (enc name) k) (er o::er v::st) ρ J Q):My (Mk Z.prog Z.w) A (Vq o name v) (λf=>PU Z Φ L ρ λJ'=>exec Z n k st ρ J' Q) E s:=by
 refine ae (f8.inv h) λa z10=>?_;rw[z10.1];refine bI z10.2 λD fs z11=>?_;have hc:=z11.1;have h1:=z11.2.1;have h2:=z11.2.2.1;have h3:=z11.2.2.2;have x':=x;obtain⟨g,m,I,hL,hns,hm,hg,ho⟩:=x;obtain z9:=I.3 a _ hc;have hgo:=z9.1;have r:=z9.2;obtain⟨d,mm,es,nn,r1,r2,r3,r4,r5,r6⟩:=hG r;have hk:Ay D (enc name)=true:=h1.elim (λq=>r4.5 _ q) λq=>q.1;obtain⟨K,hK,F⟩:=(B.3 D (oQ hk)).Ym;have X:K.In s.heap:=λa o e=>x'.here hb a o (hK a o e);have hf:=F.9 name hn hk;refine ae (Qx F.1) λcd z8=>?_;have hcd:=z8.1;have hdict:=z8.2;have hda:d≠a:=λq=>by rw[q,hgo] at r1;cases r1
 refine set_plain X r5 F.3 (osa_open (s:={s with toks:=s.toks+1}) X r5 F.4 (oZ hf) λb=>?_);refine Mg (MC (Mg (Mg (wpAny_loadPart r5.at_ (Mg (Looks.here (s:={s with toks:=s.toks+1}) (looks_clsIn X hcd) ?_))))));rw[hdict];refine MC (a:=Md d) (Mg (MC (Mg ?_)));obtain z6:=BG r2 r3 name (PyData.keyHash Z.w.params name) (s.toks+1) v;have p1:=z6.1;refine bI z6.2 λes' n' z7=>?_;have p2:=z7.1;have p3:=z7.2.1;have p4:=z7.2.2;refine Mg (Mg (wpAny_askSetting (MC (Mg (wpAny_mkText (Mg (wpAny_loadPart r3 ?_)))))));have c:(!es.any (·.key.isStr name)&&es.any (·.refKey))=false:=by
  refine ae r2 λo' z3=>?_;refine ae z3 λes1 z4=>?_;refine ae z4 λep z5=>?_;have e3:=z5.2.2.1;have e2:_:=(rG z5.1 r3 z5.2.1).symm;subst e2;have:es.any (·.refKey)=false:=by rw[Array.any_eq_false'];intro e he;refine ae (e3 e he) λn z2=>?_;refine ae z2 λt hh=>?_;simp[VG,hh]
  rw[this,Bool.and_false]
 dsimp only;rw[aRefKeyMayBeTheName_at,c];refine wpAny_updatePart r3 ?_;have hle:es'.size<=(sf fs (enc name) (er v)).length/\es'.size<=101:=by
  have q:=uL fs (enc name) (er v);cases hq:gf fs (enc name) with
  |some u=>refine ae (r4.1.get hq) λu' z1=>?_;have hu:=z1.1;have:=p4 (by rw[hu];rfl);have:=r4.3;have:=r4.4;have:=q.1;constructor<;>lia
  |none=>
   have:=q.2 hq;have:=r4.3;rcases h1 with h1|h1
   ·rw[hq] at h1;cases h1
   ·have:=h1.2;constructor<;>lia
 refine Mg (TF p2 (pastItsLine_dict (by have:=hle.2;rw[NL];exact af 0x842002794413a8267f2d8800000071c1334 [] [_,_] hle)) ?_);refine MC ?_;refine⟨_,St.at (t:=s.toks+1+1) I hL hns hm hg ho hgo (λb o ho=>by
  by_cases q:b=d;·subst q;exact⟨_,p2⟩
  ·exact⟨o,(OT _ _ _ _ q).trans ho⟩) (λb hb1 hb2=>OT _ _ _ _ λq=>hb2 (q▸r1)) ?_,h3⟩
 refine⟨d,_,es',n',(OT _ _ _ _ (Qj hda)).trans r5.at_,r1,p1,p2,r4.1.set hn,λy u hy=>?_,hle.1,hle.2,λc hc=>?_⟩
 ·split at hy;·rw[<-MJ hy];exact jz h2
  ·exact r4.2 _ _ hy
 ·rw[ju] at hc;split at hc;·rename_i q;rw[q];exact hk
  ·exact r4.5 _ hc
end
variable{Q':Me->Mn->Prop}{pl:RW Bool}
section
variable{k:T}{st:List Me}
noncomputable def ZF(Z:Sys)(f:Me):Prop:=∃K,bG K Z.base/\keepIn K f=Mj
theorem tC{f:Ml}(h:(cP K f).isSome=Mj):keepIn K (.ref f)=true:=by refine ae (NT.mp h) λfd e=>?_;refine ae (Mz.mp e) λo z=>?_;obtain⟨c,d,dt,sl⟩:=o;obtain rfl:dt=.func fd:=oU z.2;unfold keepIn;dsimp only;rw[z.1]
theorem wS(B:aN Z Kg)(hb:WJ Z Φ)(x:St Z Φ J L ρ s)(hn:enc name≠0)(h:exec Z n (.meth (enc name) k) (er o::st) ρ J Q):My (Mk Z.prog Z.w) A (Rk o name pl) (λp s'=>bM λf a=>p=(.ref f,[.ref a])/\ZF Z (.ref f)/\PU Z Φ L ρ (λJ'=>exec Z n k (.ref f::.ref a::st) ρ J' Q) s') E s:=by refine ae (f8.inv h) λa z12=>?_;obtain rfl:=z12.1;refine ga z12.2 λD fs f z13=>?_;have x':=x;obtain⟨g,m,I,_⟩:=x;obtain z11:=I.3 a _ z13.1;obtain⟨d,mm,es,nn,r1,r2,r3,r4,r5,r6⟩:=hG z11.2;obtain⟨K,hK,F⟩:=(B.3 D (jo z13.2.1)).Ym;have X:K.In s.heap:=λa o e=>x'.here hb a o (hK a o e);obtain z10:=F.10 name f hn z13.2.1;refine method_fn X r5 (Tc F.2).1 (Tc F.2).2 z10.1 (beq_iff_eq.mp z10.2.1) ?_ ⟨f,a,rfl,⟨K,hK,tC z10.2.2⟩,J,x',z13.2.2.2⟩;show(lookIn name _).map _=_;rw[r6,r4.1.none z13.2.2.1];rfl
theorem aat(B:aN Z Kg)(hb:WJ Z Φ)(hr:cS n A Φ L)(x:St Z Φ J L ρ s)(hn:enc name≠0)(h:exec Z n (.prop (enc name) k) (er o::st) ρ J Q):Wc.Wj (Mk Z.prog Z.w) A (Si o name expr) (PV Z Φ L ρ λv J'=>exec Z n k (v::st) ρ J' Q) E s:=by refine ae (f8.inv h) λa z8=>?_;rw[z8.1];refine ga z8.2 λD fs f z9=>?_;have x':=x;obtain⟨g,m,I,_⟩:=x;obtain z7:=I.3 a _ z9.1;obtain⟨d,mm,es,nn,r1,r2,r3,r4,r5,r6⟩:=hG z7.2;obtain⟨K,hK,F⟩:=(B.3 D (x4 z9.2.1)).Ym;have X:K.In s.heap:=λa o e=>x'.here hb a o (hK a o e);refine bI (F.11 name f hn z9.2.1) λq rr z6=>?_;have p4:=z6.2.2.2;refine Wc.aaH X r5 (Tc F.2).1 (findObj_data (by refine ae (Qx F.1) λcd z5=>?_;obtain⟨hcd,_⟩:=z5;rw[hcd];rfl) z6.1 z6.2.1 z6.2.2.1) (Tc F.2).2 (Wc.WO (Wc.aaA (s:={s with toks:=s.toks+1}) X p4 ?_));refine Wc.WR (tm (vals:=[.ref a]) hb (hr.Xn (by show A.depth<=_;exact Og _ _) (by show A.units+1<=_;exact ck 0xf841388267b2b [] [_])) (x'.tk _) z9.2.2) λr' s' hh=>?_;refine ae hh λv z3=>?_;rw[z3.1];refine ae z3.2 λJ' z4=>?_;have h2:=z4.2.1;have hv:handedIn v=true:=jz h2;exact Wc.of (handed_on hv ⟨J',z4.1,z4.2.2⟩)
theorem rQ(hb:WJ Z Φ)(hp:args.any (·.1)=Mh)(hk:ZF Z f)(h:Wc.Wj (Mk Z.prog Z.w) A (QA args) (λvs s₁=>(∀a o,Z.base a=Md o->s₁.heap.get? a=Md o)/\Wc.Wj (Mk Z.prog Z.w) A (OH f (first++vs)) Q' E s₁) E s):Wc.Wj (Mk Z.prog Z.w) A (QU pos f first args []) Q' E s:=by refine ae hk λK z2=>?_;refine Wc.Y3 (P:=λh=>∀a o,Z.base a=Md o->h.get? a=Md o) hp (λh hP=>?_) h;refine ae (looks_keep (M:=Mk Z.prog Z.w) z2.2 (λa o e=>hP a o (z2.1 a o e))) λk z1=>?_;have a:=z1.1;have b:=z1.2;exact⟨k,a.elim .inl (λe=>.inr (.inl e)),b⟩
end
theorem eU{st:List Me}{m:Nat}(h:vs.length=m):take? m (vs.reverse++st)=Md (vs,st):=by
 unfold take?;have e:vs.reverse.length=m:=by rw[List.length_reverse];exact h
 rw[if_pos (by rw[MI];exact af 0x219421001ea84a1f2a11c131d [] [_,_,_] e),<-e,List.take_left',List.drop_left',List.reverse_reverse]<;>rfl
variable{xs:List Me}{op:U8}{zs:Array Me}
section
variable{k:T}{st:List Me}
abbrev PK(Z:Sys)(Φ:bv)(L:Ml)(ρ:Loc)(n:Nat)(k:T)(st:List Me)(Q:Out->Sg->Prop):Me->Mn->Prop:=PV Z Φ L ρ λv J'=>exec Z n k (v::st) ρ J' Q
theorem St.Wy(x:St Z Φ J L ρ s)(o:P9)(t:Nat):St Z Φ J L ρ {s with heap:=s.heap.push o,toks:=t}:=by obtain⟨g,m,I,hL,⟨oL,es,ep,h1,r⟩,hm,hg,ho⟩:=x;exact⟨g,m,I.Wy o,hL,⟨oL,es,ep,jO h1,r⟩,hm,hg,ho⟩
theorem St.YR(x:St Z Φ J L ρ s):J s.heap.objs.size=none:=by obtain⟨g,m,I,_⟩:=x;exact(I.fresh (MD _)).1
theorem St.Xf(x:St Z Φ J L ρ s)(o:P9)(c:Cell)(ho:o.isFreed=Mh)(r:∀g' h',h'.get? s.heap.objs.size=Md o->R g' h' s.heap.objs.size c)(t:Nat):St Z Φ (upd J s.heap.objs.size c) L ρ {s with heap:=s.heap.push o,toks:=t}:=by obtain⟨g,m,I,hL,⟨oL,es,ep,h1,q⟩,hm,hg,hos⟩:=x;have hl:L≠s.heap.objs.size:=Nf (NA h1);exact⟨_,m,I.Xf o c ho r,by unfold ic;rw[if_neg hl];exact hL,⟨oL,es,ep,jO h1,q⟩,hm,hg,hos⟩
theorem St.keeps(x:St Z Φ J L ρ s)(k:∀b o,s.heap.get? b=Md o->h'.get? b=Md o):St Z Φ J L ρ {s with heap:=h',toks:=t}:=by obtain⟨g,m,I,hL,⟨oL,es,ep,h1,q⟩,hm,hg,hos⟩:=x;exact⟨g,m,I.keeps k,hL,⟨oL,es,ep,k _ _ h1,q⟩,hm,hg,hos⟩
theorem St.aaj{o:P9}(x:St Z Φ J L ρ s)(k:∀b o,s.heap.get? b=Md o->h'.get? b=Md o)(ho:h'.get? s.heap.objs.size=Md o)(c:Cell)(r:∀g',R g' h' s.heap.objs.size c)(t:Nat):St Z Φ (upd J s.heap.objs.size c) L ρ {s with heap:=h',toks:=t}:=by obtain⟨g,m,I,hL,⟨oL,es,ep,h1,q⟩,hm,hg,hos⟩:=x;have hl:L≠s.heap.objs.size:=Nf (NA h1);have F:=I.fresh (MD _);have I2:=(I.keeps k).Zb (x:=.obj) F.2.2 ⟨o,ho⟩;exact⟨_,m,I2.cell (by unfold ic;rw[if_pos rfl]) F.1 (r _),by unfold ic;rw[if_neg hl];exact hL,⟨oL,es,ep,k _ _ h1,q⟩,hm,hg,hos⟩
theorem tT(h:zs.toList.map er=xs):zs.size=xs.length:=by rw[<-h,Mu,NC]
inductive nI(h:Oy)(U:String)(a:Ml)(xs:List Me):Prop
 |mk (ys:Array Me) (n:Nat):h.get? a=Md (⟨.type U,Mr,.seq ys n,#[]⟩:P9)->ys.toList.map er=xs->ys.size=xs.length->nI h U a xs
theorem nI.of{U:String}(x:bM λys n=>h.get? a=Md (⟨.type U,Mr,.seq ys n,#[]⟩:P9)/\ys.toList.map er=xs):nI h U a xs:=by refine bI x λys n z18=>?_;exact⟨ys,n,z18.1,z18.2,tT z18.2⟩
theorem aw(x:St Z Φ J L ρ s)(hc:J a=Md (.list xs)):nI s.heap "list" a xs:=by obtain⟨g,m,I,_⟩:=x;exact .of (I.3 a _ hc).2
theorem bD(x:St Z Φ J L ρ s)(hc:J a=Md (.tup xs)):nI s.heap "tuple" a xs:=by obtain⟨g,m,I,_⟩:=x;exact .of (I.3 a _ hc).2
theorem St.set{c c':Cell}{o':P9}(x:St Z Φ J L ρ s)(hc:J a=Md c)(hi:∀C fs,c≠.Wv C fs)(hs:ND a s.heap h')(ho:h'.get? a=Md o')(r:∀g,R g h' a c'):St Z Φ (upd J a c') L ρ {s with heap:=h',toks:=t}:=by
 obtain⟨g,m,I,hL,hns,hm,hg,hos⟩:=x;have hga:=(I.3 a c hc).1;refine St.at (t:=t) I hL hns hm hg hos hga (λb o q=>?_) (λb hb d=>hs.2 b hb) (r g);by_cases e:b=a;·subst e;exact⟨_,ho⟩
 ·exact⟨o,(hs.2 b e).trans q⟩
theorem zg(h:zs.toList.map er=[v]):∃w,zs=#[w]/\er w=v:=by
 obtain⟨l⟩:=zs;cases l with
 |nil=>cases h
 |cons w l=>
  cases l with
  |nil=>exact⟨w,rfl,TG h⟩
  |cons u l=>cases h
theorem qK{st:List Me}{m:Nat}{F:List Me->List Me->Prop}(hm:vs.length=m)(h:bM λus st'=>take? m ((vs.map er).reverse++st)=Md (us,st')/\F us st'):F (vs.map er) st:=by refine bI h λus st' z17=>?_;have e:=z17.1;rw[eU (by rw[Mu];exact hm)] at e;cases e;exact z17.2
theorem un(v:Me)(m:Nat)(a:Array Me):(V7 (λx1 x2=>x1++x2) a (M9 m #[v])).toList=a.toList++M9 m v:=by
 induction m generalizing a with
 |zero=>simp
 |succ m ih=>rw[UY,PO,ih];simp[UY]
theorem Ce(x:St Z Φ J L ρ s){op:RG}{o:Op}(ho:op=rl o){a b:Me}(h:exec Z n (.bin o k) (er b::er a::st) ρ J Q):My (Mk Z.prog Z.w) A (binaryOp op a b) (PK Z Φ L ρ n k st Q) E s:=by
 rw[ho];have h':r7 o J (λr J'=>exec Z n k (r::st) ρ J' Q) (er a) (er b):=h;clear h;generalize ha:er a=a' at h';generalize hb:er b=b' at h';induction h' with
 |int ok q=>refine WN hb λu1=>?_;refine WN ha λt1=>?_;exact zl x ok q
 |bytes e h1 h2=>subst e;refine Xh hb λu1=>?_;refine Xh ha λt1=>?_;exact KBy.add_bytes (c6 h1 rfl) λt' k'=>⟨J,x.tk _,h2⟩
 |@abd y b _ _ e h0 h1 h3=>
  rw[e];refine WN hb λu1=>?_;refine Xh ha λt1=>?_;refine bytes_mul_any (b:=[y]) (by simp) (sR h0 rfl) (o9 h1 rfl) (by simp) λt' k'=>⟨J,x.tk _,?_⟩;have e:((M9 b.toNat [y]).flatten).toArray=Ui b.toNat y:=by apply Q9.mp;simp
  show exec Z n k (.bytes _ 0::st) ρ J Q;rw[e];exact h3
 |@list p q xs ys e hx hy h1 h2=>
  subst e;have:=aq ha;subst this;have:=aq hb;subst this;obtain⟨zs,m1,z1,z2,l1⟩:=aw x hx;obtain⟨ws,m2,w1,w2,l2⟩:=aw x hy;exact concat_meets ⟨_,z1,rfl⟩ ⟨_,w1,rfl⟩ noFill_list_add seq_list_add PySem.F.slot_list_add PySem.F.entry_list_add (PySem.F.args_list_add_2 _ _) (list_addW p q zs ws m1 m2 Mr Mr #[] #[] (by rw[NL];exact aS 0x42384308000a7542512941510c3500d48569b308000000a8267b34 [] [_,_,_,_] h1 l1 l2))
   ⟨z1,w1,_,x.Xf _ (.list (xs++ys)) rfl (λg' h' e=>⟨_,_,e,by simp[z2,w2]⟩) s.toks,h2 _ x.YR⟩
 |@aa9 p v b u e hx h0 h1 h2=>
  rw[e];refine WN hb λu1=>?_;rw[aq ha];obtain⟨zs,m1,z1,z2,_⟩:=aw x hx;refine ae (zg z2) λw z9=>?_;obtain rfl:=z9.1;have e1':(#[w]:Array Me).size*b.toNat=b.toNat:=by simp
  refine wpAny_binaryOp_repeat_ref (T:="list") (U:="int") (by decide) ⟨_,z1,rfl⟩ (λs'=>Vc s' b u1) noFill_list_mul F.fills_int_mul F.slot_int_rmul repeat_list F.slot_int_index.lookup
   (Vd F.slot_int_rmul (Vc s b u1) F.entry_int_rmul (F.args_int_rmul_2 _ _) (int___rmul___int_list b u1 p #[w] m1)
    ⟨z1,rfl,⟨_,z1,rfl⟩,Vd F.slot_list_mul ⟨_,z1,rfl⟩ F.entry_list_mul (F.args_list_mul_2 _ _)
     (AutoListH.list___mul___list_int_3 p #[w] m1 b u1 (by simp[Builtin.List.listFitsIndex];lia) (by rw[e1'];lia) (by rw[e1'];simp[Builtin.List.listTooLong,Sw];exact o9 h1 rfl))
     ⟨z1,?_⟩⟩)
  refine⟨_,x.Xf _ (.list (M9 b.toNat v)) rfl (λg' h' e=>⟨_,_,e,?_⟩) _,h2 _ x.YR⟩;have e0:(if(#[w]:Array Me).isEmpty=Mj then 0 else b.toNat)=b.toNat:=by simp
  rw[e0,un];simp[z9.2]
theorem ya(x:St Z Φ J L ρ s){op:RG}{o:Op}(ho:op=rl o){a b:Me}(h:exec Z n (.iop o k) (er b::er a::st) ρ J Q):My (Mk Z.prog Z.w) A (UO op a b) (PK Z Φ L ρ n k st Q) E s:=by rw[ho];refine vr (ints.inv h) λa t b u z8=>?_;rw[z8.1];rw[z8.2.1];exact Ar x z8.2.2.1 z8.2.2.2.2 z8.2.2.2.1
theorem xK(x:St Z Φ J L ρ s){o:Cm}(ho:op=rX o){a b:Me}(h:exec Z n (.cmp o k) (er b::er a::st) ρ J Q):My (Mk Z.prog Z.w) A (Qk op a b) (PK Z Φ L ρ n k st Q) E s:=by rw[ho];refine vr (ints.inv h) λa t b u z7=>?_;obtain rfl:=z7.1;rw[z7.2.1];exact tB x z7.2.2
theorem zu(x:St Z Φ J L ρ s){o:Cm}(ho:op=rX o){a b:Me}(h:exec Z n (.XK o k) (er b::er a::st) ρ J Q):My (Mk Z.prog Z.w) A (Qk op a b) (PK Z Φ L ρ n k (er b::st) Q) E s:=by rw[ho];refine vr (ints.inv h) λa t b u z6=>?_;rw[z6.1];obtain rfl:=z6.2.1;exact tB x z6.2.2
theorem vj(a:Me):(er a==Value.none)=(a==Value.none):=by cases a<;>rfl
theorem D7(x:St Z Φ J L ρ s){a:Me}{neg:Bool}(h:exec Z n (.isn neg k) (er a::st) ρ J Q):My (Mk Z.prog Z.w) A (Qk (if neg then .IsNot else .Is) a .none) (PK Z Φ L ρ n k st Q) E s:=by
 change exec Z n k (.bool (if neg then !(er a==.none) else(er a==.none))::st) ρ J Q at h;rw[vj] at h;induction neg with
 |false=>exact is_none ⟨J,x,h⟩
 |true=>exact isNot_none ⟨J,x,h⟩
theorem Cu(x:St Z Φ J L ρ s){a:Me}(h:exec Z n (.neg k) (er a::st) ρ J Q):My (Mk Z.prog Z.w) A (unaryOp .USub a) (PK Z Φ L ρ n k st Q) E s:=by refine bI (bB.inv h) λa t z5=>?_;rw[z5.1];exact neg_int ⟨J,x.tk _,z5.2⟩
theorem Cg(x:St Z Φ J L ρ s){m:Nat}(hm:vs.length=m)(hz:m<=1000)(h:exec Z n (.Xz m k) ((vs.map er).reverse++st) ρ J Q):My (Mk Z.prog Z.w) A (Uy vs) (PK Z Φ L ρ n k st Q) E s:=by have h:=qK hm h;unfold Uy;exact Pe ⟨_,x.Xf _ (.tup (vs.map er)) rfl (λg' h' e=>⟨_,_,e,by simp⟩) s.toks,h _ x.YR⟩ (by show vs.toArray.size<=Sw;rw[Oj,NL];exact ur hm hz rfl)
theorem yC(x:St Z Φ J L ρ s){m:Nat}(hm:vs.length=m)(hz:m<=1000)(h:exec Z n (.Xa m k) ((vs.map er).reverse++st) ρ J Q):My (Mk Z.prog Z.w) A (newList vs) (PK Z Φ L ρ n k st Q) E s:=by have h:=qK hm h;unfold newList;exact Pe ⟨_,x.Xf _ (.list (vs.map er)) rfl (λg' h' e=>⟨_,_,e,by simp⟩) s.toks,h _ x.YR⟩ (by show vs.toArray.size<=Sw;rw[Oj,NL];exact ur hm hz rfl)
theorem za(x:St Z Φ J L ρ s)(h:exec Z n (.YO k) st ρ J Q):PK Z Φ L ρ n k st Q (.ref s.heap.objs.size) {s with heap:=s.heap.push {cls:=.type "dict",data:=.dict #[]}}:=
 ⟨_,x.Xf _ (.W9 []) rfl (λg' h' e=>⟨[],⟨_,e,λp w=>⟨λa he=>by simp at he,.nil⟩,UB⟩,rfl⟩) s.toks,h _ x.YR⟩
theorem Ci(x:St Z Φ J L ρ s){a:Me}(h:exec Z n (.abs k) (er a::st) ρ J Q):My (Mk Z.prog Z.w) A (OH (.builtin "abs") [a]) (PK Z Φ L ρ n k st Q) E s:=by
 refine bI (bB.inv h) λa t z4=>?_;rw[z4.1];refine call_abs_int λu tk=>⟨J,x.tk _,?_⟩;show exec Z n k (.int (if a<0 then -a else a) 0::st) ρ J Q;have e:(if a<0 then -a else a)=(a.natAbs:Int):=by
  by_cases h:a<0;·rw[if_pos h,Int.ofNat_natAbs_of_nonpos (Nm h)]
  ·rw[if_neg h,Ut (Q7.mp h)]
 rw[e];exact z4.2
theorem De(x:St Z Φ J L ρ s){a:Me}(h:exec Z n (.Xr k) (er a::st) ρ J Q):My (Mk Z.prog Z.w) A (OH (.type "int") [a]) (PK Z Φ L ρ n k st Q) E s:=by refine ae (dT.inv h) λa z3=>?_;rw[z3.1];exact call_int_bool ⟨J,x.tk _,z3.2⟩
end
theorem jL(D:Ml):QP (.type "list") (.ref D)=NO false:=by rw[F.mro_list];rfl
variable{cd:ClassData}
theorem zr(h:clsIn K D=Md cd):∃o,K.lookup D=Md o/\o.data=.cls cd:=by
 unfold clsIn at h;cases e:K.lookup D with
 |none=>rw[e] at h;cases h
 |some o=>
  obtain⟨a,b,dt,c⟩:=o;rw[e] at h;induction dt with
  |cls cd'=>exact⟨_,rfl,congrArg _ (MJ h)⟩
  |_=>cases h
set_option backward.match.sparseCases true in theorem ZN{o:P9}{Q:Me->Mn->Prop}(X:K.In s.heap)(ha:s.heap.get? a=Md o)(hc:o.cls=.type "list")(hm:typeIn K (.ref D)=Md (.type "type"))(hcd:clsIn K D=Md cd)(h:Q (.bool Mh) {s with toks:=s.toks+1}):My (Mk prog w) A (OH (.builtin "isinstance") [.ref a,.ref D]) Q E s:=by
 have hT:s.TypeIs (.ref a) "list":=⟨_,ha,hc⟩;have isT:∀{s':Mn}{A:O9}{E:Me->Mn->Prop}{Q:Bool->Mn->Prop},K.In s'.heap->Q Mj s'->My (Mk prog w) A (isType (.ref D)) Q E s':=λ{s' A E Q} X q=>by refine ae (zr hcd) λo z=>?_;obtain⟨c1,d1,dt,sl⟩:=o;obtain rfl:dt=.cls cd:=z.2;exact Mg (Mg (QG (X _ _ z.1) (MC (MC q))))
 refine call_isinstance_of ?_ (by intro e;cases e);unfold Builtin.«isinstance.nested»;refine Mg (Vs hT ?_);rw[if_neg (by exact O3)];refine Mg ((looks_typeIn (M:=Mk prog w) X hm).here ?_);rw[if_pos (by decide)];show My _ _ ((do
  if !(<-isType (.ref D)) then
   if <-Builtin.Builtins.hasBases (.ref D) then Uw "isinstance:class-by-__bases__"
   rule "isinstance.not-a-class";raiseError "TypeError" "isinstance() arg 2 must be a type, a tuple of types, or a union"
  if <-Rl (.ref a) (.ref D) then return Mj
  let Md c <-getAttr? (.ref a) "__class__"|return Mh
  if !(<-isType c) then return Mh
  rule "isinstance.by-__class__";QP c (.ref D):RW Bool)>>=_) _ _ _
 refine Mg (Mg (isT X ?_));rw[if_neg (by decide)];refine Mg (Mg (Vs hT ?_));rw[jL];refine MC ?_;rw[if_neg O3];obtain⟨h',g,d,t,os⟩:=s;refine Mg (class_attr_list ha hc ?_);refine Mg (MC ?_);rw[if_neg (by decide)];refine Mg (Py ?_);rw[jL];exact MC (MC h)
variable{k:Int}{t:Ug}{Q:Unit->Mn->Prop}
theorem rt{l:Ml}{items:Array Me}(ho:s.heap.get? l=Md (⟨.type "list",Mr,.seq items n,#[]⟩:P9))(h0:0<=k)(hfit:k<2^63)(hn:k<items.size)(hQ:∀h' m,h'.get? l=Md (⟨.type "list",Mr,.seq (items.setIfInBounds k.toNat v) m,#[]⟩:P9)->ND l s.heap h'->Q () {s with heap:=h'}):My (Mk prog w) A (UR (.ref l) (.int k t) v) Q E s:=by
 have hl:s.heap.IsList l items:=⟨_,ho,rfl,n,rfl⟩;unfold UR;try with_reducible refine Oz ?_
 first|refine Mg (MC ?_)|skip
 refine Mg (Td hl.typeIs (by decide) ?_);refine Mg (OQ (name:=OX "__setitem__") hl.typeIs slot_list_setitem
  (Pr slot_list_setitem hl.typeIs entry_list_setitem ?_ (args_list_setitem _ _ _)))
 show My _ _ (Builtin.List.listSubscript? (.int k t)>>=_) _ _ s;refine Mg (wpAny_listSubscript_int (fitsIndex_of h0 hfit) ?_);clear hfit;refine ae (MX h0) λj z2=>?_;obtain rfl:=z2;have hj:j<items.size:=xT hn;have hx':items[j]?=Md items[j]:=Qp hj;show My _ _ ((seqItemAt l j>>=λr=>NO (r.map (j,·)))>>=_) _ _ s;refine Mg (Mg (wpAny_seqItemAt ho rfl (MC ?_)));rw[hx'];show My _ _ (setSeqItemAt l j v>>=_) _ _ s;have hfin:∃m,(s.heap.update l (Wa (·.setIfInBounds j v))).get? l=Md (⟨.type "list",Mr,.seq (items.setIfInBounds j v) m,#[]⟩:P9):=by rw[Ng _ ho rfl];exact⟨_,rfl⟩
 refine ae hfin λm hfin=>?_;refine Mg (wpAny_setSeqItemAt ho rfl ?_);first
  |exact Mg (MC (MC ⟨.none,rfl,MC (hQ _ m hfin (OE ..))⟩))
  |exact wpAny_pure ⟨.none,rfl,wpAny_pure (hQ _ m hfin (Heap.SameBut.update ..))⟩
theorem sW(D:DI s.heap d kvs)(hQ:∀h',DI h' d (Ub kvs k v)->ND d s.heap h'->Q () {s with heap:=h'})(hsz:kvs.length<=1000000):My (Mk prog w) A (dictSetHashed d (.int k t) (hashInt k) v) Q E s:=by
 have hkey:(Se prog w).is k (.int k t)=true:=Sy prog w k t;refine ae D λes z1=>?_;have hk:=z1.2.1;have hp:=(hk prog w).2;have hk1:=(hk prog w).1;have hes:es.size<=sizeLine:=by
  have e1:=hp.length;have e2:es.toList.length=es.size:=by simp
  rw[NL];exact ur e1 hsz rfl
 unfold dictSetHashed;try with_reducible refine Oz ?_
 refine Mg (wpAny_dictFind_of hkey z1.1 rfl hk1 ?_);have hidx:(es.findIdx? λe=>(Se prog w).is k e.key)=kvs.findIdx? λkv=>M3 (kv.1=k):=by rw[<-hp.findIdx k];obtain⟨l⟩:=es;simp
 cases hi:es.findIdx? λe=>(Se prog w).is k e.key with
 |some i=>
  refine Mg (Py (Mg (wpAny_updateDict z1.1 rfl (U7 (hQ _ ⟨es.modify i λe=>{e with val:=v},?_,λp' w'=>⟨((hk p' w').1).modify i v,?_⟩,?_⟩ (OE ..))))));·rw[Ng _ z1.1 rfl];rw[Ub,if_pos (RY (hidx▸hi)),Mu];rfl
  ·rw[Ub,if_pos (RY (hidx▸hi))];have hl:(es.toList.findIdx? λe=>(Se p' w').is k e.key)=Md i:=by rw[<-hi];obtain⟨l⟩:=es;simp;rfl
   have:=(hk p' w').2.modify z1.2.2 hl v;have l:=es;simpa using this
  ·rw[Ub,if_pos (RY (hidx▸hi)),keys_map_store];exact z1.2.2
 |none=>
  have hnot:k∉kvs.map (·.1):=not_mem_of_findIdx_none (hidx▸hi);have hany:¬(kvs.any λkv=>M3 (kv.1=k))=true:=by rw[TH];rintro⟨kv,hkv,he⟩;exact hnot (NF.mpr ⟨kv,hkv,of_decide_eq_true he⟩)
  refine Mg (Py (wpAny_updateDictKeys (hz:=hes) z1.1 rfl (hQ _ ⟨es.push ⟨hashInt k,.int k t,v⟩,?_,λp' w'=>⟨((hk p' w').1).push (Sy p' w' k t) v,?_⟩,?_⟩ (OE ..))));·rw[Ng _ z1.1 rfl];rw[Ub,if_neg hany,MI];rfl
  ·rw[Ub,if_neg hany];have:=(hk p' w').2.append (Sy p' w' k t) (hashInt k) v;have l:=es;simpa using this
  ·rw[Ub,if_neg hany,Od,Vt];refine⟨z1.2.2,by simp,?_⟩;intro a ha b hb;simp only[Nn,List.map_nil,MN] at hb;rw[hb];exact λe=>hnot (e▸ha)
theorem aav(D:DI s.heap d kvs)(hQ:∀h',DI h' d (Ub kvs k v)->ND d s.heap h'->Q () {s with heap:=h',toks:=s.toks+1})(hsz:kvs.length<=1000000):My (Mk prog w) A (UR (.ref d) (.int k t) v) Q E s:=by
 have hT:s.TypeIs (.ref d) "dict":=(D.at prog w).dictOf.typeIs;unfold UR;try with_reducible refine Oz ?_
 refine Mg (Td hT (by decide) ?_);refine Mg (OQ (name:=OX "__setitem__") hT slot_dict_setitem
  (Pr slot_dict_setitem hT entry_dict_setitem ?_ (args_dict_setitem _ _ _)))
 show My _ _ (Builtin.Dict.notOrdered "__setitem__" ⟨[.ref d,.int k t,v],[]⟩>>=_) _ _ s;refine Mg (wpAny_notOrdered_dict hT ?_);show My _ _ (dictSet d (.int k t) v>>=_) _ _ s;refine Mg ?_;unfold dictSet;try with_reducible refine Oz ?_
 refine Mg ((Se prog w).pyHash (Sy prog w k t) ?_);exact sW (s:={s with toks:=s.toks+1}) D (λh' D' hs=>MC ⟨.none,rfl,MC (hQ h' D' hs)⟩) hsz
variable{b:Array UInt8}{Q:Me->Mn->Prop}{args:List Me}{j:Int}
namespace BA
theorem Zp:PlainAttrs "bytearray":=
 ⟨⟨"bytearray.__getattribute__",by rw[NH,Nb];kernel_rfl,by decide +kernel⟩,by rw[NH,Nb];kernel_rfl⟩
theorem Yn:Slot "bytearray" "append" "bytearray.append":=
 .of (owner:="bytearray") (n:="append") (by rw[NH,Nb];kernel_rfl) (by decide +kernel) (by decide +kernel) (by decide +kernel)
  (by first|exact .inl (by decide +kernel)|exact .inr (by decide +kernel)) (by rw[NP];kernel_rfl)
theorem ZX:Ve (.builtin "bytearray.append")=NO (.type "method_descriptor"):=by show builtinType _=_;rw[builtinType_eq_fast];kernel_rfl
theorem pS:Qa TB "bytearray.append"=Md Builtin.«bytearray.append»:=Ql (by kernel_rfl)
theorem rk(a b:Me):Sz "bytearray.append" ⟨[a,b],[]⟩:=by unfold Sz;kernel_rfl
theorem Yt:Slot "bytearray" "extend" "bytearray.extend":=
 .of (owner:="bytearray") (n:="extend") (by rw[NH,Nb];kernel_rfl) (by decide +kernel) (by decide +kernel) (by decide +kernel)
  (by first|exact .inl (by decide +kernel)|exact .inr (by decide +kernel)) (by rw[NP];kernel_rfl)
theorem ZW:Ve (.builtin "bytearray.extend")=NO (.type "method_descriptor"):=by show builtinType _=_;rw[builtinType_eq_fast];kernel_rfl
theorem py:Qa TB "bytearray.extend"=Md Builtin.«bytearray.extend»:=Ql (by kernel_rfl)
theorem rB(a b:Me):Sz "bytearray.extend" ⟨[a,b],[]⟩:=by unfold Sz;kernel_rfl
theorem qM:Slot "bytearray" "__len__" "bytearray.__len__":=
 .of (owner:="bytearray") (n:="__len__") (by rw[NH,Nb];kernel_rfl) (by decide +kernel) (by decide +kernel) (by decide +kernel)
  (by first|exact .inl (by decide +kernel)|exact .inr (by decide +kernel)) (by rw[NP];kernel_rfl)
theorem YU:Qa TB "bytearray.__len__"=Md Builtin.«bytearray.__len__»:=Ql (by kernel_rfl)
theorem xD(a:Me):Sz "bytearray.__len__" ⟨[a],[]⟩:=by unfold Sz;kernel_rfl
theorem Yg:Slot "bytearray" "__getitem__" "bytearray.__getitem__":=
 .of (owner:="bytearray") (n:="__getitem__") (by rw[NH,Nb];kernel_rfl) (by decide +kernel) (by decide +kernel) (by decide +kernel)
  (by first|exact .inl (by decide +kernel)|exact .inr (by decide +kernel)) (by rw[NP];kernel_rfl)
theorem nk:Qa TB "bytearray.__getitem__"=Md Builtin.«bytearray.__getitem__»:=Ql (by kernel_rfl)
theorem pv(a b:Me):Sz "bytearray.__getitem__" ⟨[a,b],[]⟩:=by unfold Sz;kernel_rfl
theorem ZY{M:RX}{u:Ug}{Q:Me×List Me->Mn->Prop}(h:Q (.builtin "int.bit_length",[.int i u]) s):My M A (Rk (.int i u) (OX "bit_length") pl) Q E s:=
 getMethod_int_bit_length h
theorem u7:("bytearray.__new__".splitOn ".__new__").headD ""="bytearray":=by rw[split_bytearray];rfl
noncomputable def Ba(h:Oy)(a:Ml)(b:Array UInt8):Prop:=h.get? a=Md (⟨.type "bytearray",Mr,.bytearray b 0,#[]⟩:P9)
theorem lY:Qe (.type "bytearray") "__buffer__"=NO (Md (.builtin "bytearray.__buffer__")):=by rw[NH,Nb];kernel_rfl
theorem rc:Qe (.type "bytearray") "__release_buffer__"=NO (Md (.builtin "bytearray.__release_buffer__")):=by rw[NH,Nb];kernel_rfl
theorem sv:Qe (.type "bytearray") "__bytes__"=NO none:=by rw[NH,Nb];kernel_rfl
theorem si:Qe (.type "bytearray") "__index__"=NO none:=by rw[NH,Nb];kernel_rfl
theorem qy:Qe (.type "bytes") "__bytes__"=NO (Md (.builtin "bytes.__bytes__")):=by rw[NH,Nb];kernel_rfl
theorem WD:QP (.type "bytearray") (.type "bytearray")=NO true:=by rw[NP];kernel_rfl
theorem xu:Qe (.type "bytearray") "__new__"=NO (Md (.builtin "bytearray.__new__")):=by rw[NH,Nb];kernel_rfl
theorem s4:mroOf (.type "bytearray")=NO [.type "bytearray",.type "object"]:=by rw[mroOf_type];kernel_rfl
theorem hW:Slot "bytearray" "__init__" "bytearray.__init__":=
 .of (owner:="bytearray") (n:="__init__") (by rw[NH,Nb];kernel_rfl) (by decide +kernel) (by decide +kernel) (by decide +kernel)
  (by first|exact .inl (by decide +kernel)|exact .inr (by decide +kernel)) (by rw[NP];kernel_rfl)
theorem aao:TypeCalled "bytearray" "bytearray.__new__" "bytearray.__init__":=
 ⟨by decide +kernel,by decide +kernel,⟨_,_,s4⟩,madeBy_type s4 xu (by decide +kernel),by decide +kernel,by rw[NP];kernel_rfl,hW⟩
theorem uE:checkTypeCall "bytearray" ⟨[],[]⟩=NO ():=by kernel_rfl
theorem vB:NS "bytearray.__new__" ⟨[.type "bytearray"],[]⟩=NO ():=by kernel_rfl
theorem u4:Qa TB "bytearray.__new__"=Md Builtin.«list.__new__»:=
 entryFor_alias (id':="list.__new__") (by kernel_rfl) (by decide +kernel) (by decide +kernel) (by kernel_rfl)
theorem s6:Qa TB "bytearray.__init__"=Md Builtin.«bytearray.__init__»:=Ql (by kernel_rfl)
theorem uw(a:Me):Sz "bytearray.__init__" ⟨[a],[]⟩:=by unfold Sz;kernel_rfl
theorem oj:plainId "bytearray.__new__"=true:=by decide +kernel
theorem ud:SA "bytearray.__init__" "bytearray" ["source", "encoding", "errors"] [] []=NO [Mr,Mr,Mr]:=by kernel_rfl
section
variable{M:RX}{R:Pj->Mn->Prop}
theorem rE{Q:Bool->Mn->Prop}(h:Q Mh s):Wc.Wj M A (Uc v) Q E s:=λΓ p hin hd hc=>by
 show Q (List.any ((Γ.code,p)::Γ.below) _) s;suffices z:List.any ((Γ.code,p)::Γ.below) _=Mh from z.symm▸h
 ·rw[Vr];intro c hcm;have hdec:Wc.dec c.1=false:=by
   rcases MT.mp hcm with q|q;·rw[q];exact hd
   ·exact hc c q
  obtain⟨c,p'⟩:=c;rw[TC];induction c with
  |builtin id args=>
   obtain⟨pos,kw⟩:=args;have hd:Wc.Yi id=false:=hdec;have n:∀k:String,Wc.Yi k=Mj->¬id=k:=λk hk z=>by rw[<-z,hd] at hk;cases hk
   delta VH;refine(dif_neg (n "bytearray.__contains__" (by decide +kernel))).trans ?_;refine(dif_neg (n "bytearray.__mod__" (by decide +kernel))).trans ?_;refine(dif_neg (n "bytearray.__rmod__" (by decide +kernel))).trans ?_;refine(dif_neg (n "_struct.pack_into.held" (by decide +kernel))).trans ?_;refine(dif_neg (n "bytearray.find.held" (by decide +kernel))).trans ?_;induction pos with
   |nil=>rfl
   |cons v t=>unfold Wc.Yi at hd;show(_&&List.contains _ id)=Mh;rw[(Qb.mp hd).1,Bool.and_false]
  |_=>rfl
theorem fG{Q:Array UInt8->Mn->Prop}(ha:Ba s.heap a b)(h:Q b s):My M A (Builtin.Bytes.payload (.ref a)) Q E s:=by exact Mg (Mg (QG ha (MC (MC h))))
theorem tJ{f:Bool->RW α}{Q:α->Mn->Prop}(ha:Ba s.heap a b)(h:Wc.Wj M A (f Mh) Q E s):Wc.Wj M A ((Uc (.ref a) <||> (do return (<-TJ (.ref a))>0))>>=f) Q E s:=by refine Wc.Wi (Wc.Wi (rE ?_));refine Wc.of ?_;show My _ _ (TJ (.ref a)>>=λn=>NO (M3 (n>0))) _ _ _;exact Mg (Mg (QG ha (MC (MC h))))
theorem nX{Q:Unit->Mn->Prop}(ha:Ba s.heap a b)(h:Q () s):Wc.Wj M A (Qq (.ref a)) Q E s:=by unfold Qq;refine tJ ha ?_;exact Wc.wpAny_pure h
theorem me{f:Array UInt8->Array UInt8}{Q:Unit->Mn->Prop}(ha:Ba s.heap a b)(hz:(f b).size<=1000000)(h:∀h',Ba h' a (f b)->ND a s.heap h'->Q () {s with heap:=h'}):My M A (RZ (.ref a) f) Q E s:=by show My M A (updateBytearray a f) Q E s;unfold updateBytearray;refine Mg (QG ha ?_);show My _ _ (update a (TK f)>>=λc=>lookBehind a) _ _ _;refine Mg (wpAny_update ha ?_);have hS:Ba (s.heap.update a (TK f)) a (f b):=Ng (TK f) ha rfl;refine TF hS ?_ (h _ hS (OE ..));show(if(f b).size>Sw then Md "bytearray:memory" else Mr)=Mr;rw[if_neg];rw[NL];exact af 0x4200013f4240104c8a80000007262a [] [_] hz
theorem zU{Q:UInt8->Mn->Prop}(h0:0<=i)(h1:i<256)(h:Q i.toNat.toUInt8 s):My M A (TL (.int i t)) Q E s:=by unfold TL;refine Mg (Nu (a:=i) rfl ?_);refine Ol (by simp only[Qb,decide_eq_false_iff_not];exact(ao 0x2108009c2000138008245a0405e000c1a09c6f2f [_] [] h0 h1:An _ _).and) ?_;exact MC h
theorem ZQ(ha:Ba s.heap a b)(h0:0<=i)(h1:i<256)(hz:b.size<1000000)(hQ:∀h',Ba h' a (b.push i.toNat.toUInt8)->ND a s.heap h'->Q .none {s with heap:=h'}):Wc.Wj (Mk prog w) A (OH (.builtin "bytearray.append") [.ref a,.int i t]) Q E s:=by have hT:s.TypeIs (.ref a) "bytearray":=⟨_,ha,rfl⟩;refine Wc.WO (Wc.WI Yn.plain pS (by decide +kernel) (Wc.of (Yn.check _ _ _ _ _ _ _ _ hT (rk _ _) ?_)));unfold Builtin.«bytearray.append»;refine Wc.Wi (Wc.wpAny_pure ?_);refine Wc.Wi (Wc.of (zU h0 h1 ?_));refine Wc.Wi (nX ha ?_);refine Wc.Wi (Wc.of (me ha (by simp;exact af 0x4200013f424010508bd08fc41322 [] [_] hz) λh' e hs=>?_));exact Wc.wpAny_pure (hQ h' e hs)
theorem qi:SX id (.bytes b t) 0=NO (Md (b,Mr)):=by
 unfold SX;rw[UC KBy.look_buffer,KBy.own_buffer];have e:P2 id (.bytes b t) (full:=(0:Int)==SD)=NO (Md b):=by rw[show((0:Int)==SD)=Mh from by decide];exact KBy.buffer_eq
 rw[e];rfl
theorem sD:Ro id (.bytes b t) 0=NO (Md (b,Mr)):=by unfold Ro;rw[qi];rfl
set_option backward.match.sparseCases true in theorem ZS{x:Array UInt8}(ha:Ba s.heap a b)(hz:b.size+x.size<1000000)(hQ:∀h',Ba h' a (b++x)->ND a s.heap h'->Q .none {s with heap:=h'}):Wc.Wj (Mk prog w) A (OH (.builtin "bytearray.extend") [.ref a,.bytes x t]) Q E s:=by
 have hT:s.TypeIs (.ref a) "bytearray":=⟨_,ha,rfl⟩;refine Wc.WO (Wc.WI Yt.plain py (by decide +kernel) (Wc.of (Yt.check _ _ _ _ _ _ _ _ hT (rB _ _) ?_)));unfold Builtin.«bytearray.extend»;refine Wc.Wi (Wc.wpAny_pure ?_);dsimp only;rw[UC KBy.look_buffer];refine Wc.Wi (Wc.wpAny_pure ?_);dsimp only[Option.isSome_some];rw[if_pos rfl];refine Wc.Wi (Wc.WV (Wc.Wi (Wc.of (fG ha ?_))));rw[sD];refine Wc.Wi (Wc.wpAny_pure ?_);dsimp only[Option.isNone_none];rw[if_pos rfl];show Wc.Wj _ _ (do
  if !x.isEmpty then Qq (.ref a)
  RZ (.ref a) (·++x)
  ret .none) _ _ _
 have fin:Wc.Wj (Mk prog w) A.in1 (RZ (.ref a) (·++x)) (λc s'=>Q .none s') E s:=Wc.of (me ha (by simp;exact Nq hz) hQ);have tail:=Wc.Wi (f:=λc=>(ret .none:RW Fin)) (Q:=λfin s'=>match fin with
   |.done f=>(match(Except.ok f:Pj) with|.ok (.ret v)=>Q v s'|.ok _=>False|.error e=>E e s')
   |.again c'=>c'.quiet=Mj/\Wc.Wx (Mk prog w) A c' (λr s'=>match r with|.ok (.ret v)=>Q v s'|.ok _=>False|.error e=>E e s') s')
  (Wc.Wn fin (λc c z=>Wc.wpAny_pure z) λc c z=>z)
 by_cases he:x.isEmpty=Mj;·rw[he];exact tail
 ·rw[TC] at he;rw[he];exact Wc.Wi (nX ha tail)
theorem aaD(ha:Ba s.heap a b)(hz:b.size<=1000000)(h:∀t k,Q (.int b.size t) {s with toks:=k}):My (Mk prog w) A (OH (.builtin "len") [.ref a]) Q E s:=by have hT:s.TypeIs (.ref a) "bytearray":=⟨_,ha,rfl⟩;refine PySem.Calls.call_function_entry kind_len plain_len PySem.entry_len (args_len1 _) ?_;unfold Builtin.«len»;refine Mg (m:=oneArg "len" _) (MC ?_);refine Mg (m:=Sj (.ref a) (OX "__len__")) (OQ hT qM (Pr qM hT BA.YU ?_ (xD _)));unfold Builtin.«bytearray.__len__»;refine Mg (MC ?_);refine Mg (fG ha ?_);refine Mg (UD (MC ⟨_,rfl,?_⟩));refine Mg (Oz (MC ?_));refine Mg (UE ?_);show My _ _ (if(b.size:Int)<0 then _ else _) _ _ _;rw[if_neg (by exact ck 0x8600027714e11 [] [_])];show My _ _ (if(b.size:Int)≥2^63 then _ else _) _ _ _;rw[if_neg (ao 0x422840003d000000000000000020a4df4240104c8af04612 [_] [_] hz d5)];exact Mg (UD (MC ⟨_,rfl,h _ _⟩))
theorem aan{y:UInt8}(ha:Ba s.heap a b)(h0:0<=j)(h1:j<2^63)(hy:b[j.toNat]?=Md y)(h:∀t k,Q (.int y.toNat t) {s with toks:=k}):My (Mk prog w) A (getItem (.ref a) (.int j t)) Q E s:=by
 have hT:s.TypeIs (.ref a) "bytearray":=⟨_,ha,rfl⟩;unfold getItem;try with_reducible refine Oz ?_
 refine Mg (Td hT (by decide) ?_);refine Mg (OQ (name:=OX "__getitem__") hT Yg (Pr Yg hT nk ?_ (pv _ _)));unfold Builtin.«bytearray.__getitem__»;refine Mg (MC ?_);dsimp only;have hlt:=(O4.mp hy).1;have hj:VI j b.size=Md j.toNat:=by have hn:¬j<0:=af 0x42000138101704e0d [_] [] h0;have:j<b.size:=ao Lz [_] [_,_] hlt (MF h0);simp[VI,hn,h0,this]
 have sb:My (Mk prog w) A.in1 (Tv (.int j t)) (λr s'=>r=Md j/\s'=s) E s:=by unfold Tv;refine Mg (OG (T:="int") (Vc s j t) int_index ?_);refine Ol rfl ?_;refine Mg (Nu (a:=j) rfl ?_);refine Ol (by simp only[Builtin.Bytes.fitsIndex,Bool.not_eq_false',Of,decide_eq_true_eq];exact(ao 0x2108009c21840001fc8843a4080ec88678408f28 [_,_] [] h0 h1:An _ _).and) ?_;exact MC ⟨rfl,rfl⟩
 refine Mg (NN sb (λr s' hr=>?_) λc c z=>z);obtain rfl:=hr.1;rw[hr.2];refine Mg (fG ha ?_);rw[hj,NI,hy];refine Mg (UD (MC ⟨_,rfl,MC (h _ _)⟩))
theorem Zx(h:∀t k,Q (.bytes b t) {s with toks:=k}):My (Mk prog w) A (OH (.type "bytes") [.bytes b t]) Q E s:=by
 refine callType_codes (Q₁:=λobj s₁=>s₁.TypeIs obj "bytes"/\Q obj s₁) RL (F.bm_typeCall _) F.entry_object_init ?_ λobj s₁ h₁=>
  ⟨h₁.1,UG obj _,object_init_meets RL.init.lookup RL.made (by decide) prog w A.in1 _ s₁ ⟨h₁.1,rfl,h₁.2⟩⟩
 refine Pt F.bm_plain F.bm_entry (Nu (F.bm_newCall _) ?_);unfold Builtin.«bytes.__new__»;refine Mg (Nu (a:=Mj) rfl ?_);refine Ol rfl ?_;refine Mg (Nu F.bm_sub ?_);refine Ol rfl ?_;refine Mg (Nu (F.bm_bind _) ?_);refine Mg (Nu (a:=()) rfl ?_);refine Mg (Nu (a:=()) rfl ?_);refine Ol rfl ?_;refine Mg (Nu (UC qy) ?_);refine Mg (Py ?_);refine Mg (Nu (a:=TY "bytes") rfl ?_);refine bm_if_true rfl ?_;exact MC ⟨SY _ _ _,h t s.toks⟩
theorem ZD(ha:Ba s.heap a b)(hz:b.size<=1000000)(h:∀t k,Q (.bytes b t) {s with toks:=k}):My (Mk prog w) A (OH (.type "bytes") [.ref a]) Q E s:=by
 have hT:s.TypeIs (.ref a) "bytearray":=⟨_,ha,rfl⟩;refine callType_codes (Q₁:=λobj s₁=>s₁.TypeIs obj "bytes"/\Q obj s₁) RL (F.bm_typeCall _) F.entry_object_init ?_ λobj s₁ h₁=>
  ⟨h₁.1,UG obj _,object_init_meets RL.init.lookup RL.made (by decide) prog w A.in1 _ s₁ ⟨h₁.1,rfl,h₁.2⟩⟩
 refine Pt F.bm_plain F.bm_entry (Nu (F.bm_newCall _) ?_);unfold Builtin.«bytes.__new__»;refine Mg (Nu (a:=Mj) rfl ?_);refine Ol rfl ?_;refine Mg (Nu F.bm_sub ?_);refine Ol rfl ?_;refine Mg (Nu (F.bm_bind _) ?_);refine Mg (Nu (a:=()) rfl ?_);refine Mg (Nu (a:=()) rfl ?_);refine Ol rfl ?_;refine Mg (OG hT sv ?_);refine Mg (Mg (Mg (QG ha (MC (MC ?_)))));refine Ol rfl ?_;refine Mg (OG hT si ?_);refine bm_if_true rfl ?_;have own1:My (Mk prog w) A.in1.in1 (TM (.ref a) "__buffer__") (λr s'=>r=Mj/\s'=s) E s:=by
  have key:∀x:String,x="bytearray"->My (Mk prog w) A.in1.in1 (Rl (.ref a) (.type x)) (λr s'=>r=Mj/\s'=s) E s:=λx hx=>by subst hx;exact Qm hT WD ⟨rfl,rfl⟩
  unfold TM;refine Mg (OG hT lY ?_);refine Ol (by decide +kernel) ?_;exact key _ (by decide +kernel)
 have own2:My (Mk prog w) A.in1.in1 (Tw (.ref a)) (λr s'=>r=Mh/\s'=s) E s:=by
  have key:∀x:String,x="bytearray"->My (Mk prog w) A.in1.in1 (Rl (.ref a) (.type x)) (λr s'=>r=Mj/\s'=s) E s:=λx hx=>by subst hx;exact Qm hT WD ⟨rfl,rfl⟩
  refine Mg (Mg (OG hT rc ?_));dsimp only;refine Ol (by decide +kernel) ?_;refine NN (key _ (by decide +kernel)) (λr s' hr=>?_) λc c z=>z;obtain rfl:=hr.1;rw[hr.2];exact MC ⟨rfl,rfl⟩
 have buf:My (Mk prog w) A.in1.in1 (P2 "bytes.__new__" (.ref a) Mj) (λr s'=>r=Md b/\s'=s) E s:=by
  unfold P2;refine Mg (OG hT lY ?_);refine Mg (NN own1 (λr s' hr=>?_) λc c z=>z);obtain rfl:=hr.1;rw[hr.2];refine Ol rfl ?_;refine Mg (OG hT lY ?_);try dsimp only
  refine Mg (NN own2 (λr s' hr=>?_) λc c z=>z);obtain rfl:=hr.1;rw[hr.2];refine Ol rfl ?_;exact Mg (fG ha (MC ⟨rfl,rfl⟩))
 show My _ _ (P2 "bytes.__new__" (.ref a) Mj>>=_) _ _ _;refine Mg (NN buf (λr s' hr=>?_) λc c z=>z);rw[hr.1];rw[hr.2];refine Mg (Py (Mg (wpAny_mkBytes ?_ (by rw[NL];exact c6 hz rfl))));show My _ _ (if(TY "bytes"==TY "bytes")=Mj then _ else _) _ _ _;refine bm_if_true (by decide) ?_;exact MC ⟨SY _ _ _,h _ _⟩
theorem yJ{Q:Bool->Mn->Prop}(ha:Ba s.heap a b)(h:Q Mh s):My M A (Tw (.ref a)) Q E s:=by
 have hT:s.TypeIs (.ref a) "bytearray":=⟨_,ha,rfl⟩;have key:∀x:String,x="bytearray"->My M A (Rl (.ref a) (.type x)) (λr s'=>r=Mj/\s'=s) E s:=λx hx=>by subst hx;exact Qm hT WD ⟨rfl,rfl⟩
 refine Mg (Mg (OG hT rc ?_));dsimp only;refine Ol (by decide +kernel) ?_;refine NN (key _ (by decide +kernel)) (λr s' hr=>?_) λc c z=>z;obtain rfl:=hr.1;rw[hr.2];exact MC h
theorem wU{Q₁:Me->Mn->Prop}(h:Q₁ (.ref s.heap.objs.size) {s with heap:=s.heap.push {cls:=.type "bytearray",data:=.bytearray #[]}}):VR (Mk prog w) A (.call (.builtin "bytearray.__new__") ⟨[.type "bytearray"],[]⟩) (wants Q₁ E) s:=by refine PySem.codeAny_of_tree ?_;show My _ A.in1 (do NS "bytearray.__new__" ⟨[.type "bytearray"],[]⟩;VS (.builtin "bytearray.__new__" ⟨[.type "bytearray"],[]⟩)) _ _ s;refine Mg (Nu vB (MC ⟨plainId_quiet oj _,codeAny_builtin_stack u4 rfl λp st=>?_⟩));rw[RE oj _];have hsub:=WD;have hown:=u7;obtain⟨hp,g,d,tk,os⟩:=s;simp only[hown];wp_walk;exact h
theorem j7{self:Me}{T:String}{Q:Option Me->Mn->Prop}(hT:s.TypeIs self T)(h:Slot T name id)(hc:Wc.Wj M A (OH (.builtin id) (self::args) []) (λv=>Q (Md v)) E s):Wc.Wj M A (Sj self name args []) Q E s:=by refine Wc.Wi (Wc.of (OG hT h.lookup ?_));simp only[h.bind];exact Wc.Wo (Wc.Wi (Wc.wpAny_pure (Wc.Wi (Wc.Wn hc (λv s' h'=>Wc.wpAny_pure h') λa a h'=>h'))))
theorem pG(ha:Ba s.heap a #[])(hQ:∀h',Ba h' a #[]->ND a s.heap h'->Q .none {s with heap:=h'}):Wc.Wj (Mk prog w) A (OH (.builtin "bytearray.__init__") [.ref a] []) Q E s:=by have hT:s.TypeIs (.ref a) "bytearray":=⟨_,ha,rfl⟩;refine Wc.WO (Wc.WI hW.plain s6 (by decide +kernel) (Wc.of (hW.check _ _ _ _ _ _ _ _ hT (uw _) ?_)));unfold Builtin.«bytearray.__init__»;refine Wc.Wi (Wc.of (yJ ha ?_));refine Wc.Wi (m:=SA _ _ _ _ _) (Wc.of (Nu ud ?_));refine Wc.Wi (Wc.wpAny_pure ?_);refine Wc.Wi (Wc.wpAny_pure ?_);refine tJ ha ?_;show Wc.Wj _ _ (_>>=_) _ _ _;refine Wc.Wi (Wc.of (me ha (by simp) λh' e hs=>?_));exact Wc.Wi (Wc.wpAny_pure (Wc.wpAny_pure (hQ h' e hs)))
theorem aak(hQ:∀h',Ba h' s.heap.objs.size #[]->(∀b o,s.heap.get? b=Md o->h'.get? b=Md o)->Q (.ref s.heap.objs.size) {s with heap:=h'}):Wc.Wj (Mk prog w) A (OH (.type "bytearray") []) Q E s:=by
 refine Wc.WO (Wc.WC rfl ?_);show Wc.Wj _ _ (callAny (.type "bytearray") _) _ _ _;refine Wc.wpAny_pure (a:=Fin.again (.builtin "type.__call__" ⟨[.type "bytearray"],[]⟩)) ⟨QH _ (by decide +kernel),Wc.Xp F.entry_type_call (by decide +kernel) ?_⟩;rw[Around.under_plain (weight_type_call_type "bytearray" [] []) (units_type_call_type "bytearray" [] [])];unfold Builtin.«type.__call__»;dsimp only;rw[if_neg (by decide)];have ifn:∀{α:Type}{A:O9}{c:Bool}{a b:RW α}{Q:α->Mn->Prop}{E:Me->Mn->Prop}{s:Mn},c=Mh->Wc.Wj (Mk prog w) A b Q E s->Wc.Wj (Mk prog w) A (if c=Mj then a else b) Q E s:=λh k=>by subst h;exact k
 refine ifn aao.canCreate ?_;refine Wc.Wi (Wc.of (Nu uE ?_));refine Wc.Wi (Wc.of (Nu s4 ?_));refine ifn rfl ?_;refine Wc.Wi (Wc.of (Nu aao.made ?_));dsimp only;refine Wc.Wi (Wc.wpAny_pure ?_);refine Wc.Wi (Wc.Wo (Wc.WO (Wc.WR (Wc.aam (wU (E:=E) (Q₁:=λv s'=>v=.ref s.heap.objs.size/\s'={s with heap:=s.heap.push {cls:=.type "bytearray",data:=.bytearray #[]}}) ⟨rfl,rfl⟩)) λr s' hr=>?_)));rcases r with e|(v|_|_|_)<;>first|exact hr|skip
 rw[hr.1];rw[hr.2];have hB:Ba (s.heap.push {cls:=.type "bytearray",data:=.bytearray #[]}) s.heap.objs.size #[]:=MS _ rfl;dsimp only;refine Wc.Wi (Wc.of (Qm (T:="bytearray") ⟨_,hB,rfl⟩ WD ?_));refine ifn rfl ?_;refine Wc.Wi (Wc.Wo (j7 (T:="bytearray") ⟨_,hB,rfl⟩ hW (pG hB λh' e hs=>?_)));refine ifn (by decide) ?_;exact Wc.wpAny_pure (hQ h' e λb o hb=>(hs.2 b (Nf (NA hb))).trans (ME _ hb))
end
end BA
variable{b:List UInt8}{d i:Nat}{Q:Out->Sg->Prop}{ys:Array Me}{slice:MY}{tv:Me}
section
open PySem.SeqAt
section
variable{k:T}{st:List Me}
theorem St.sysm(B:aN Z Kg)(hb:WJ Z Φ)(x:St Z Φ J L ρ s){c:Cell}(hc:J a=Md c):(a==Ua)=false:=by refine ae B.4 λo ho=>?_;obtain⟨g,m,I,_⟩:=x;refine beq_eq_false_iff_ne.mpr λe=>?_;subst e;have h1:=(I.1 _ _ (hb _ _ ho).1).2;have h2:=(I.3 _ _ hc).1;rw[h1] at h2;cases h2
theorem de{m:List (Int×Me)}(x:St Z Φ J L ρ s)(hc:J a=Md (.W9 m)):∃kvs,DI s.heap a kvs/\kvs.map (λp=>(p.1,er p.2))=m:=by obtain⟨g,m,I,_⟩:=x;exact(I.3 a _ hc).2
theorem cy(x:St Z Φ J L ρ s)(hc:J a=Md (.WK b)):s.heap.get? a=Md (⟨.type "bytearray",Mr,.bytearray b.toArray 0,#[]⟩:P9):=by obtain⟨g,m,I,_⟩:=x;exact(I.3 a _ hc).2
theorem Yk{m:Nat}:(Oi m).all (λa=>Mj)=true:=by simp
theorem pD{ws:Array Me}{ys:List Me}{P:Me->Me->Prop}(z:zs.toList.map er=xs)(w:ws.toList.map er=ys)(h:∀p∈xs.zip ys,P p.1 p.2)(j:Nat)(h1:j<zs.size)(h2:j<ws.size):P (er zs[j]) (er ws[j]):=
 h (er zs[j],er ws[j]) (by rw[<-z,<-w];exact List.mem_iff_getElem.mpr ⟨j,by simp;lia,by simp⟩)
theorem oR(x:St Z Φ J L ρ s){v' w':Me}(h:dZ J d v' w'):∀(A:O9)(v w:Me),er v=v'->er w=w'->A.units+d<=9900->EqAt A s v w true:=by
 induction h with
 |@int d p=>intro A v w hv hw _;refine WN hv λt1=>?_;refine WN hw λu1=>?_;have:=EqAt.int_int (A:=A) (s:=s) p t1 p u1;rw[beq_self_eq_true] at this;exact this
 |@str d p=>intro A v w hv hw _;refine Yz hv λt1=>?_;refine Yz hw λu1=>?_;have:=EqAt.str_str (A:=A) (s:=s) p t1 p u1;rw[beq_self_eq_true] at this;exact this
 |none=>intro A v w hv hw _;rw[pe hv,pe hw];exact VJ _
 |bool=>intro A v w hv hw _;rw[lu hv,lu hw];exact VJ _
 |@list d a b xs ys hx hy hl _ ih=>
  intro A v w hv hw hu;rw[aq hv,aq hw];by_cases hab:a=b;·subst hab;exact VJ _
  obtain⟨zs,m1,z1,z2,l1⟩:=aw x hx;obtain⟨ws,m2,w1,w2,l2⟩:=aw x hy;have R:=RcAt.lists (A:=A) (s:=s) (e:=λc=>Mj) ⟨_,z1,rfl,m1,rfl⟩ ⟨_,w1,rfl,m2,rfl⟩ (aS KC [] [_,_,_,_] hl l1 l2) (by unfold Wb;exact af KH [] [_,_] hu) λj h1 h2=>
   pD (P:=λv' w'=>∀(A:O9)(v w:Me),er v=v'->er w=w'->A.units+d<=9900->EqAt A s v w Mj) z2 w2 ih j h1 h2 A.in1 _ _ rfl rfl (by show A.units+1+d<=_;exact af KR [] [_,_] hu)
  rw[Yk] at R;exact EqAt.of_refs hab R
 |@tup d a b xs ys hx hy hl _ ih=>
  intro A v w hv hw hu;rw[aq hv,aq hw];by_cases hab:a=b;·subst hab;exact VJ _
  obtain⟨zs,m1,z1,z2,l1⟩:=bD x hx;obtain⟨ws,m2,w1,w2,l2⟩:=bD x hy;have R:=RcAt.tuples (A:=A) (s:=s) (e:=λc=>Mj) ⟨_,z1,rfl,m1,rfl⟩ ⟨_,w1,rfl,m2,rfl⟩ (by unfold Wb;exact af KH [] [_,_] hu) λj h1 h2=>
   pD (P:=λv' w'=>∀(A:O9)(v w:Me),er v=v'->er w=w'->A.units+d<=9900->EqAt A s v w Mj) z2 w2 ih j h1 h2 A.in1 _ _ rfl rfl (by show A.units+1+d<=_;exact af KR [] [_,_] hu)
  rw[Yk,show zs.size=ws.size from aS KC [] [_,_,_,_] hl l1 l2,beq_self_eq_true,Bool.true_and] at R;exact EqAt.of_refs hab R
theorem fe[BEq α][LawfulBEq α][DecidableEq α](a b:α):(a==b)=M3 (a=b):=by rw[Bool.eq_iff_iff,beq_iff_eq,decide_eq_true_eq]
theorem zK(x:St Z Φ J L ρ s){w:Me}{b:Ml}(hv:v=.ref a)(hw:w=.ref b)(hu:A.units+d<=9900)(h:dZ J d v w):RcAt A s (.ref a) (.ref b) Mj/\RcNeAt A s (.ref a) (.ref b) false:=by
 induction h with
 |@list d p q xs ys hx hy hl h=>
  cases hv;cases hw;obtain⟨zs,m1,z1,z2,l1⟩:=aw x hx;obtain⟨ws,m2,w1,w2,l2⟩:=aw x hy;have he:∀j (h1:j<zs.size) (h2:j<ws.size),EqAt A.in1 s zs[j] ws[j] true:=λj h1 h2=>
   oR x (pD (P:=dZ J d) z2 w2 h j h1 h2) A.in1 _ _ rfl rfl (by show A.units+1+d<=_;exact af KR [] [_,_] hu)
  have R1:=RcAt.lists (A:=A) (s:=s) (e:=λc=>Mj) ⟨_,z1,rfl,m1,rfl⟩ ⟨_,w1,rfl,m2,rfl⟩ (aS KC [] [_,_,_,_] hl l1 l2) (by unfold Wb;exact af KH [] [_,_] hu) he;have R2:=RcNeAt.lists (A:=A) (s:=s) (e:=λc=>Mj) ⟨_,z1,rfl,m1,rfl⟩ ⟨_,w1,rfl,m2,rfl⟩ (aS KC [] [_,_,_,_] hl l1 l2) (by unfold Wb;exact af KH [] [_,_] hu) he;rw[Yk] at R1 R2;exact⟨R1,R2⟩
 |@tup d p q xs ys hx hy hl h=>
  cases hv;cases hw;obtain⟨zs,m1,z1,z2,l1⟩:=bD x hx;obtain⟨ws,m2,w1,w2,l2⟩:=bD x hy;have he:∀j (h1:j<zs.size) (h2:j<ws.size),EqAt A.in1 s zs[j] ws[j] true:=λj h1 h2=>
   oR x (pD (P:=dZ J d) z2 w2 h j h1 h2) A.in1 _ _ rfl rfl (by show A.units+1+d<=_;exact af KR [] [_,_] hu)
  have R1:=RcAt.tuples (A:=A) (s:=s) (e:=λc=>Mj) ⟨_,z1,rfl,m1,rfl⟩ ⟨_,w1,rfl,m2,rfl⟩ (by unfold Wb;exact af KH [] [_,_] hu) he;have R2:=RcNeAt.tuples (A:=A) (s:=s) (e:=λc=>Mj) ⟨_,z1,rfl,m1,rfl⟩ ⟨_,w1,rfl,m2,rfl⟩ (by unfold Wb;exact af KH [] [_,_] hu) he;rw[Yk,show zs.size=ws.size from aS KC [] [_,_,_,_] hl l1 l2,beq_self_eq_true,Bool.true_and] at R1 R2;exact⟨R1,R2⟩
 |_=>cases hv
theorem Er(x:St Z Φ J L ρ s)(hu:A.units+9<=9900){a b:Me}{neg:Bool}(h:exec Z n (.eqv neg k) (er b::er a::st) ρ J Q):My (Mk Z.prog Z.w) A (Qk (if neg then .NotEq else .Eq) a b) (PK Z Φ L ρ n k st Q) E s:=by
 refine ae h λr q11=>?_;have hr:=q11.1;have h:=q11.2;have fin:∀{r'},r'=(if neg=Mj then !r else r)->PK Z Φ L ρ n k st Q (.bool r') s:=λ{r'} e=>⟨J,x,by rw[e];exact h⟩;clear h;generalize ha:er a=a' at hr;generalize hb:er b=b' at hr;induction hr with
 |int=>
  refine WN ha λt1=>?_;refine WN hb λu1=>?_;cases neg with
  |false=>exact PyProof.Rows.eq_int (fin (by rw[fe];rfl))
  |true=>exact PyProof.Rows.ne_int (fin (by unfold bne;rw[fe];rfl))
 |str=>
  refine Yz ha λt1=>?_;refine Yz hb λu1=>?_;cases neg with
  |false=>exact PyProof.Rows.eq_str (fin (by rw[fe];rfl))
  |true=>exact PyProof.Rows.ne_str (fin (by unfold bne;rw[fe];rfl))
 |@bytes p q=>
  refine Xh ha λt1=>?_;refine Xh hb λu1=>?_;have hd:(p.toList==q.toList)=M3 (p=q):=by rw[Bool.eq_iff_iff,beq_iff_eq,decide_eq_true_eq,Q9]
  induction neg with
  |false=>exact eq_bytes (fin (by rw[hd];rfl))
  |true=>exact ne_bytes (fin (by unfold bne;rw[hd];rfl))
 |same hr=>
  rw[aq ha];rw[aq hb];obtain q4:=zK x rfl rfl hu hr;induction neg with
  |false=>exact q4.1 _ _ _ _ (fin rfl)
  |true=>exact q4.2 _ _ _ _ (fin rfl)
 |@odd p q xs ys hx hy hne=>
  rw[aq ha];rw[aq hb];obtain⟨zs,m1,z1,z2,l1⟩:=aw x hx;obtain⟨ws,m2,w1,w2,l2⟩:=aw x hy;have hsz:(zs.size !=ws.size)=true:=by rw[bne_iff_ne];lia
  have i1:s.heap.IsList p zs:=⟨_,z1,rfl,m1,rfl⟩;have i2:s.heap.IsList q ws:=⟨_,w1,rfl,m2,rfl⟩;induction neg with
  |false=>exact RcAt.lists_lengths (A:=A) i1 i2 hsz (by unfold Wb;exact af 0x42000139ab048826932c9ab04141c [] [_] hu) _ _ _ _ (fin rfl)
  |true=>exact RcNeAt.lists_lengths (A:=A) i1 i2 hsz (by unfold Wb;exact af 0x42000139ab048826932c9ab04141c [] [_] hu) _ _ _ _ (fin rfl)
noncomputable def aaM(h:Oy)(v:Me)(xs:List Me):Prop:=yt λa ys m sl=>v=.ref a/\h.get? a=Md (⟨.type "tuple",Mr,.seq ys m,sl⟩:P9)/\ys.toList.map er=xs
theorem Dc{y:Me}{b:Bool}(h:EY (er v) (er y)=Md b):EqAt A s y v b:=by
 induction v with
 |int p t=>
  induction y with
  |int q u=>cases h;rw[show M3 (p=q)=(q==p) from by rw[fe];simp[eq_comm]];exact EqAt.int_int q u p t
  |_=>cases h
 |str p t=>
  induction y with
  |str q u=>cases h;rw[show M3 (p=q)=(q==p) from by rw[fe];simp[eq_comm]];exact EqAt.str_str q u p t
  |_=>cases h
 |_=>cases h
theorem wO{ys:List Me}:∀{r:Bool},Ag (er v) (ys.map er)=Md r->(ys.any λy=>(EY (er v) (er y)).getD Mh)=r/\∀y∈ys,EqAt A s y v ((EY (er v) (er y)).getD Mh):=by
 induction ys with
 |nil=>intro r h;cases h;exact⟨rfl,λa h=>absurd h TP⟩
 |cons y ys ih=>
  intro r h;refine ae (Mz.mp h) λb q3=>?_;obtain⟨hb,h⟩:=q3;refine ae (MQ.mp h) λc q2=>?_;obtain⟨hc,rfl⟩:=q2;obtain q1:=ih hc;refine⟨by rw[PX,q1.1,hb];rfl,λz hz=>?_⟩;rcases MT.mp hz with q|q
  ·subst q;rw[hb];exact Dc hb
  ·exact q1.2 z q
theorem Em(x:St Z Φ J L ρ s){a t:Me}{neg:Bool}(ht:aaM s.heap t xs)(h:exec Z n (.inn neg xs k) (er a::st) ρ J Q):My (Mk Z.prog Z.w) A (Qk (if neg then .NotIn else .In) a t) (PK Z Φ L ρ n k st Q) E s:=by
 refine ae h λr w29=>?_;refine vr ht λl ys m sl w28=>?_;rw[w28.1];have h2:=w28.2.2;subst h2;obtain w27:=wO (A:=A.in1) (s:=s) w29.1;have hi:s.heap.IsTuple l ys:=⟨_,w28.2.1,rfl,m,rfl⟩;have e3:(ys.any λy=>(EY (er a) (er y)).getD Mh)=r:=by rw[<-w27.1,Array.any_toList]
 induction neg with
 |false=>exact in_tupleAt _ hi (λy hy=>w27.2 y (RI.mpr hy)) ⟨J,x,by rw[e3];exact w29.2⟩
 |true=>exact notIn_tupleAt _ hi (λy hy=>w27.2 y (RI.mpr hy)) ⟨J,x,by rw[e3];exact w29.2⟩
inductive AC(s:Mn)(a D:Ml)(name:Np)(f:Nat):Prop
 |mk (K:PQ) (ox:P9) (od:Option P9):K.In s.heap->Uz s.heap a ox D od->Ov K (.ref D) name=Md (Md (.ref f))->isFn K (.ref f)=Mj->(cP K f).isSome=Mj->noSeq K D=Mj->AC s a D name f
theorem jq(B:aN Z Kg)(hb:WJ Z Φ)(x:St Z Φ J L ρ s){c f:Nat}(hc:J a=Md (.Wv D fs))(hf:mt D c=Md f)(name:Np)(he:enc name=c)(h0:c≠0):AC s a D name f:=by have x':=x;obtain⟨g,m,I,_⟩:=x;obtain⟨d,mm,es,nn,r1,r2,r3,r4,r5,r6⟩:=hG (I.3 a _ hc).2;obtain⟨K,hK,F⟩:=(B.3 D (jo hf)).Ym;subst he;obtain w26:=F.10 name f h0 hf;exact⟨K,_,_,λa o e=>x'.here hb a o (hK a o e),r5,w26.1,w26.2.1,w26.2.2,F.6⟩
theorem uQ(x:St Z Φ J L ρ s)(hc:J a=Md (.Wv D fs)):bM λox od=>Uz s.heap a ox D od:=by obtain⟨g,m,I,_⟩:=x;obtain⟨d,mm,es,nn,r1,r2,r3,r4,r5,r6⟩:=hG (I.3 a _ hc).2;exact⟨_,_,r5⟩
theorem D4{x C f:Ml}(X:K.In s.heap)(I:Uz s.heap x ox C od)(hs:Ov K (.ref C) "__len__"=Md (Md (.ref f)))(hf:isFn K (.ref f)=Mj)(h:Wc.Wj (Mk Z.prog Z.w) A.in1 (OH (.ref f) [.ref x]) (λr s'=>bM λi t=>r=.int i t/\0<=i/\i<2^63/\Q' (.int i s'.toks) {s' with toks:=s'.toks+1}) E s):Wc.Wj (Mk Z.prog Z.w) A (OH (.builtin "len") [.ref x]) Q' E s:=by refine Wc.XQ (by kernel_rfl) plain_len (by decide +kernel) entry_len ?_;unfold Builtin.«len»;refine Wc.Wi (m:=oneArg "len" _) (Wc.wpAny_pure ?_);refine Wc.Wi (m:=Sj (.ref x) (OX "__len__")) (Wc.YE X I hs (beq_iff_eq.mp hf) (Wc.Wn h (λr s' hr=>?_) λa a y=>y));refine bI hr λi t w25=>?_;rw[w25.1];refine Wc.Wi (Wc.Wo (Wc.wpAny_pure ?_));refine Wc.Wi (Wc.of (UE ?_));show Wc.Wj _ _ (if i<0 then _ else _) _ _ _;rw[if_neg (by exact af 0x42000138101704e0d [_] [] w25.2.1)];show Wc.Wj _ _ (if i≥2^63 then _ else _) _ _ _;rw[if_neg (by exact af 0x2100009e4421d304611 [_,_] [] w25.2.2.1)];exact Wc.Wi (Wc.of (UD (Wc.wpAny_pure ⟨_,rfl,w25.2.2.2⟩)))
theorem CD(B:aN Z Kg)(hb:WJ Z Φ)(hr:cS n A Φ L)(x:St Z Φ J L ρ s){a:Me}(h:exec Z n (.len k) (er a::st) ρ J Q):Wc.Wj (Mk Z.prog Z.w) A (OH (.builtin "len") [a]) (PK Z Φ L ρ n k st Q) E s:=by
 have h':gR Z n J (λv J'=>exec Z n k (v::st) ρ J' Q) (er a):=h;clear h;generalize ha:er a=a' at h';induction h' with
 |bytes h1 h2=>refine Xh ha λt1=>?_;exact Wc.of (len_bytes (c6 h1 rfl) ⟨J,x.tk _,h2⟩)
 |list hx h1 h2=>have:=aq ha;subst this;obtain⟨zs,m1,z1,z2,l1⟩:=aw x hx;exact Wc.of (call_len_list ⟨_,z1,rfl,m1,rfl⟩ (aS KO [_] [_,_] h1 l1 d5) ⟨J,x.tk _,by rw[l1];exact h2⟩)
 |tup hx h1 h2=>have:=aq ha;subst this;obtain⟨zs,m1,z1,z2,l1⟩:=bD x hx;exact Wc.of (len_tuple ⟨_,z1,rfl,m1,rfl⟩ (aS KO [_] [_,_] h1 l1 d5) ⟨J,x.tk _,by rw[l1];exact h2⟩)
 |WK hx h1 h2=>have:=aq ha;subst this;exact Wc.of (BA.aaD (cy x hx) (by simpa using h1) λt k=>⟨J,x.tk _,by rw[Oj];exact h2⟩)
 |@dict p m hx h1 h2=>
  have:=aq ha;subst this;refine ae (de x hx) λkvs w23=>?_;have l1:kvs.length=m.length:=by rw[<-w23.2,Mu]
  exact Wc.of (call_len_dict (x.sysm B hb hx) (w23.1.at Z.prog Z.w).dictOf (aS KO [_] [_,_] h1 l1 d5) ⟨J,x.tk _,by rw[l1];exact h2⟩)
 |@Wv p D fs f hx hf h=>rw[aq ha];obtain⟨K,ox,od,X,I,f1,f2,f3,_⟩:=jq B hb x hx hf "__len__" (by decide) (by decide);refine D4 X I f1 f2 (Wc.Wn (gX (vals:=[.ref p]) hb (hr.Xn (Og ..) (Qs (by decide) _)) x h) (λr s' h'=>?_) λb b z=>z);refine ae h' λJ' w21=>?_;refine ae w21.2 λi w22=>?_;have h2:=w22.2.2.2;refine WN w22.1 λt=>?_;exact⟨i,t,rfl,w22.2.1,w22.2.2.1,J',w21.1.tk _,by rw[w22.1] at h2;exact h2⟩
theorem AZ{x C f:Ml}{i:Me}(X:K.In s.heap)(I:Uz s.heap x ox C od)(hs:Ov K (.ref C) "__getitem__"=Md (Md (.ref f)))(hf:(cP K f).isSome=Mj)(hfn:isFn K (.ref f)=Mj)(h:Wc.Wj (Mk Z.prog Z.w) A.in1 (OH (.ref f) [.ref x,i]) Q' E s)(hsl:dA slice=Mh):Wc.Wj (Mk Z.prog Z.w) A (Tp value slice (.ref x) i) Q' E s:=by
 have hsl:subscripted slice Mj (.ref x) i=runValue (.builtin "lifetime.subscript" ⟨[.ref x,i],[]⟩):=by cases slice<;>first|rfl|cases hsl
 refine ae (NT.mp hf) λfd e=>?_;refine ae (Mz.mp e) λo z=>?_;have e:=z.1;have hz:=oU z.2;obtain⟨c,d,dt,sl⟩:=o;obtain rfl:dt=.func fd:=hz;refine Wc.Wi (Wc.Wi (Wc.Wi (Wc.of (I.type.here (Wc.of ((PH X hs).here ?_))))));dsimp only;refine Wc.Wi (Wc.of (QG (X _ _ e) (Wc.wpAny_pure ?_)));dsimp only;rw[hsl];refine Wc.Wi (Wc.XX (Wc.Xp entry_sub (by decide +kernel) ?_));unfold Builtin.«lifetime.subscript»;refine Wc.Wi (Wc.YE X I hs (beq_iff_eq.mp hfn) (Wc.Wn h (λv s' z=>?_) λa a z=>z));refine Wc.wpAny_pure ?_;show Wc.Wj (Mk Z.prog Z.w) A (Ss value (.ref x) v>>=λa=>NO v) Q' E s';exact Wc.Wi (Wc.of (wpAny_letTemporaryGo (Wc.wpAny_pure z)))
theorem A6{x C f:Ml}{i:Me}{Q':Unit->Mn->Prop}(X:K.In s.heap)(I:Uz s.heap x ox C od)(hq:noSeq K C=Mj)(hs:Ov K (.ref C) "__setitem__"=Md (Md (.ref f)))(hf:isFn K (.ref f)=Mj)(h:Wc.Wj (Mk Z.prog Z.w) A (OH (.ref f) [.ref x,i,v]) (λa s'=>Q' () s') E s):Wc.Wj (Mk Z.prog Z.w) A (UR (.ref x) i v) Q' E s:=by delta UR sequenceKey;refine Wc.Wo (Wc.Wi (Wc.Wi (Wc.of (I.type.here ?_))));refine Wc.Wi (Wc.of ((anyM_none X hq).here ?_));rw[if_pos (show(!Mh)=Mj from rfl)];exact Wc.wpAny_pure (Wc.Wi (Wc.YE X I hs (beq_iff_eq.mp hf) (Wc.Wn h (λa a z=>Wc.wpAny_pure z) λa a z=>z)))
theorem jX{i:Me}(h:dA slice=Mh):subscripted slice Mh o i=operate [o,i] (getItem o i):=by cases slice<;>first|rfl|cases h
theorem pY(z:zs.toList.map er=xs)(h:xs[i]?=Md v):∃w,zs[i]?=Md w/\er w=v:=by rw[<-z,MM,Om] at h;refine ae (MQ.mp h) λv w19=>?_;obtain⟨a,b⟩:=w19;exact⟨v,a,b⟩
theorem BY(B:aN Z Kg)(hb:WJ Z Φ)(hr:cS n A Φ L)(x:St Z Φ J L ρ s)(hs:dA slice=Mh){i:Me}(h:exec Z n (.idx k) (er i::er o::st) ρ J Q):Wc.Wj (Mk Z.prog Z.w) A (Tp value slice o i) (PK Z Φ L ρ n k st Q) E s:=by
 have h':fy Z n J (λv J'=>exec Z n k (v::st) ρ J' Q) (er o) (er i):=h;clear h;generalize ho:er o=o' at h';generalize hi:er i=i' at h';induction h' with
 |@bytes b t u j y hz h0 h1 hy h2=>
  refine Xh ho λt1=>?_;refine WN hi λu1=>?_;obtain⟨l⟩:=b;have hlt:j.toNat<l.length:=by have:=(O4.mp hy).1;simpa using this
  have hg:l.getD j.toNat 0=y:=by
   have:l[j.toNat]?=Md y:=by simpa using hy
   rw[Mx,this];rfl
  refine Wc.of (TQ (SY s _ t1) FB.slot_bytes_getitem.lookup (getItem_bytes (by simpa using(Nk hz (by decide:1000000<=1099511627776))) h0 (ao Lz [_] [_,_] hlt (MF h0)) ⟨J,x.tk _,?_⟩) (jX hs));rw[hg];exact h2
 |list hx h0 h1 hv h=>have:=aq ho;subst this;refine WN hi λu1=>?_;obtain⟨zs,m1,z1,z2,l1⟩:=aw x hx;refine ae (pY z2 hv) λw w15=>?_;obtain rfl:=w15.2;exact Wc.of (TQ ⟨_,z1,rfl⟩ Te.lookup (wpAny_getItem_list ⟨_,z1,rfl,m1,rfl⟩ h0 h1 w15.1 ⟨J,x,h⟩) (jX hs))
 |neg hx h0 h1 h2 hv h=>have:=aq ho;subst this;refine WN hi λu1=>?_;obtain⟨zs,m1,z1,z2,l1⟩:=aw x hx;rw[<-l1] at h2 hv;refine ae (pY z2 hv) λw w13=>?_;obtain rfl:=w13.2;exact Wc.of (TQ ⟨_,z1,rfl⟩ Te.lookup (wpAny_getItem_list_neg ⟨_,z1,rfl,m1,rfl⟩ h0 (af 0x2100009de0b020677c4012 [_] [_] h2) h1 w13.1 ⟨J,x,h⟩) (jX hs))
 |@tup p xs v j u hx h0 h1 hv h=>
  have:=aq ho;subst this;refine WN hi λu1=>?_;obtain⟨zs,m1,z1,z2,l1⟩:=bD x hx;refine ae (pY z2 hv) λw w11=>?_;obtain rfl:=w11.2;have hlt:=(O4.mp w11.1).1;have hj:VI j zs.size=Md j.toNat:=by have hn:¬j<0:=af 0x42000138101704e0d [_] [] h0;have:j<zs.size:=ao Lz [_] [_,_] hlt (MF h0);simp[VI,hn,h0,this]
  exact Wc.of (TQ ⟨_,z1,rfl⟩ slot_tuple_getitem.lookup (PyProof.Rows.getItem_tuple ⟨_,z1,rfl,m1,rfl⟩ (sR h0 rfl) h1 hj w11.1 ⟨J,x,h⟩) (jX hs))
 |@WK p b y j u hx h0 h1 hy h=>have:=aq ho;subst this;refine WN hi λu1=>?_;have hc:=cy x hx;exact Wc.of (TQ ⟨_,hc,rfl⟩ BA.Yg.lookup (BA.aan hc h0 h1 (by simpa using hy) λt k=>⟨J,x.tk _,h⟩) (jX hs))
 |@Wv p D fs f j u hx hf h=>have:=aq ho;subst this;rw[<-hi] at h;obtain⟨K,ox,od,X,I,f1,f2,f3,_⟩:=jq B hb x hx hf "__getitem__" (by decide) (by decide);exact AZ X I f1 f3 f2 (gX (vals:=[.ref p,i]) hb (hr.Xn (Og ..) (Qs (by decide) _)) x h) hs
theorem uc(kvs:List (Int×Me))(j:Int)(v:Me):(Ub kvs j v).map (λp=>(p.1,er p.2))=(if(kvs.map λp=>(p.1,er p.2)).any (·.1==j) then(kvs.map λp=>(p.1,er p.2)).map (λp=>if p.1==j then(j,er v) else p) else(kvs.map λp=>(p.1,er p.2))++[(j,er v)]):=by
 unfold Ub;have e:(kvs.map λp=>(p.1,er p.2)).any (·.1==j)=kvs.any (λkv=>M3 (kv.1=j)):=by rw[List.any_map];congr 1
 rw[e];split
 ·rw[OY,OY];refine Qt λp a=>?_;show((if p.1=j then(p.1,v) else p).1,er (if p.1=j then(p.1,v) else p).2)=if(p.1==j)=Mj then(j,er v) else(p.1,er p.2)
  by_cases q:p.1=j;·subst q;simp
  ·simp[q]
 ·rw[Od];rfl
theorem yG(B:aN Z Kg)(hb:WJ Z Φ)(hr:cS n A Φ L)(x:St Z Φ J L ρ s){i:Me}(h:exec Z n (.XF k) (er i::er o::er v::st) ρ J Q):Wc.Wj (Mk Z.prog Z.w) A (UR o i v) (λa=>PU Z Φ L ρ λJ'=>exec Z n k st ρ J' Q) E s:=by
 have h':k8 Z n J (λJ'=>exec Z n k st ρ J' Q) (er o) (er i) (er v):=h;clear h;generalize ho:er o=o' at h';generalize hi:er i=i' at h';generalize hv:er v=v' at h';induction h' with
 |@list p xs _ j u hx h0 h1 h2 h=>subst hv;rw[aq ho];refine WN hi λu1=>?_;obtain⟨zs,m1,z1,z2,l1⟩:=aw x hx;exact Wc.of (rt z1 h0 (aS 0x847086100014c0000000000000000911287a12008264578243e6090e [_,_] [_] h1 h2 d5) (ao 0x108a10000f54150faf0488de090f [_] [_,_] h1 l1) λh' m ho hs=>⟨_,x.set (t:=s.toks) hx (λa a=>nofun) hs ho (c':=.list (xs.set j.toNat (er v))) (λg=>⟨_,_,ho,by rw[Array.toList_setIfInBounds,List.map_set,z2]⟩),h⟩)
 |@dict p m _ j u hx h0 h=>
  subst hv;rw[aq ho];refine WN hi λu1=>?_;refine ae (de x hx) λkvs w7=>?_;have l1:kvs.length=m.length:=by rw[<-w7.2,Mu]
  exact Wc.of (aav w7.1 (λh' D' hs=>⟨_,x.set (t:=s.toks+1) hx (λa a=>nofun) hs D'.choose_spec.1 (c':=.W9 (if m.any (·.1==j) then m.map (λp=>if p.1==j then(j,er v) else p) else m++[(j,er v)])) (λg=>⟨_,D',by rw[uc,w7.2]⟩),h⟩) (Nk (Ot l1) h0))
 |@Wv p D fs f _ j u hx hf h=>rw[<-hi,<-hv] at h;have:=aq ho;subst this;obtain⟨K,ox,od,X,I,f1,f2,f3,f4⟩:=jq B hb x hx hf "__setitem__" (by decide) (by decide);exact A6 X I f4 f1 f2 (Wc.Wn (gX (vals:=[.ref p,i,v]) hb hr.room x h) (λr s' h'=>h') λa a z=>z)
theorem wN(zs:Array Me)(lo hi:Option Int)(i j:Nat)(hl:lo=Md (i:Int)∨(lo=Mr/\i=0))(hj:hi=Md (j:Int)∨(hi=Mr/\j=zs.size)):slicePick zs lo hi Mr=((zs.toList.take j).drop i).toArray:=by
 rw[slicePick_plain];congr 1;have e1:lo.elim 0 (clipAt zs.size)=min i zs.size:=by
  rcases hl with rfl|⟨rfl,rfl⟩;·exact clipAt_nat _ _
  ·simp
 have e2:hi.elim zs.size (clipAt zs.size)=min j zs.size:=by
  rcases hj with rfl|⟨rfl,rfl⟩;·exact clipAt_nat _ _
  ·simp
 have hz:zs.toList.length=zs.size:=by simp
 rw[e1,e2,List.drop_take];by_cases h:i<=zs.size;·rw[Nat.min_eq_left h,List.take_eq_take_iff,Po,hz,Uo,Uo,Nat.min_assoc,Nat.min_self]
 ·have h:=Nat.le_of_not_le h;rw[Nat.min_eq_right h,QW (Ot hz),QW (by rw[hz];exact h),List.take_nil,List.take_nil]
theorem yf(h:end? (er v) d=Md i):∃lo,IsPart v lo/\(lo=Md (i:Int)∨(lo=Mr/\i=d)):=by
 induction v with
 |none=>cases h;exact⟨Mr,.none,.inr ⟨rfl,rfl⟩⟩
 |int q t=>
  have h:(if And (0<=q) (q<2^63) then Md q.toNat else Mr)=Md i:=h;split at h;·rename_i z;cases h;exact⟨Md q,.int _ _,.inl (by rw[MF z.1])⟩
  ·cases h
 |_=>cases h
theorem Aw.inv{sel:Cell->Option (List Me)}{kst:Ml->Option (List Me)}{F:Ml->List Me->Prop}(h:Aw Z J sel kst F (er v)):bM λa xs=>v=.ref a/\F a xs/\((J a).bind sel=Md xs∨kst a=Md xs):=by
 generalize hv:er v=v' at h;induction h with
 |cell h q=>exact⟨_,_,aq hv,q,.inl h⟩
 |Yl h q=>exact⟨_,_,aq hv,q,.inr h⟩
theorem jK{c:Option Cell}(h:c.bind WY=Md xs):c=Md (.list xs):=by refine ae (Mz.mp h) λc w6=>?_;obtain⟨rfl,h⟩:=w6;cases c<;>cases h;rfl
theorem zT{c:Option Cell}(h:c.bind AX=Md xs):c=Md (.list xs)∨c=Md (.tup xs):=by
 refine ae (Mz.mp h) λc w5=>?_;obtain⟨rfl,h⟩:=w5;cases c<;>cases h;·exact .inl rfl
 ·exact .inr rfl
theorem St.Yl(hb:WJ Z Φ)(x:St Z Φ J L ρ s){U:String}(h:bM λys n=>Z.base a=Md (⟨.type U,Mr,.seq ys n,#[]⟩:P9)/\ys.toList.map er=xs):nI s.heap U a xs:=by refine bI h λys m w4=>?_;exact .of ⟨ys,m,x.here hb _ _ w4.1,w4.2⟩
theorem wI(B:aN Z Kg)(hb:WJ Z Φ)(x:St Z Φ J L ρ s){l u:Option MY}{vl vu:Me}(h:exec Z n (.sli k) (er vu::er vl::er o::st) ρ J Q):My (Mk Z.prog Z.w) A (newFields "slice" [vl,vu,.none]) (λi s₂=>My (Mk Z.prog Z.w) A (Tp value (.Slice l u Mr p) o i) (PK Z Φ L ρ n k st Q) E s₂) E s:=by refine bI (Aw.inv h) λa xs z29=>?_;rw[z29.1];refine bI z29.2.1 λi j w3=>?_;have hcut:=w3.1;refine ae (Mz.mp hcut) λi' z28=>?_;have h1:=z28.1;have hcut:=z28.2;refine ae (MQ.mp hcut) λj' z27=>?_;obtain⟨h2,hcut⟩:=z27;cases hcut;obtain⟨zs,m1,z1,z2,l1⟩:nI s.heap "list" a xs:=z29.2.2.elim (λe=>aw x (jK e)) (λe=>x.Yl hb (B.6 a xs e));refine ae (yf h1) λlo z26=>?_;refine ae (yf h2) λhi z25=>?_;have hhi:=z25.2;rw[<-l1] at hhi;unfold newFields;refine Pe ?_;have x':=x.Wy {cls:=.type "slice",data:=.fields #[vl,vu,.none]} s.toks;have hl:(s.heap.push {cls:=.type "slice",data:=.fields #[vl,vu,.none]}).IsList a zs:=⟨_,ME _ z1,rfl,m1,rfl⟩;refine TQ hl.typeIs Te.lookup (wpAny_getItem_list_slice hl (Heap.IsSliceOf.new ..) z26.1 z25.1 .none (by simp) ?_ (by rw[NL];exact ur l1 w3.2.1 rfl)) rfl;rw[wN zs lo hi i j z26.2 hhi];exact⟨_,x'.Xf _ (.list ((xs.take j).drop i)) rfl (λg' h' e=>⟨_,_,e,by simp[<-z2,Tz,Rx]⟩) s.toks,w3.2.2 _ x'.YR⟩
theorem xU:Ve (.type "int")=NO (.type "type"):=by kernel_rfl
theorem zw:Ve (.type "bool")=NO (.type "type"):=by kernel_rfl
theorem mP:Ve (.type "tuple")=NO (.type "type"):=by kernel_rfl
theorem DU:QP (.type "int") (.type "int")=NO true:=by rw[NP];kernel_rfl
theorem Eo:QP (.type "int") (.type "bool")=NO false:=by rw[NP];kernel_rfl
theorem EH:QP (.type "int") (.type "tuple")=NO false:=by rw[NP];kernel_rfl
theorem Dr:QP (.type "bool") (.type "int")=NO true:=by rw[NP];kernel_rfl
theorem Et:QP (.type "tuple") (.type "tuple")=NO true:=by rw[NP];kernel_rfl
theorem EX:QP (.type "list") (.type "tuple")=NO false:=by rw[NP];kernel_rfl
theorem vY(I:Uz s.heap a ox D od)(h:Q' (.bool Mj) s):My (Mk Z.prog Z.w) A (OH (.builtin "isinstance") [.ref a,.ref D]) Q' E s:=by
 refine call_isinstance_of ?_;refine Mg (m:=Ve (.ref a)) (I.type.here ?_);show My _ _ (if(MK D==MK D)=Mj then _ else _) _ _ s;rw[if_pos (beq_self_eq_true _)];repeat (first|refine MC ?_|refine Py ?_|refine Mg ?_)
 exact h
theorem x5{m:Nat}(B:aN Z Kg)(hb:WJ Z Φ)(x:St Z Φ J L ρ s)(ha:s.heap.get? a=Md (⟨.type "list",Mr,.seq ys m,#[]⟩:P9))(hD:X9 D=Mj)(h:Q' (.bool Mh) {s with toks:=s.toks+1}):My (Mk Z.prog Z.w) A (OH (.builtin "isinstance") [.ref a,.ref D]) Q' E s:=by obtain⟨K,hK,F⟩:=(B.3 D hD).Ym;have X:K.In s.heap:=λa o e=>x.here hb a o (hK a o e);refine ae (Qx F.1) λcd z24=>?_;obtain⟨hcd,_⟩:=z24;exact ZN X ha rfl F.8 hcd h
theorem CF(B:aN Z Kg)(hb:WJ Z Φ)(x:St Z Φ J L ρ s){a t:Me}(ht:er t=tv)(h:exec Z n (.isi tv k) (er a::st) ρ J Q):My (Mk Z.prog Z.w) A (OH (.builtin "isinstance") [a,t]) (PK Z Φ L ρ n k st Q) E s:=by
 refine ae h λr z23=>?_;have hr':=z23.1;have h:=z23.2;have ok:∀tk,PK Z Φ L ρ n k st Q (.bool r) {s with toks:=tk}:=λtk=>⟨J,x.tk _,h⟩;clear h;generalize ha:er a=a' at hr';induction hr' with
 |int=>refine WN ha λu1=>?_;rw[bK ht];exact R7 (Vc s _ u1) xU DU (ok s.toks)
 |aaP=>refine WN ha λu1=>?_;rw[bK ht];exact Q4 (isinstance_false_int (by decide) zw Eo) (ok _)
 |aa5=>refine WN ha λu1=>?_;rw[bK ht];exact Q4 (isinstance_false_int (by decide) mP EH) (ok _)
 |abl=>rw[lu ha,bK ht];exact R7 (Tx:="bool") rfl xU Dr (ok s.toks)
 |tup hx=>obtain⟨zs,m1,z1,z2,_⟩:=bD x hx;rw[aq ha,bK ht];exact R7 (Tx:="tuple") ⟨_,z1,rfl⟩ mP Et (ok s.toks)
 |list hx=>obtain⟨zs,m1,z1,z2,_⟩:=aw x hx;rw[aq ha,bK ht];exact Q4 (isinstance_false_list (by decide) mP EX) ⟨⟨_,z1,rfl⟩,ok _⟩
 |Wv hx=>refine bI (uQ x hx) λox od I=>?_;rw[aq ha,aq ht];exact vY I (ok s.toks)
 |aba hx hk=>obtain⟨zs,m1,z1,z2,_⟩:=aw x hx;rw[aq ha,aq ht];exact x5 B hb x z1 hk (ok _)
theorem CC(hh:A.handled=Mr)(x:St Z Φ J L ρ s){a b:Me}(h:exec Z n (.YT k) (er b::er a::st) ρ J Q):My (Mk Z.prog Z.w) A (OH (.builtin "min") [a,b]) (PK Z Φ L ρ n k st Q) E s:=by
 refine vr (ints.inv h) λa t b u z19=>?_;rw[z19.1];rw[z19.2.1];have h1:=z19.2.2;refine min_two_ints hh λh' tk hk=>⟨J,x.keeps hk,?_⟩;by_cases q:b<a;·rw[if_pos q] at h1 ⊢;exact h1
 ·rw[if_neg q] at h1 ⊢;exact h1
theorem rP:∀{ys:List Me}{ns:List Int},ys.map er=ns.map (λi=>OD i 0)->IntsAre ys ns
 |[],[],_=>.nil
 |[],_::_,h=>(List.cons_ne_nil _ _ h.symm).elim
 |_::_,[],h=>(List.cons_ne_nil _ _ h).elim
 |y::ys,n::ns,h=>WN (TG h) λu=>.cons _ _ (rP (List.tail_eq_of_cons_eq h))
theorem Gh{ys:List Me}(h:YS (ys.map er) b):∃ns,IntsAre ys ns/\(∀n∈ns,0<=n/\n<256)/\ns.map (λn=>n.toNat.toUInt8)=b:=
 ae h λns z=>⟨ns,rP z.1,z.2⟩
theorem xm(hh:A.handled=Mr)(x:St Z Φ J L ρ s){a:Me}(h:exec Z n (.Xb k) (er a::st) ρ J Q):My (Mk Z.prog Z.w) A (OH (.type "bytes") [a]) (PK Z Φ L ρ n k st Q) E s:=by
 have h':vD J (λr J'=>exec Z n k (r::st) ρ J' Q) (er a):=h;clear h;generalize ha:er a=a' at h';induction h' with
 |bytes h=>refine Xh ha λu1=>?_;exact BA.Zx λt k=>⟨J,x.tk _,h⟩
 |WK hx hl h=>have:=aq ha;subst this;exact BA.ZD (cy x hx) (by simpa using Nk hl (by decide:100000<=1000000)) λt k=>⟨J,x.tk _,h⟩
 |@list p xs b hx hb hl h=>
  have:=aq ha;subst this;obtain⟨zs,m1,z1,z2,_⟩:=aw x hx;rw[<-z2] at hb;refine ae (Gh hb) λns z13=>?_;have hl:b.length=ns.length:=by rw[<-z13.2.2,Mu]
  have hz:zs.toList.length=ns.length:=z13.1.length;refine call_bytes_ints (vs:=zs.toList) (ns:=ns) ⟨_,z1,rfl,m1,by simp⟩ z13.1 (λn hn=>(z13.2.1 n hn).and) (by rw[NL];lia) hh λh' t k hk=>⟨J,x.keeps hk,?_⟩;show exec Z n _ (.bytes (byteArr ns) 0::st) ρ J Q;unfold byteArr;rw[z13.2.2];exact h
theorem ye(x:St Z Φ J L ρ s)(h:exec Z n (.YC k) st ρ J Q):Wc.Wj (Mk Z.prog Z.w) A (OH (.type "bytearray") []) (PK Z Φ L ρ n k st Q) E s:=
 BA.aak λh' hB hk=>⟨_,x.aaj hk hB (.WK []) (λg=>hB) s.toks,h _ x.YR⟩
theorem xc(B:aN Z Kg)(hb:WJ Z Φ)(hh:A.handled=Mr)(x:St Z Φ J L ρ s){a:Me}(h:exec Z n (.Yj k) (er a::st) ρ J Q):My (Mk Z.prog Z.w) A (OH (.type "list") [a]) (PK Z Φ L ρ n k st Q) E s:=by
 refine bI (Aw.inv h) λp xs z12=>?_;rw[z12.1];have hsel:=z12.2.2;obtain⟨U,hU,zs,m1,z1,z2,l1⟩:∃U,(U="list"∨U="tuple")/\nI s.heap U p xs:=by
  rcases hsel with e|e;·exact(zT e).elim (λe=>⟨_,.inl rfl,aw x e⟩) (λe=>⟨_,.inr rfl,bD x e⟩)
  ·exact⟨_,.inr rfl,x.Yl hb (B.7 p xs e)⟩
 exact call_list_seq (hsz:=by rw[NL];exact ur l1 z12.2.1.1 rfl) p hU z1 rfl rfl λh' c' hk hD=>⟨_,x.aaj hk hD (.list xs) (λg=>⟨_,_,hD,z2⟩) s.toks,z12.2.1.2 _ x.YR⟩
theorem mG{t:Np}(hn:enc name≠0)(e:enc name=enc t):name=t:=(li hn e.symm).symm
set_option maxRecDepth 20000 in
theorem DZ(x:St Z Φ J L ρ s)(hn:enc name≠0)(h:exec Z n (.bm (enc name) k) (er o::st) ρ J Q):My (Mk Z.prog Z.w) A (Rk o name pl) (λp s'=>∃id,p=(.builtin id,[o])/\PU Z Φ L ρ (λJ'=>exec Z n k (.builtin id::er o::st) ρ J' Q) s') E s:=by
 refine ae h λid z11=>?_;have hid:=z11.1;have h:=z11.2;have fin:∃id',(Value.builtin id,[o])=(.builtin id',[o])/\PU Z Φ L ρ (λJ'=>exec Z n k (.builtin id'::er o::st) ρ J' Q) s:=⟨id,rfl,J,x,h⟩;clear h;generalize ho:er o=o' at hid;generalize hc:enc name=c at hid;induction hid with
 |Y5 hx=>have en:=mG (t:="append") hn (hc.trans (by decide +kernel));subst en;have:=aq ho;subst this;obtain⟨zs,m1,z1,z2,_⟩:=aw x hx;exact QX (T:="list") ⟨_,z1,rfl⟩ F.plainAttrs_list TR type_list_append (λa e=>by cases e;exact⟨_,z1,rfl⟩) fin
 |bapp hx=>have en:=mG (t:="append") hn (hc.trans (by decide +kernel));subst en;have:=aq ho;subst this;have hc:=cy x hx;exact QX (T:="bytearray") ⟨_,hc,rfl⟩ BA.Zp BA.Yn BA.ZX (λa e=>by cases e;exact⟨_,hc,rfl⟩) fin
 |Y9 hx=>have en:=mG (t:="extend") hn (hc.trans (by decide +kernel));subst en;have:=aq ho;subst this;have hc:=cy x hx;exact QX (T:="bytearray") ⟨_,hc,rfl⟩ BA.Zp BA.Yt BA.ZW (λa e=>by cases e;exact⟨_,hc,rfl⟩) fin
 |Za hx=>rw[mG (t:="get") hn (hc.trans (by decide +kernel))];have:=aq ho;subst this;refine ae (de x hx) λkvs z9=>?_;refine ae z9.1 λes z10=>?_;exact QX (T:="dict") ⟨_,z10.1,rfl⟩ F.plainAttrs_dict F.slot_dict_get F.type_dict_get (λa e=>by cases e;exact⟨_,z10.1,rfl⟩) fin
 |@Y6 i=>rw[mG (t:=OX "bit_length") hn (hc.trans (by decide +kernel))];refine ae (mD ho) λu1 z8=>?_;obtain rfl:=z8;cases ho;exact BA.ZY (i:=i) (u:=u1) (pl:=pl) (s:=s) (A:=A) (E:=E) (M:=Mk Z.prog Z.w) fin
theorem YY(h:vs.map er=[v]):∃v',vs=[v']/\er v'=v:=by refine ae (UH.mp h) λa z6=>?_;refine ae z6 λl z7=>?_;obtain⟨rfl,h1,h2⟩:=z7;rw[UZ] at h2;exact⟨a,by rw[h2],h1⟩
theorem aaY(h:vs.map er=[v,u]):bM λv' u'=>vs=[v',u']/\er v'=v/\er u'=u:=by refine ae (UH.mp h) λa z4=>?_;refine ae z4 λl z5=>?_;obtain⟨rfl,h1,h2⟩:=z5;refine ae (YY h2) λb z3=>?_;rw[z3.1];exact⟨a,b,rfl,h1,z3.2⟩
theorem Es(B:aN Z Kg)(hb:WJ Z Φ)(x:St Z Φ J L ρ s){m:Nat}(hm:vs.length=m)(h:exec Z n (.cb m k) ((vs.map er).reverse++.builtin id::er o::st) ρ J Q):Wc.Wj (Mk Z.prog Z.w) A (OH (.builtin id) (o::vs)) (PK Z Φ L ρ n k st Q) E s:=by
 obtain⟨us,id',o',st',ht,h'⟩:yt λus id' o' st'=>take? m ((vs.map er).reverse++.builtin id::er o::st)=Md (us,.builtin id'::o'::st')/\rR J (λv J'=>exec Z n k (v::st') ρ J' Q) id' o' us:=h;rw[eU (by rw[Mu];exact hm)] at ht;injection ht with ht;injection ht with e1 e2;injection e2 with e2 e3;injection e3 with e3 e4;injection e2 with e2;subst e2 e4;clear hm;induction h' with
 |@Y5 p xs v hx hz h=>rw[aq e3];obtain⟨v',rfl,rfl⟩:=YY e1;obtain⟨zs,m1,z1,z2,l1⟩:=aw x hx;refine Wc.of (Vd TR ⟨_,z1,rfl⟩ entry_list_append (args_list_append _ _) (QY p zs m1 v' (by rw[NL];exact ur l1 hz rfl)) ⟨z1,?_⟩);exact⟨_,x.set (t:=s.toks) hx (λa a=>nofun) (OE ..) (Ng _ z1 rfl) (c':=.list (xs++[er v'])) (λg=>⟨_,_,Ng _ z1 rfl,by simp[z2]⟩),h⟩
 |@bapp p b i t hx h0 h1 hz h=>rw[aq e3];obtain⟨v',rfl,e3⟩:=YY e1;obtain⟨u,rfl⟩:=mD e3;refine BA.ZQ (cy x hx) h0 h1 (by simp;exact kI hz rfl) λh' hB hs=>⟨_,x.set (t:=s.toks) hx (λa a=>nofun) hs hB (c':=.WK (b++[PB i.toNat])) (λg=>?_),h⟩;show h'.get? p=_;rw[hB];simp
 |@Y9 p b y t hx hz h=>rw[aq e3];obtain⟨v',rfl,e3⟩:=YY e1;obtain⟨u,rfl⟩:=qe e3;refine BA.ZS (cy x hx) (by simp;exact kI hz rfl) λh' hB hs=>⟨_,x.set (t:=s.toks) hx (λa a=>nofun) hs hB (c':=.WK (b++y.toList)) (λg=>?_),h⟩;show h'.get? p=_;rw[hB];congr 3;apply Q9.mp;simp
 |@Za p mm i t d hx h=>
  rw[aq e3];obtain⟨v',d',rfl,e3,rfl⟩:=aaY e1;obtain⟨u,rfl⟩:=mD e3;refine ae (de x hx) λkvs zq112=>?_;have D:=zq112.1;have hmm:=zq112.2;have hM:=(D.at Z.prog Z.w).dictOf.mapOf;refine Wc.of (call_meetsIn F.slot_dict_get hM.typeIs F.entry_dict_get (F.args_dict_get_3 _ _ _) (meets_dict_get_default (Se Z.prog Z.w) p (Sy Z.prog Z.w i u) (x.sysm B hb hx) d') ⟨_,hM,J,x.tk _,?_⟩);have e:er ((valueAt kvs i).getD d')=((mm.find? (·.1==i)).map (·.2)).getD (er d'):=by
   rw[<-hmm,List.find?_map];unfold valueAt;have e:((λp:Int×Me=>p.1==i) ∘ λp:Int×Me=>(p.1,er p.2))=λkv:Int×Me=>M3 (kv.1=i):=by funext p;show(p.1==i)=_;rw[fe]
   rw[e];cases kvs.find? (λkv=>M3 (kv.1=i))<;>rfl
  rw[e];exact h
 |@Y6 i t h0 h=>
  obtain⟨u1,rfl⟩:=mD e3;have e3:=UZ.mp e1;subst e3;refine Wc.of (call_int_bit_length ⟨J,x.tk _,?_⟩);have e:(OU i:Int)=((i.toNat.log2:Nat)+1:Int):=by unfold OU;rw[if_neg (by simp;exact λzz=>fb 0x422840003d0242e0a0a [_] [] zz h0),show i.natAbs=i.toNat by lia];rfl
  show exec Z n k (.int (OU i) 0::st) ρ J Q;rw[e];exact h
end
end
noncomputable def fL:MY->Bool
 |.Name ..=>Mj
 |.Attribute ..=>Mj
 |.Subscript ..=>Mj
 |_=>Mh
variable{o:MY}
theorem km(h:fL o=Mj):attributeBase o name env whole=whole:=by cases o<;>first|rfl|cases h
structure Cn(X:CX) where
 Z:Sys
 Φ:bv
 L:Ml
 A:O9
 n:Nat
 env:VD
 B:aN Z X.K
 hb:WJ Z Φ
 hE:kH env X.scope L
 hr:cS n A Φ L
 cell:ss Z X.scope env
inductive ax(X:CX)(x:Np)(v:Me):Prop
 |main {u:Me}:X.scope.names.lookup x=Md .globalImplicit->nsIn X.K Nz x=Md (Md u)->er u=v->ax X x v
 |top {u:Me}:X.scope.names.lookup x=Md .globalImplicit->nsIn X.K Nz x=Md Mr->x≠"__name__"->Sk x=Md u->er u=v->ax X x v
abbrev dn(x:Np):Prop:=(x==("__debug__":Np))=Mh
theorem tW{X:CX}(B:aN Z X.K)(hE:kH env X.scope L)(here:∀a o,Z.base a=Md o->s.heap.get? a=Md o)(hx:ax X x v/\dn x)(q:∀u,er u=v->Q' u s):My (Mk Z.prog Z.w) A (NW (.Name x p) env) Q' E s:=by
 refine bI B.2 λmg mb z4=>?_;obtain z3:=z4.1 s.heap here;have XI:X.K.In s.heap:=λa o e=>here a o (B.1 a o e);have hx:=hx.1;have hf:env.scope.kind=.function:=by rw[hE.1];exact hE.2
 have hk:env.kindOf x=X.scope.names.lookup x:=by unfold SH;rw[hE.1]
 induction hx with
 |main h h1 h2=>exact Name_function_global hf (hk.trans h) (loadGlobal_global (by rw[hE.4];exact z3.1) (mg_of XI z3.1 h1) (q _ h2)) hx.2
 |top h h1 h2 h3 h4=>exact Name_function_global hf (hk.trans h) (loadGlobal_builtin (by rw[hE.4];exact z3.1) (mg_none_of XI z3.1 h1) (by rw[hE.5];exact z3.2.1) ((z4.2 x h2).trans h3) (q _ h4)) hx.2
noncomputable def gl(X:CX)(x:Np):Option {v:Me // ax X x v/\dn x}:=
 if hd:dn x then if h:X.scope.names.lookup x=Md .globalImplicit then match h1:nsIn X.K Nz x with
  |some (Md u)=>Md ⟨er u,.main h h1 rfl,hd⟩
  |some Mr=>if h2:x="__name__" then Mr else match h3:Sk x with
   |some u=>Md ⟨er u,.top h h1 h2 h3 rfl,hd⟩
   |none=>Mr
  |none=>Mr
 else Mr else Mr
variable{t:RW Me}
namespace Cn
variable{X:CX}(W:Cn X)
noncomputable abbrev wp{α:Type}(t:RW α)(Q:α->Mn->Prop)(s:Mn):Prop:=Wc.Wj (Mk W.Z.prog W.Z.w) W.A t Q Wc.N0 s
noncomputable abbrev St(J:Sg)(ρ:Loc)(s:Mn):Prop:=Internal.St W.Z W.Φ J W.L ρ s
noncomputable abbrev ex(c:T)(st:List Me)(ρ:Loc)(J:Sg)(Q:Out->Sg->Prop):Prop:=exec W.Z W.n c st ρ J Q
noncomputable abbrev PK(ρ:Loc)(k:T)(st:List Me)(Q:Out->Sg->Prop):Me->Mn->Prop:=Internal.PK W.Z W.Φ W.L ρ W.n k st Q
noncomputable abbrev PY(ρ:Loc)(Q:Out->Sg->Prop):Me->Mn->Prop:=PV W.Z W.Φ W.L ρ λv J'=>Q (.val v ρ) J'
inductive PL(ρ:Loc)(m:Nat)(k:T)(st:List Me)(Q:Out->Sg->Prop)(vs:List Me)(s:Mn):Prop
 |mk (J:Sg):vs.length=m->W.St J ρ s->W.ex k ((vs.map er).reverse++st) ρ J Q->PL ρ m k st Q vs s
inductive PT(ρ:Loc)(kt kf:T)(st:List Me)(Q:Out->Sg->Prop):Bool->Mn->Prop
 |t{s:Mn}(J:Sg):W.St J ρ s->W.ex kt st ρ J Q->PT ρ kt kf st Q Mj s
 |f{s:Mn}(J:Sg):W.St J ρ s->W.ex kf st ρ J Q->PT ρ kt kf st Q Mh s
variable{W}{k kt kf:T}{st:List Me}
theorem step(h:W.wp t (W.PK ρ k st Q) s)(q:∀v J' s',W.St J' ρ s'->W.ex k (er v::st) ρ J' Q->Q' v s'):W.wp t Q' s:=
 Wc.Wn h (λv s' ⟨J',x,e⟩=>q v J' s' x e) λa a z=>z
theorem abe(h:W.wp t (W.PK ρ .yld st Q) s)(q:∀v s',W.PY ρ Q v s'->Q' v s'):W.wp t Q' s:=
 Wc.Wn h (λv s' ⟨J',x,e⟩=>q v s' ⟨J',x,e⟩) λa a z=>z
theorem Zo{m:Nat}{t:RW (List Me)}{Q':List Me->Mn->Prop}(h:W.wp t (W.PL ρ m k st Q) s)(q:∀vs J' s',vs.length=m->W.St J' ρ s'->W.ex k ((vs.map er).reverse++st) ρ J' Q->Q' vs s'):W.wp t Q' s:=
 Wc.Wn h (λv s' ⟨J',l,x,e⟩=>q v J' s' l x e) λa a z=>z
theorem XA{t:RW Bool}{Q':Bool->Mn->Prop}(h:W.wp t (W.PT ρ kt kf st Q) s)(q1:∀J' s',W.St J' ρ s'->W.ex kt st ρ J' Q->Q' Mj s')(q2:∀J' s',W.St J' ρ s'->W.ex kf st ρ J' Q->Q' Mh s'):W.wp t Q' s:=
 Wc.Wn h (λb s' h=>by cases h with|t J' x e=>exact q1 J' s' x e|f J' x e=>exact q2 J' s' x e) λa a z=>z
theorem aac{t:RW α}{Q':α->Mn->Prop}{C:Sg->Prop}(h:W.wp t (λa=>PU W.Z W.Φ W.L ρ C) s)(q:∀v J' s',W.St J' ρ s'->C J'->Q' v s'):W.wp t Q' s:=
 Wc.Wn h (λv s' ⟨J',x,e⟩=>q v J' s' x e) λa a z=>z
theorem test(x:W.St J ρ s)(e:W.ex (.ite kt kf) (er v::st) ρ J Q):W.wp (truthy v) (W.PT ρ kt kf st Q) s:=by
 refine ae (dT.inv e) λc z2=>?_;rw[z2.1];refine Wc.of (wpAny_truthy_bool ?_);cases c;·exact .f J x (z2.2.2 rfl)
 ·exact .t J x (z2.2.1 rfl)
theorem kind(x:Np):W.env.kindOf x=X.scope.names.lookup x:=by unfold SH;rw[W.hE.1]
theorem aa4:W.env.scope.kind=.function:=by rw[W.hE.1];exact W.hE.2
theorem ld(S:W.St J ρ s)(h:X.scope.names.lookup x=Md .local)(hl:gf ρ (enc x)=Md v)(q:∀u,er u=v->Q' u s):My (Mk W.Z.prog W.Z.w) W.A (loadName W.env x) Q' Wc.N0 s:=by obtain⟨g,m,I,hL,hns,hm,_⟩:=S;refine ae (hm.get hl) λu z1=>?_;exact(wpAny_loadName_local aa4 ((kind x).trans h) (by rw[W.hE.3];exact hns) z1.1 (q u z1.2))
theorem ZM(S:W.St J ρ s)(h:ax X x v/\dn x)(q:∀u s',er u=v->W.St J ρ s'->Q' u s'):W.wp (NW (.Name x p) W.env) Q' s:=
 Wc.of (tW W.B W.hE (S.here W.hb) h λu hu=>q u _ hu S)
end Cn
def aP(X:CX)(e:MY)(k c:T):Prop:=∀(W:Cn X)(ρ:Loc)(J:Sg)(s:Mn)(st:List Me)(Q:Out->Sg->Prop),W.St J ρ s->W.ex c st ρ J Q->W.wp (NW e W.env) (W.PK ρ k st Q) s
def rj(X:CX)(e:MY)(kt kf c:T):Prop:=∀(W:Cn X)(ρ:Loc)(J:Sg)(s:Mn)(st:List Me)(Q:Out->Sg->Prop),W.St J ρ s->W.ex c st ρ J Q->W.wp (QC e W.env (NW e W.env)) (W.PT ρ kt kf st Q) s
def se(X:CX)(op:Ux)(es:List MY)(kt kf c:T):Prop:=∀(W:Cn X)(ρ:Loc)(J:Sg)(s:Mn)(st:List Me)(Q:Out->Sg->Prop),W.St J ρ s->W.ex c st ρ J Q->W.wp (VZ op es W.env) (W.PT ρ kt kf st Q) s
def Cc(X:CX)(op:Ux)(es:List MY)(c:T):Prop:=∀(W:Cn X)(ρ:Loc)(J:Sg)(s:Mn)(Q:Out->Sg->Prop)(pos:Qw),W.St J ρ s->W.ex c [] ρ J Q->W.wp (boolOp pos op (evalEach es W.env)) (W.PY ρ Q) s
def yw(X:CX)(l:MY)(op:U8)(r:MY)(k c:T):Prop:=OA op r=Mh/\∀(W:Cn X)(ρ:Loc)(J:Sg)(s:Mn)(st:List Me)(Q:Out->Sg->Prop),W.St J ρ s->W.ex c st ρ J Q->
 W.wp (NW l W.env) (λa=>W.wp (NW r W.env) λb=>W.wp (Qk op a b) (W.PK ρ k st Q)) s
def dF(X:CX)(es:List MY)(k c:T):Prop:=es.any Xl=Mh/\∀(W:Cn X)(ρ:Loc)(J:Sg)(s:Mn)(st:List Me)(Q:Out->Sg->Prop)(pos:Qw),W.St J ρ s->W.ex c st ρ J Q->
 W.wp (QA (Rb pos (OM es W.env))) (W.PL ρ es.length k st Q) s
def EU(X:CX)(e:Option MY)(k c:T):Prop:=∀(W:Cn X)(ρ:Loc)(J:Sg)(s:Mn)(st:List Me)(Q:Out->Sg->Prop),W.St J ρ s->W.ex c st ρ J Q->W.wp (valueOrNone (evalOpt e W.env)) (W.PK ρ k st Q) s
def wt(X:CX)(ops:List U8)(rs:List MY)(kt kf c:T):Prop:=∀(W:Cn X)(ρ:Loc)(J:Sg)(s:Mn)(st:List Me)(Q:Out->Sg->Prop)(pos:Qw)(left:Me),W.St J ρ s->W.ex c (er left::st) ρ J Q->
 W.wp (testChain pos left ops (markedEach ops rs (evalEach rs W.env))) (W.PT ρ kt kf st Q) s
theorem jH{M:O7}(hs:fL value=Mj)(h:Wc.Wj (Mk prog M) A (NW value env) (λo s₁=>Wc.Wj (Mk prog M) A (Si o attr Mj) Q' E s₁) E s):Wc.Wj (Mk prog M) A (NW (.Attribute value attr pos) env) Q' E s:=by
 have he:NW (.Attribute value attr pos) env=(do
   let o <-NW value env
   OW pos.atName
   let r <-Pn [o] (Si o attr Mj)
   Ss value o r
   NO r):=by
  show(do
   let o <-attributeBase value attr env (NW value env)
   OW pos.atName
   let r <-Pn [o] (Si o attr Mj)
   Ss value o r
   NO r)=_
  rw[km hs]
 exact Wc.Zu h he
variable{l y r:MY}{g:Np}{vs es rs:List MY}{C:Ml}{kd:Nat}{ops:List U8}{apos yp:Qw}
namespace Wc
theorem bT(h:Xl e=Mh):OM (e::es) env=(Mh,NW e env)::OM es env:=by cases e<;>first|rfl|cases h
theorem gq(h:es.any Xl=Mh):(Rb pos (OM es env)).any (·.1)=false:=by
 induction es with
 |nil=>rfl
 |cons e r ih=>rw[PX,Qb] at h;rw[bT h.1];exact(Bool.false_or _).trans (ih h.2)
section
variable{X:CX}{k kt kf c c1 c2:T}
theorem BE:aP X (.Constant .none kd p) k (.cst .none k):=λa a J a a a x e=>of (wpAny_Constant_none ⟨J,x,e⟩)
theorem BB{b:Bool}:aP X (.Constant (.bool b) kd p) k (.cst (.bool b) k):=λa a J a a a x e=>of (wpAny_Constant_bool ⟨J,x,e⟩)
theorem Ez{i:Int}:aP X (.Constant (.int i) kd p) k (.cst (.int i 0) k):=λa a J a a a x e=>of (SJ ⟨J,x.tk _,e⟩)
theorem Eb{i:Np}:aP X (.Constant (.str i) kd p) k (.cst (.str i 0) k):=λa a J a a a x e=>of (SK ⟨J,x.tk _,e⟩)
theorem zM{i:List UInt8}:aP X (.Constant (.bytes i) kd p) k (.cst (.bytes i.toArray 0) k):=λa a J a a a x e=>of (Constant_bytes ⟨J,x.tk _,e⟩)
theorem GW{y:Np}(h:ax X y v/\dn y):aP X (.Name y p) k (.cst v k):=λa a J a a a x e=>Cn.ZM x h λu a hu x'=>⟨J,x',by rw[hu];exact e⟩
theorem Gk{y:Np}(h:X.scope.names.lookup y=Md .local)(hd:dn y):aP X (.Name y p) k (.ld (enc y) k):=λa a J a a a x e=>by refine ae e λv z3=>?_;exact of (Vf (Cn.ld x h z3.1 λu hu=>⟨J,x,by rw[hu];exact z3.2⟩) hd)
theorem DY{y:Np}(h:X.scope.names.lookup y=Md .cell)(hd:dn y):aP X (.Name y p) k (.ldc (enc y) k):=λW b J b b b x e=>by refine ae e λv' z2=>?_;have hl:=z2.1;refine ga (W.cell y h) λa o v z1=>?_;have h5:=z1.2.2.2.2;cases hl.symm.trans h5;exact of (Vf (wpAny_loadName_cell Cn.aa4 ((Cn.kind y).trans h) z1.1 ⟨o,x.here W.hb a o z1.2.1,z1.2.2.1⟩ ⟨J,x,z2.2⟩) hd)
theorem DL{op:RG}{o:Op}(ho:op=rl o)(h1:aP X r (.bin o k) c1)(h2:aP X l c1 c):aP X (.BinOp l op r p) k c:=λW a a a a a x e=>
 ZU (Cn.step (h2 W _ _ _ _ _ x e) λa a a x e=>Cn.step (h1 W _ _ _ _ _ x e) λa a a x e=>of (Ce x ho e))
theorem Ds(h:aP X y (.neg k) c):aP X (.UnaryOp .USub y p) k c:=λW a a a a a x e=>
 YJ (Cn.step (h W _ _ _ _ _ x e) λa a a x e=>of (Cu x e))
theorem Gv{t a b:MY}(ht:rj X t c1 c2 c)(h1:aP X a .yld c1)(h2:aP X b .yld c2):aP X (.IfExp t a b p) k (.blk c k):=λW d d d d d x e=>
 ZV (Cn.XA (ht W _ _ _ [] _ x e) (λd d x e=>h1 W _ _ _ _ _ x e) λd d x e=>h2 W _ _ _ _ _ x e)
theorem yK{op:Ux}(h:Cc X op vs c):aP X (.BoolOp op vs p) k (.blk c k):=λW a a a a a x e=>by rw[arm_eval_BoolOp];exact h W _ _ _ _ _ x e
theorem Du(h:yw X l op r k c):aP X (.Compare l [op] [r] p) k c:=λW a a a a a x e=>Zs (h.2 W _ _ _ _ _ x e) h.1
theorem EV{v:MY}{a:Np}(hs:fL v=Mj)(h0:enc a≠0)(h:aP X v (.fld (enc a) k) c):aP X (.Attribute v a p) k c:=λW b b b b b x e=>
 jH hs (Cn.step (h W _ _ _ _ _ x e) λb b b x e=>of (tw W.B W.hb x h0 e))
theorem CY{v:MY}{a:Np}(hs:fL v=Mj)(h0:enc a≠0)(h:aP X v (.prop (enc a) k) c):aP X (.Attribute v a p) k c:=λW b b b b b x e=>
 jH hs (Cn.step (h W _ _ _ _ _ x e) λb b b x e=>aat W.B W.hb W.hr x h0 e)
theorem EM{v:MY}{l u:Option MY}(h1:EU X u (.sli k) c1)(h2:EU X l c1 c2)(h3:aP X v c2 c):aP X (.Subscript v (.Slice l u Mr p) pos) k c:=λW a a a a a x e=>
 Yb (Cn.step (h3 W _ _ _ _ _ x e) λa a a x e=>by
  rw[arm_eval_Slice];exact Wi (Cn.step (h2 W _ _ _ _ _ x e) λa a a x e=>Wi (Wo (Cn.step (h1 W _ _ _ _ _ x e) λa a a x e=>
   Wi (Wo (wpAny_pure (of (NN (wI W.B W.hb x e) (λa a h=>of h) λa a z=>z))))))) )
theorem Fd{v i:MY}(hs:dA i=Mh)(h1:aP X i (.idx k) c1)(h2:aP X v c1 c):aP X (.Subscript v i p) k c:=λW a a a a a x e=>
 Yb (Cn.step (h2 W _ _ _ _ _ x e) λa a a x e=>Cn.step (h1 W _ _ _ _ _ x e) λa a a x e=>BY W.B W.hb W.hr x hs e)
theorem B7(hl:es.length<=1000)(h:dF X es (.Xa es.length k) c):aP X (.List es p) k c:=λW a a a a a x e=>by rw[arm_eval_List];exact Wi (Wq (Wi (Cn.Zo (h.2 W _ _ _ _ _ _ x e) λa a a l x e=>of (yC x l hl e))))
theorem yY(hl:es.length<=1000)(h:dF X es (.Xz es.length k) c):aP X (.Tuple es kd p) k c:=λW a a a a a x e=>by rw[arm_eval_Tuple];exact Wi (Wq (Wi (Cn.Zo (h.2 W _ _ _ _ _ _ x e) λa a a l x e=>of (Cg x l hl e))))
theorem CV:aP X (.Dict [] [] p) k (.YO k):=λa a a a a a x e=>of (wpAny_Dict_empty (za x e))
theorem Dx:dF X [] k k:=⟨rfl,λa a J a a a a x e=>Xd ⟨J,rfl,x,e⟩⟩
theorem GU(hs:Xl y=Mh)(h1:dF X es k c1)(h2:aP X y c1 c):dF X (y::es) k c:=⟨by rw[PX,hs,h1.1];rfl,λW a a a a a a x e=>
 WT (Cn.step (h2 W _ _ _ _ _ x e) λa a a x e=>Cn.Zo (h1.2 W _ _ _ _ _ _ x e) λa J' a l x e=>⟨J',by rw[MW,MW,l],x,by rw[Nn,P5,NJ];exact e⟩) (bT hs)⟩
theorem G4:EU X Mr k (.cst .none k):=λa a J a a a x e=>wpAny_pure ⟨J,x,e⟩
theorem Ge(h:aP X y k c):EU X (Md y) k c:=h
theorem G2{r:MY}{neg:Bool}(ho:op=(if neg then .IsNot else .Is))(h:aP X l (.isn neg k) c):yw X l op (.Constant .none kd p) k c:=⟨rfl,λW a a a a a x e=>
 Cn.step (h W _ _ _ _ _ x e) λa a a x e=>of (wpAny_Constant_none (by rw[ho];exact of (D7 (neg:=neg) x e)))⟩
theorem Gr{neg:Bool}(hm:OA op r=Mh)(ho:op=(if neg then .NotEq else .Eq))(h1:aP X r (.eqv neg k) c1)(h2:aP X l c1 c):yw X l op r k c:=⟨hm,λW a a a a a x e=>
 Cn.step (h2 W _ _ _ _ _ x e) λa a a x e=>Cn.step (h1 W _ _ _ _ _ x e) λa a a x e=>of (by rw[ho];exact Er x (by have:=W.hr.2.1;exact af 0x7868c2000238ca07857809904e17934c9ab048826932c [] [_,_] this) e)⟩
theorem Fc{o:Cm}(hm:OA op r=Mh)(ho:op=rX o)(h1:aP X r (.cmp o k) c1)(h2:aP X l c1 c):yw X l op r k c:=⟨hm,λW a a a a a x e=>
 Cn.step (h2 W _ _ _ _ _ x e) λa a a x e=>Cn.step (h1 W _ _ _ _ _ x e) λa a a x e=>of (xK x ho e)⟩
def Zk(X:CX)(r:MY)(xs:List Me):Prop:=∀(W:Cn X)(ρ:Loc)(J:Sg)(s:Mn),W.St J ρ s->W.wp (NW r W.env) (λb s₂=>W.St J ρ s₂/\aaM s₂.heap b xs) s
theorem abo{neg:Bool}(hm:OA op r=Mh)(ho:op=(if neg then .NotIn else .In))(ht:Zk X r xs)(h:aP X l (.inn neg xs k) c):yw X l op r k c:=⟨hm,λW a a a a a x e=>
 Cn.step (h W _ _ _ _ _ x e) λa a a x e=>Wn (ht W _ _ _ x) (λ_ _ ⟨x,ht⟩=>of (by rw[ho];exact Em x ht e)) λa a z=>z⟩
theorem Fp(h:rj X y kf kt c):rj X (.UnaryOp .Not y p) kt kf c:=λW a a a a a x e=>
 Zd (Cn.XA (h W _ _ _ _ _ x e) (λJ a x e=>.f J x e) λJ a x e=>.t J x e)
theorem FY{op:Ux}(h:se X op vs kt kf c):rj X (.BoolOp op vs p) kt kf c:=λW a a a a a x e=>YM (h W _ _ _ _ _ x e)
theorem Gl(h:yw X l op r (.ite kt kf) c):rj X (.Compare l [op] [r] p) kt kf c:=λW a a a a a x e=>
 Yx (Wn (h.2 W _ _ _ _ _ x e) (λa a h=>Wn h (λa a h=>Cn.step h λa a a x e=>Cn.test x e) λa a z=>z) λa a z=>z) h.1
theorem ED(h1:wt X ops rs kt kf c1)(h2:aP X l c1 c):rj X (.Compare l ops rs p) kt kf c:=λW a a a a a x e=>by rw[arm_isTrue_Compare];exact Wi (Cn.step (h2 W _ _ _ _ _ x e) λa a a x e=>h1 W _ _ _ _ _ _ _ x e)
noncomputable def xv:MY->Bool
 |.UnaryOp ..=>Mj
 |.BoolOp ..=>Mj
 |.Compare ..=>Mj
 |.IfExp ..=>Mj
 |_=>Mh
theorem GO(ht:xv y=Mh)(h:aP X y (.ite kt kf) c):rj X y kt kf c:=λW a a a a a x e=>
 YW (Cn.step (h W _ _ _ _ _ x e) λa a a x e=>Cn.test x e) (by cases y<;>first|rfl|cases ht)
theorem Ex{op:Ux}:se X op [] kt kf (match op with|.And=>kt|.Or=>kf):=λa a J a a a x e=>by
 cases op;·exact wpAny_pure (.t J x e)
 ·exact wpAny_pure (.f J x e)
theorem D5(h1:se X .And vs kt kf c1)(h2:rj X y c1 kf c):se X .And (y::vs) kt kf c:=λW a a a a a x e=>
 Yq (Cn.XA (h2 W _ _ _ _ _ x e) (λa a x e=>h1 W _ _ _ _ _ x e) λJ a x e=>.f J x e)
theorem EJ(h1:se X .Or vs kt kf c1)(h2:rj X y kt c1 c):se X .Or (y::vs) kt kf c:=λW a a a a a x e=>
 Wi (Cn.XA (h2 W _ _ _ _ _ x e) (λJ a x e=>wpAny_pure (.t J x e)) λa a x e=>h1 W _ _ _ _ _ x e)
theorem Ek{o:Cm}(hm:OA op r=Mh)(ho:op=rX o)(h:aP X r (.cmp o (.ite kt kf)) c):wt X [op] [r] kt kf c:=λW a a a a a pos left x e=>by
 have e':markedEach [op] [r] (evalEach [r] W.env)=[NW r W.env]:=by show[markedBehindIn op r (NW r W.env)]=_;rw[QN hm]
 rw[e'];exact Wi (Wo (Cn.step (h W _ _ _ _ _ x e) λa a a x e=>Wi (Wq (Wi (bz (Cn.step (of (xK x ho e)) λa a a x e=>Wo (Cn.test x e)))))))
theorem DC{op2:U8}{r2:MY}{o:Cm}(ho:op=rX o)(h1:wt X (op2::ops) (r2::rs) kt kf c1)(h:aP X r (.XK o (.ite c1 (.pop kf))) c):wt X (op::op2::ops) (r::r2::rs) kt kf c:=λW a a a a a pos left x e=>by
 show W.wp (do
   let rv <-Pn [left] (NW r W.env)
   OW pos
   let c <-Pn [left,rv] (Qk op left rv)
   release [left,rv] [c]
   if <-Pn [c,rv] (truthy c) then testChain pos rv (op2::ops) (markedEach (op2::ops) (r2::rs) (evalEach (r2::rs) W.env)) else NO Mh) _ _
 exact Wi (Wo (Cn.step (h W _ _ _ _ _ x e) λv a a x e=>Wi (Wq (Wi (Wo (Cn.step (of (zu x ho e)) λa a a x e=>
  Wi (of (Tq (Wi (Wo (Cn.XA (Cn.test x e) (λa a x e=>h1 W _ _ _ _ _ pos v x e) λJ a x e=>wpAny_pure (.f J x e))))))))))))
theorem F6{op:Ux}(h:aP X y .yld c):Cc X op [y] c:=λW a a a a a x e=>h W _ _ _ [] _ x e
theorem F9{y2:MY}(h1:Cc X .And (y2::vs) c1)(h:aP X y (.dup (.ite (.pop c1) .yld)) c):Cc X .And (y::y2::vs) c:=λW a a a a pos x e=>
 Wi (Cn.step (h W _ _ _ [] _ x e) λa a a x e=>Wi (Wq (Wi (Wo (Cn.XA (Cn.test x e) (λa a x e=>h1 W _ _ _ _ pos x e) λJ a x e=>wpAny_pure ⟨J,x,e⟩)))))
theorem GL{y2:MY}(h1:Cc X .Or (y2::vs) c1)(h:aP X y (.dup (.ite .yld (.pop c1))) c):Cc X .Or (y::y2::vs) c:=λW a a a a pos x e=>
 Wi (Cn.step (h W _ _ _ [] _ x e) λa a a x e=>Wi (Wq (Wi (Wo (Cn.XA (Cn.test x e) (λJ a x e=>wpAny_pure ⟨J,x,e⟩) λa a x e=>h1 W _ _ _ _ pos x e)))))
end
section
variable{X:CX}{W:Cn X}{st:List Me}{k c c1 c2:T}{as:List MY}
theorem xG(x:W.St J ρ s){g:Ml}{Q':Me×List Me->Mn->Prop}(hg:mt C (enc ("__init__":Np))=Md g)(q:∀s',ZF W.Z (.ref g)->W.St J ρ s'->Q' (.ref g,[]) s'):W.wp (Rk (.ref C) "__init__" pl) Q' s:=by obtain⟨K,hK,F⟩:=(W.B.3 C (jo hg)).Ym;have XI:K.In s.heap:=λa o e=>x.here W.hb a o (hK a o e);obtain z15:=F.7 g hg;exact of (method_cls XI z15.1 (cls_value XI z15.2.1 z15.2.2 rfl (q _ ⟨K,hK,tC (F.10 _ g (by decide) hg).2.2⟩ (x.tk _))))
theorem qo{m:Nat}{vs:List Me}(l:vs.length=m)(e:exec Z n (.call m k) ((vs.map er).reverse++f::st) ρ J Q):ac Z n f (vs.map er) J λv J'=>exec Z n k (v::st) ρ J' Q:=by refine ga e λus f st' z14=>?_;have ht:=z14.1;rw[eU (by rw[Mu];exact l)] at ht;cases ht;exact z14.2
theorem uM{m:Nat}{vs:List Me}{o:Me}(l:vs.length=m)(e:exec Z n (.XM m k) ((vs.map er).reverse++f::o::st) ρ J Q):ac Z n f (o::vs.map er) J λv J'=>exec Z n k (v::st) ρ J' Q:=by refine vr e λus f o' st' z13=>?_;have ht:=z13.1;rw[eU (by rw[Mu];exact l)] at ht;cases ht;exact z13.2
theorem cN(x:W.St J ρ s)(hg:ax X g v/\dn g)(h:∀f s₁,er f=v->W.St J ρ s₁->W.wp (QU pos f [] (Rb pos (OM as W.env)) []) Q' s₁):W.wp (NW (.Call (.Name g p) as [] pos) W.env) Q' s:=
 YN (Cn.ZM x hg h)
theorem b9{k':T}(x:W.St J ρ s)(h1:dF X as k' c)(e:W.ex c st ρ J Q)(hf:(∀a,f≠.ref a)∨ZF W.Z f)(h:∀vs J' s',vs.length=as.length->W.St J' ρ s'->W.ex k' ((vs.map er).reverse++st) ρ J' Q->W.wp (OH f (first++vs)) Q' s'):W.wp (QU pos f first (Rb pos (OM as W.env)) []) Q' s:=by
 rcases hf with hf|hf;·exact dj (gq h1.1) hf (Cn.Zo (h1.2 W _ _ _ _ _ _ x e) h)
 ·exact rQ W.hb (gq h1.1) hf (Cn.Zo (h1.2 W _ _ _ _ _ _ x e) λvs J' s' l x' e'=>⟨x'.here W.hb,h vs J' s' l x' e'⟩)
theorem r8{k':T}(hg:ax X g v/\dn g)(hv:∀f,er f=v->f=v/\∀a,f≠.ref a)(h:dF X as k' c)(op:∀(W:Cn X)(ρ:Loc)(J:Sg)(s:Mn)(st:List Me)(Q:Out->Sg->Prop)(vs:List Me),vs.length=as.length->W.St J ρ s->W.ex k' ((vs.map er).reverse++st) ρ J Q->W.wp (OH v vs) (W.PK ρ k st Q) s):aP X (.Call (.Name g p) as [] pos) k c:=λW ρ J s st Q x e=>
 cN x hg λf s₁ hf x₁=>by obtain z12:=hv f hf;obtain rfl:=z12.1;exact b9 x₁ h e (.inl z12.2) λvs J' s' l x' e'=>op W ρ J' s' st Q vs l x' e'
theorem pP(f:Me)(h:er f=.builtin id):f=.builtin id/\∀a,f≠.ref a:=by rw[mA h];exact⟨rfl,nofun⟩
theorem k9(f:Me)(h:er f=.type id):f=.type id/\∀a,f≠.ref a:=by rw[bK h];exact⟨rfl,nofun⟩
theorem DO(hg:ax X g (.builtin "len")/\dn g)(h:dF X [y] (.len k) c):aP X (.Call (.Name g p) [y] [] pos) k c:=
 r8 hg pP h λW a a a a a a l x e=>by refine ae (XW l) λv z10=>?_;obtain rfl:=z10;exact CD W.B W.hb W.hr x e
theorem Fl(hg:ax X g (.builtin "abs")/\dn g)(h:dF X [y] (.abs k) c):aP X (.Call (.Name g p) [y] [] pos) k c:=
 r8 hg pP h λW a a a a a a l x e=>by refine ae (XW l) λv z9=>?_;obtain rfl:=z9;exact of (Ci x e)
theorem DW{z:MY}(hg:ax X g (.builtin "min")/\dn g)(h:dF X [y,z] (.YT k) c):aP X (.Call (.Name g p) [y,z] [] pos) k c:=
 r8 hg pP h λW a a a a a a l x e=>by refine bI (dM l) λv u z8=>?_;obtain rfl:=z8;exact of (CC W.hr.2.2.1 x e)
theorem BP(hg:ax X g (.type "int")/\dn g)(h:dF X [y] (.Xr k) c):aP X (.Call (.Name g p) [y] [] pos) k c:=
 r8 hg k9 h λW a a a a a a l x e=>by refine ae (XW l) λv z7=>?_;obtain rfl:=z7;exact of (De x e)
theorem wj(hg:ax X g (.type "bytes")/\dn g)(h:dF X [y] (.Xb k) c):aP X (.Call (.Name g p) [y] [] pos) k c:=
 r8 hg k9 h λW a a a a a a l x e=>by refine ae (XW l) λv z6=>?_;obtain rfl:=z6;exact of (xm W.hr.2.2.1 x e)
theorem C9(hg:ax X g (.type "bytearray")/\dn g):aP X (.Call (.Name g p) [] [] pos) k (.YC k):=
 r8 hg k9 Dx λW a a a a a a l x e=>by rw[PC l] at e ⊢;exact ye x e
theorem Ap(hg:ax X g (.type "list")/\dn g)(h:dF X [y] (.Yj k) c):aP X (.Call (.Name g p) [y] [] pos) k c:=
 r8 hg k9 h λW a a a a a a l x e=>by refine ae (XW l) λv z5=>?_;obtain rfl:=z5;exact of (xc W.B W.hb W.hr.2.2.1 x e)
theorem EQ{ty:Np}{tp:Qw}(hg:ax X g (.builtin "isinstance")/\dn g)(ht:ax X ty tv/\dn ty)(hs:Xl y=Mh)(h:aP X y (.isi tv k) c):aP X (.Call (.Name g p) [y,.Name ty tp] [] pos) k c:=λW ρ J s st Q x e=>
 cN x hg λf s₁ hf x₁=>by rw[mA hf];refine dj (gq (by rw[PX,hs];rfl)) (λa=>nofun) (WT (Cn.step (h W _ _ _ _ _ x₁ e) λv a a x e=>?_) (bT hs));exact WT (Cn.ZM x ht λu a hu x=>Xd (of (CF W.B W.hb x hu e))) (bT rfl)
theorem CZ(hg:ax X g (.ref a)/\dn g)(hc:Zh a=Mj)(h:dF X as (.call as.length k) c):aP X (.Call (.Name g p) as [] pos) k (.cst (.ref a) c):=λW ρ J s st Q x e=>
 cN x hg λf s₁ hf x₁=>by rw[aq hf];exact b9 x₁ h e (.inr (W.B.5 a hc)) λvs J' s' l x' e'=>gX W.hb W.hr.room x' (qo l e')
theorem l9{m:Np}(hb:fL o=Mj)(hp:apos.endLine=pos.line)(hs:as.any Xl=Mh)(hl:as.length<=20)(h:W.wp (NW o W.env) (λov s₁=>∀pl:RW Bool,W.wp (Rk ov m pl) (λq s₂=>W.wp (QU pos q.1 q.2 (Rb pos (OM as W.env)) []) Q' s₂) s₁) s):W.wp (NW (.Call (.Attribute o m apos) as [] pos) W.env) Q' s:=by
 have few:methodCallForm (as.length+([]:List Keyword).length) (Rb pos (OM as W.env)) (backToKw pos (keywordEach [] W.env))=true:=by
  unfold methodCallForm;have e1:(Rb pos (OM as W.env)).all (λx=>!x.1)=true:=by rw[List.all_eq_not_any_not];simp only[Bool.not_not,gq (pos:=pos) (env:=W.env) hs];rfl
  rw[e1];show(Mj&&Mj&&M3 (as.length+0+0<30))=Mj;rw[decide_eq_true (kI hl rfl)];rfl
 rw[arm_eval_Call,km hb];refine Wi (Wn h (λov s₁ hq=>Wi (Wq ?_)) λa a z=>z);unfold methodCall;rw[few];refine Wi (Wo ?_);show W.wp (Rk ov m _) _ _;refine Wn (hq _) (λq s₂ h₂=>?_) λa a z=>z;have hpos:Ry Mj o W.env apos pos=NO pos:=by unfold Ry;simp[hp]
 dsimp only;rw[hpos];exact Wi (wpAny_pure h₂)
theorem Bh{m:Np}(hb:fL o=Mj)(h0:enc m≠0)(hp:apos.endLine=pos.line)(hl:as.length<=20)(h1:dF X as (.XM as.length k) c1)(h2:aP X o (.meth (enc m) c1) c):aP X (.Call (.Attribute o m apos) as [] pos) k c:=λW ρ J s st Q x e=>
 l9 hb hp h1.1 hl (Cn.step (h2 W _ _ _ _ _ x e) λov J₁ s₁ x₁ e₁ pl=>Wn (of (wS W.B W.hb x₁ h0 e₁)) (λq s₂ h₂=>by refine bI h₂ λg a z3=>?_;rw[z3.1];refine ae z3.2.2 λJ₂ z4=>?_;exact b9 z4.1 h1 z4.2 (.inr z3.2.1) λvs J' s' l x' e'=>gX (vals:=.ref a::vs) W.hb W.hr.room x' (uM l e')) λb b z=>z)
theorem GF{m:Np}(hb:fL o=Mj)(h0:enc m≠0)(hp:apos.endLine=pos.line)(hl:as.length<=20)(h1:dF X as (.cb as.length k) c1)(h2:aP X o (.bm (enc m) c1) c):aP X (.Call (.Attribute o m apos) as [] pos) k c:=λW ρ J s st Q x e=>
 l9 hb hp h1.1 hl (Cn.step (h2 W _ _ _ _ _ x e) λov J₁ s₁ x₁ e₁ pl=>Wn (of (DZ x₁ h0 e₁)) (λq s₂ h₂=>by refine ae h₂ λid z1=>?_;rw[z1.1];refine ae z1.2 λJ₂ z2=>?_;exact b9 z2.1 h1 z2.2 (.inl λa=>nofun) λvs J' s' l x' e'=>Es W.B W.hb x' l e') λa a z=>z)
theorem Bv{y:Np}{g:Ml}(hy:ax X y (.ref C)/\dn y)(hg:mt C (enc ("__init__":Np))=Md g)(hp:apos.endLine=pos.line)(hl:as.length<=20)(h:dF X as (.call as.length k) c):aP X (.Call (.Attribute (.Name y yp) "__init__" apos) as [] pos) k (.cst (.ref g) c):=λW ρ J s st Q x e=>
 l9 rfl hp h.1 hl (Cn.ZM x hy λu s₁ hu x₁ pl=>by rw[aq hu];exact xG x₁ hg λs₂ hkp x₂=>b9 x₂ h e (.inr hkp) λvs J' s' l x' e'=>gX W.hb W.hr.room x' (qo l e'))
end
end Wc
noncomputable def WU(Φ:bv)(own:List Ml)(h:Oy):bv:=⟨λb=>if b∈own then h.get? b else Φ.o b,Φ.fr⟩
variable{b:Ml}
theorem pk{own:List Ml}(q:b∈own):(WU Φ own h).o b=h.get? b:=if_pos q
theorem jF{own:List Ml}(q:b∉own):(WU Φ own h).o b=Φ.o b:=if_neg q
noncomputable def qW(g:Ml->Own)(own:List Ml)(x:Own):Ml->Own:=λb=>if b∈own then x else g b
variable{g:Ml->Own}{x:Own}
theorem dS{own:List Ml}(q:b∈own):qW g own x b=x:=if_pos q
theorem ce{own:List Ml}(q:b∉own):qW g own x b=g b:=if_neg q
inductive Sp(Z:Sys)(Φ:bv)(own:List Ml)(J:Sg)(L:Ml)(ρ:Loc)(s:Mn):Prop
 |mk (g:Ml->Own) (m:Np->Option Me) (inv:Inv Φ J g s.heap) (hL:g L=.loc) (ns:s.heap.Ns L m) (hm:dP m ρ) (ow:∀a∈own,g a=.loc/\a≠L) (gens:s.gens=#[]) (os:s.os=Z.os)
theorem Inv.own(I:Inv Φ J g h){own:List Ml}(hx:x=.loc∨x=.W7∨x=.free)(ho:∀a∈own,g a=.loc∨g a=.W7∨g a=.free)(out:∀b,b∉own->Φ'.o b=Φ.o b/\(Φ'.fr b↔Φ.fr b))(keep:∀b o,b∉own->h.get? b=Md o->h'.get? b=Md o)(fz:∀b o,b∈own->Φ'.o b=Md o->Kept (Φ'.fr b) h' b o/\x=.W7)(frs:∀b,b∈own->Φ'.fr b->x≠.free)(lv:x≠.free->∀b∈own,∃o,h'.get? b=Md o):Inv Φ' J (qW g own x) h':=by
 refine I.tr (·∈own) (λb q=>⟨ce q,(out b q).1,(out b q).2,rfl⟩) keep (λb d q e=>?_) (λb o q e=>?_) (λb q e=>?_) (λb c q e=>?_) λb q e=>?_;·rcases ho b q with z|z|z<;>rw[z] at e<;>cases e
 ·rw[dS q];exact fz b o q e
 ·rw[dS q];rcases hx with z|z|z
  ·exact .inr z
  ·exact .inl z
  ·exact absurd z (frs b q e)
 ·have:=(I.3 b c e).1;rcases ho b q with z|z|z<;>rw[z] at this<;>cases this
 ·rw[dS q] at e;exact lv e b q
variable{x:Np}{t:Nat}{ws:List Me}{L':Ml}{ρ':Loc}{own2:List Ml}{sc:O2}
section
variable{own:List Ml}
theorem Sp.st(x:Sp Z Φ own J L ρ s):St Z Φ J L ρ s:=by cases x with|mk g m a b c d e f h=>exact⟨g,m,a,b,c,d,f,h⟩
theorem St.sp(x:St Z Φ J L ρ s):Sp Z Φ [] J L ρ s:=by induction x with|mk g m a b c d e f=>exact⟨g,m,a,b,c,d,nofun,e,f⟩
theorem Sp.tk(x:Sp Z Φ own J L ρ s)(t:Nat):Sp Z Φ own J L ρ {s with toks:=t}:=by induction x with|mk g m a b c d e f h=>exact .mk g m a b c d e f h
theorem Sp.X5(x:Sp Z Φ own J L ρ s)(ha:a∈own):(∃o,s.heap.get? a=Md o)/\Φ.o a=Mr/\J a=Mr/\a≠L:=by
 induction x with
 |mk g m I b c d ho=>have h:=ho a ha;exact⟨I.4 a (by rw[h.1];exact nofun),I.Z8 (by rw[h.1];exact nofun),I.aai (by rw[h.1];exact nofun),h.2⟩
theorem Sp.base(x:Sp Z Φ own J L ρ s)(hb:WJ Z Φ):WJ Z (WU Φ own s.heap):=λa o e=>
 ⟨(jF λq=>by have:=(x.X5 q).2.1;rw[(hb a o e).1] at this;cases this).trans (hb a o e).1,(hb a o e).2⟩
theorem Sp.WU(x:Sp Z Φ own J L ρ s):St Z (WU Φ own s.heap) J L ρ s:=by
 cases x with
 |mk g m I hL hn hm ho hg hos=>
  exact⟨qW g own .W7,m,I.own (.inr (.inl rfl)) (λa q=>.inl (ho a q).1) (λb q=>⟨jF q,Pm⟩) (λc c c e=>e) (λb o q e=>⟨.of ((pk q).symm.trans e),rfl⟩) (λc c c=>nofun) λc b q=>I.4 b (by rw[(ho b q).1];exact nofun),
   (ce λq=>(ho L q).2 rfl).trans hL,hn,hm,hg,hos⟩
theorem cS.held(hr:cS n A Φ L)(x:Sp Z Φ own J L' ρ s)(h:L=L'∨L∈own/\∀o,s.heap.get? L=Md o->∀vs,o.data≠.fields vs):cS n A (Internal.WU Φ own s.heap) L':=by
 refine ae hr.2.2.2 λl z10=>?_;refine⟨hr.1,hr.2.1,hr.2.2.1,l,z10.1,z10.2.Wr (λa q=>q) (λa o e=>(jF λq=>by rw[(x.X5 q).2.1] at e;cases e).trans e) λa q=>?_⟩;rw[q];rcases h with h|⟨h,h'⟩
 ·exact .inl h
 ·refine ae ((x.X5 h).1) λo ho=>?_;exact .inr ⟨o,(pk h).trans ho,h' o ho⟩
theorem St.X1(x:St Z Φ J L ρ s)(h:s.heap.objs.size<=a):¬Φ.fr a:=by cases x with|mk g m I=>exact I.X1 h
inductive Freed(Z:Sys)(Φ:bv)(own:List Ml)(h₀:Oy)(J:Sg)(L:Ml)(ρ:Loc)(s:Mn):Prop
 |mk:Sp Z Φ own J L ρ s->(∀a∈own,¬Φ.fr a->s.heap.get? a=h₀.get? a)->(∀a∈own,∀o,h₀.get? a=Md o->Kept (Φ.fr a) s.heap a o)->Freed Z Φ own h₀ J L ρ s
theorem Sp.free{s':Mn}(S:Sp Z Φ own J L ρ s)(x:St Z (Internal.WU Φ own s.heap) J' L ρ' s'):Freed Z Φ own s.heap J' L ρ' s':=by
 induction x with
 |mk g m I hL hn hm hg hos=>
  have key:∀a∈own,∀o,s.heap.get? a=Md o->Kept (Φ.fr a) s'.heap a o/\g a=.W7:=λa ha o ho=>I.1 a o ((pk ha).trans ho);have fx:∀a∈own,g a=.W7:=λa ha=>(S.X5 ha).1.elim λo ho=>(key a ha o ho).2;refine⟨⟨qW g own .loc,m,I.own (.inl rfl) (λa q=>.inr (.inl (fx a q))) (λb q=>⟨(jF q).symm,Pm⟩) (λc c c e=>e) (λb o q e=>?_) (λc c c=>nofun) (λc b q=>I.4 b (by rw[fx b q];exact nofun)),(ce λq=>(S.X5 q).2.2.2 rfl).trans hL,hn,hm,
   λa ha=>⟨dS ha,(S.X5 ha).2.2.2⟩,hg,hos⟩,λa ha hf=>?_,λa ha o ho=>(key a ha o ho).1⟩
  ·rw[(S.X5 q).2.1] at e;cases e
  ·refine ae ((S.X5 ha).1) λo ho=>?_;exact((key a ha o ho).1.at hf).trans ho.symm
theorem Sp.to(x:Sp Z Φ own J L ρ s)(k:∀b o,b∉own->s.heap.get? b=Md o->h'.get? b=Md o)(h2:∀a∈own2,a∈own/\∃o,h'.get? a=Md o)(hf:∀a∈own,a∉own2->¬Φ.fr a):Sp Z Φ own2 J L ρ {s with heap:=h',toks:=t}:=by
 induction x with
 |mk g m I hL hn hm ho hg hos=>
  refine ae hn λoL z7=>?_;refine ae z7 λes z8=>?_;refine ae z8 λep z9=>?_;obtain⟨q,r⟩:=z9;have hLo:L∉own:=λq=>(ho L q).2 rfl;refine⟨qW (qW g own .free) own2 .loc,m,I.tr (·∈own) (λb q=>⟨(ce λz=>q (h2 b z).1).trans (ce q),rfl,Pm,rfl⟩) k (λb d q e=>?_) (λb o q e=>?_) (λb q e=>?_) (λb c q e=>?_) (λb q e=>?_),
   ((ce λz=>hLo (h2 L z).1).trans (ce hLo)).trans hL,⟨oL,es,ep,k _ _ hLo q,r⟩,hm,λa q=>⟨dS q,(ho a (h2 a q).1).2⟩,hg,hos⟩
  ·rw[(ho b q).1] at e;cases e
  ·rw[I.Z8 (by rw[(ho b q).1];exact nofun)] at e;cases e
  ·exact .inr (dS (O8 λz=>hf b q z e))
  ·rw[I.aai (by rw[(ho b q).1];exact nofun)] at e;cases e
  ·exact(h2 b (O8 λz=>e ((ce z).trans (dS q)))).2
theorem Sp.ext(x:Sp Z Φ own J L ρ s)(k:∀b o,b∉own->s.heap.get? b=Md o->h'.get? b=Md o)(lv:∀a∈own,∃o,h'.get? a=Md o):Sp Z Φ own J L ρ {s with heap:=h',toks:=t}:=x.to k (λa q=>⟨q,lv a q⟩) λc q z=>absurd q z
theorem Sp.but(x:Sp Z Φ own J L ρ s)(ha:a∈own)(hs:ND a s.heap h')(lv:∃o,h'.get? a=Md o):Sp Z Φ own J L ρ {s with heap:=h',toks:=t}:=
 x.ext (λb o hb e=>(hs.2 b λq=>hb (q▸ha)).trans e) λb hb=>(Sf (b=a)).elim (λq=>q▸lv) λq=>(x.X5 hb).1.elim λo ho=>⟨o,(hs.2 b q).trans ho⟩
theorem Sp.Wt(x:Sp Z Φ own J L ρ s)(hn:∀a∈own,¬Φ.fr a)(hs:∀b o,b∉own->s.heap.get? b=Md o->h'.get? b=Md o):St Z Φ J L ρ {s with heap:=h',toks:=t}:=(x.to (own2:=[]) hs nofun λa q c=>hn a q).st
theorem St.aaL(x:St Z Φ J L ρ s)(k:∀b o,s.heap.get? b=Md o->h'.get? b=Md o)(hf:∀a∈own,s.heap.objs.size<=a/\∃o,h'.get? a=Md o):Sp Z Φ own J L ρ {s with heap:=h',toks:=t}:=by
 cases x with
 |mk g m I hL hn hm hg hos=>
  refine ae hn λoL z4=>?_;refine ae z4 λes z5=>?_;refine ae z5 λep z6=>?_;obtain⟨q,r⟩:=z6;have hLo:L∉own:=λz=>absurd (NA q) (PG.mpr (hf L z).1);exact⟨qW g own .loc,m,I.own (.inl rfl) (λa q=>.inr (.inr (I.fresh (hf a q).1).2.2)) (λc c=>⟨rfl,Pm⟩) (λb o c=>k b o) (λb o q e=>by rw[(I.fresh (hf b q).1).2.1] at e;cases e) (λc c c=>nofun) (λc b q=>(hf b q).2),(ce hLo).trans hL,⟨oL,es,ep,k _ _ q,r⟩,hm,
   λa q=>⟨dS q,λz=>hLo (z▸q)⟩,hg,hos⟩
theorem St.aa6{o:P9}(x:St Z Φ J L ρ s)(ho:o.isFreed=Mh):Sp Z Φ [s.heap.objs.size] J L ρ {s with heap:=s.heap.push o,toks:=t}:=
 x.aaL (λa a e=>ME _ e) λb hb=>by rw[MN.mp hb];exact⟨MD _,_,MS _ ho⟩
theorem St.ZK(x:St Z Φ J L ρ s):∀a∈[s.heap.objs.size],¬Φ.fr a:=λa ha=>by rw[MN.mp ha];exact x.X1 (MD _)
theorem Sp.W8{m:Np->Option Me}(S:Sp Z Φ own J L ρ s)(hL:L'∈own)(hn:s.heap.Ns L' m)(hm:dP m ρ')(h2:∀a∈own2,(a=L∨a∈own)/\a≠L'):Sp Z Φ own2 J L' ρ' s:=by
 cases S with
 |mk g m' I hgL hns hm' hown hg hos=>exact⟨g,m,I,(hown L' hL).1,hn,hm,λa ha=>⟨(h2 a ha).1.elim (λq=>q▸hgL) λq=>(hown a q).1,(h2 a ha).2⟩,hg,hos⟩
theorem Sp.aa1{x:Ml}{nn:Nat}(S:Sp Z Φ own J L ρ s)(hx:x∈own)(hxf:¬Φ.fr x)(ho:s.heap.get? x=Md (⟨.type "list",Mr,.seq ys nn,#[]⟩:P9))(hw:ys.toList.map er=ws):J x=Mr/\St Z Φ (upd J x (.list ws)) L ρ s:=by
 have lv:=S.X5 hx;cases S with
 |mk g m' I hgL hns hm' hown hg hos=>have I2:=I.Zf (x:=.obj) (.inl (hown x hx).1) ⟨_,ho⟩ (Φ':=Φ) (λa a=>⟨rfl,Pm⟩) (λo e=>by rw[lv.2.1] at e;cases e) λq=>absurd q hxf;exact⟨lv.2.2.1,_,m',I2.cell bg lv.2.2.1 ⟨ys,nn,ho,hw⟩,(cZ (Qj lv.2.2.2)).trans hgL,hns,hm',hg,hos⟩
theorem St.gf(x:St Z Φ J L ρ s)(h:∀c,gf ρ c=gf ρ' c):St Z Φ J L ρ' s:=by cases x with|mk g m I hL hn hm hg ho=>exact⟨g,m,I,hL,hn,λy=>(hm y).trans (h _),hg,ho⟩
theorem gy(hE:kH env sc L)(hx:sc.names.lookup x=Md .local)(h0:enc x≠0)(S:Sp Z Φ own J L ρ s){Q':Mn->Prop}(h:∀s',Sp Z Φ own J L (sf ρ (enc x) (er v)) s'->(∀a∈own,s'.heap.get? a=s.heap.get? a)->Q' s'):My (Mk Z.prog Z.w) A (VE env x v) (λf=>Q') E s:=by
 induction S with
 |mk g m I hL hn hm ho hg hos=>
  have hk:env.kindOf x=Md .local:=by unfold SH;rw[hE.1];exact hx
  refine wpAny_storeName_local hk (by rw[hE.3];exact hn) (λh' hn' hs'=>?_) (by rw[hE.1,hE.2];rfl);rw[hE.3] at hn' hs';have nL:∀{b},b=L->g b≠.loc->False:=λ{b} q z=>z (q▸hL);have I':Inv Φ J g h':=I.tr (·=L) (λf f=>⟨rfl,rfl,Pm,rfl⟩) (λb o q e=>(hs'.2 b q).trans e) (λb d q e=>(nL q (by rw[e];exact nofun)).elim) (λb o q e=>(nL q (by rw[(I.1 b o e).2];exact nofun)).elim) (λb f e=>I.2 b e)
   (λb c q e=>(nL q (by rw[(I.3 b c e).1];exact nofun)).elim) λb q f=>by refine ae hn' λo z1=>?_;refine ae z1 λf z2=>?_;refine ae z2 λf z3=>?_;obtain⟨z,_⟩:=z3;exact⟨o,q▸z⟩
  exact h _ ⟨g,_,I',hL,hn',hm.set h0,ho,hg,hos⟩ λa ha=>hs'.2 a (ho a ha).2
end
namespace Cn
variable{X:CX}{W:Cn X}{own:List Ml}
@[reducible]def Sp(W:Cn X)(own:List Ml)(J:Sg)(ρ:Loc)(s:Mn):Prop:=Internal.Sp W.Z W.Φ own J W.L ρ s
noncomputable abbrev held(W:Cn X)(S:W.Sp own J ρ s):Cn X:={W with Φ:=Internal.WU W.Φ own s.heap,hb:=S.base W.hb,hr:=W.hr.held S (.inl rfl)}
theorem Zg(hn:∀a∈own,¬W.Φ.fr a){s':Mn}(S:W.Sp own J ρ s)(x:(W.held S).St J' ρ' s'):W.Sp own J' ρ' s'/\∀a∈own,s'.heap.get? a=s.heap.get? a:=by cases S.free x with|mk a b c=>exact⟨a,λy q=>b y q (hn y q)⟩
theorem aa8{k c:T}{st:List Me}(hn:∀a∈own,¬W.Φ.fr a)(h:aP X e k c)(S:W.Sp own J ρ s)(x:W.ex c st ρ J Q)(q:∀v J' s',W.Sp own J' ρ s'->(∀a∈own,s'.heap.get? a=s.heap.get? a)->W.ex k (er v::st) ρ J' Q->Q' v s'):W.wp (NW e W.env) Q' s:=
 step (W:=W.held S) (h (W.held S) _ _ _ _ _ S.WU x) λv J' s' x' e'=>q v J' s' (Zg hn S x').1 (Zg hn S x').2 e'
end Cn
namespace Cn
variable{X:CX}(W:Cn X)
inductive PA(k:T)(st:List Me)(Q:Out->Sg->Prop)(s:Mn):Prop
 |mk(ρ:Loc)(J:Sg):W.St J ρ s->W.ex k st ρ J Q->PA k st Q s
inductive PN(own:List Ml)(h₀:Oy)(J:Sg)(k:T)(st:List Me)(Q:Out->Sg->Prop)(s:Mn):Prop
 |mk (ρ:Loc):W.Sp own J ρ s->(∀a∈own,s.heap.get? a=h₀.get? a)->W.ex k st ρ J Q->PN own h₀ J k st Q s
end Cn
def uI(X:CX)(t:MY)(k c:T):Prop:=(∀env,SN [t] env=[(Mh,Rc t env)])/\∀(W:Cn X)(ρ:Loc)(J:Sg)(s:Mn)(st:List Me)(Q:Out->Sg->Prop)(v:Me),W.St J ρ s->W.ex c (er v::st) ρ J Q->W.wp (Rc t W.env v) (λa=>W.PA k st Q) s
def qs(X:CX)(es:List MY)(k c:T):Prop:=(∀env,(SN es env).findIdx? (·.1)=Mr/\(SN es env).length=es.length)/\∀(W:Cn X)(own:List Ml)(ρ:Loc)(J:Sg)(s:Mn)(st:List Me)(Q:Out->Sg->Prop)(vs:List Me),vs.length=es.length->
 W.Sp own J ρ s->W.ex c (vs.map er++st) ρ J Q->W.wp (Rw ((SN es W.env).map (·.2)) vs) (λa=>W.PN own s.heap J k st Q) s
def iU(X:CX)(t:OO)(k c:T):Prop:=∀(W:Cn X)(ρ:Loc)(J:Sg)(s:Mn)(Q:Out->Sg->Prop),W.St J ρ s->W.ex c [] ρ J Q->W.wp (P0 t W.env) (j2 W.Z W.Φ W.L Q λρ' J'=>W.ex k [] ρ' J' Q) s
def cm(X:CX)(ts:List OO)(k c:T):Prop:=∀(W:Cn X)(ρ:Loc)(J:Sg)(s:Mn)(Q:Out->Sg->Prop),W.St J ρ s->W.ex c [] ρ J Q->W.wp (Qc ts W.env) (j2 W.Z W.Φ W.L Q λρ' J'=>W.ex k [] ρ' J' Q) s
noncomputable def Xs(X:CX):Env:={scope:=X.scope,locals:=0,globals:=0,cells:=[]}
theorem lL(t v:MY)(l:Nat)(env:VD):O0 [t] v l env=O0 [t] v l {scope:=env.scope,locals:=0,globals:=0,cells:=[]}:=rfl
theorem mc(ts:List MY)(v:MY)(env:VD):O1 ts v env=O1 ts v {scope:=env.scope,locals:=0,globals:=0,cells:=[]}:=rfl
theorem pf{a b:Nat}(u v:Me)(h:a≠b)(c:Nat):gf (sf (sf ρ b v) a u) c=gf (sf (sf ρ a u) b v) c:=by
 rw[ju,ju,ju,ju];by_cases q:c=a;·rw[if_pos q,if_neg (λz=>h (q.symm.trans z)),if_pos q]
 ·rw[if_neg q,if_neg q]
theorem qj(h:∀c,gf ρ c=gf ρ' c)(a:Nat)(u:Me)(c:Nat):gf (sf ρ a u) c=gf (sf ρ' a u) c:=by rw[ju,ju,h]
variable{z y:Np}{t:MY}{p3:Qw}
namespace Wc
section
variable{X:CX}{k c c1 c2:T}
theorem Ep(h:X.scope.names.lookup y=Md .local)(h0:enc y≠0):uI X (.Name y p) k (.st (enc y) k):=⟨λa=>rfl,λW a J a a a a x e=>
 Ys (of (gy W.hE h h0 x.sp λa S a=>⟨_,J,S.st,e⟩))⟩
theorem Gq{a:Np}(h0:enc a≠0)(h:aP X o (.XD (enc a) k) c):uI X (.Attribute o a p) k c:=⟨λb=>rfl,λW ρ b b b b v x e=>by rw[arm_assign_Attribute];exact Wi (Wo (Cn.step (h W _ _ _ _ _ x e) λb b b x e=>Wi (Wq (Wi (Wo (Cn.aac (of (tI W.B W.hb x h0 e)) λb J b x e=>of (Tq ⟨ρ,J,x,e⟩)))))))⟩
theorem Gw{i:MY}(h1:aP X i (.XF k) c1)(h2:aP X o c1 c):uI X (.Subscript o i p) k c:=⟨λa=>rfl,λW ρ a a a a v x e=>by
 rw[arm_assign_Subscript];exact Wi (Wo (Cn.step (h2 W _ _ _ _ _ x e) λa a a x e=>Wi (Wo (Cn.step (h1 W _ _ _ _ _ x e) λa a a x e=>
  Wi (Wq (Wi (Wo (Cn.aac (yG W.B W.hb W.hr x e) λa J a x e=>of (Tq ⟨ρ,J,x,e⟩)))))))))⟩
theorem FU:qs X [] k k:=⟨λa=>⟨rfl,rfl⟩,λW a ρ a a a a vs l S e=>by rw[PC l] at e ⊢;exact wpAny_pure ⟨ρ,S,λa a=>rfl,e⟩⟩
theorem Go(h:X.scope.names.lookup y=Md .local)(h0:enc y≠0)(H:qs X es k c):qs X (.Name y p::es) k (.st (enc y) c):=
 ⟨λenv=>⟨by
   show((Mh,Rc (.Name y p) env)::SN es env).findIdx? (·.1)=Mr
   rw[List.findIdx?_cons,(H.1 env).1];rfl,congrArg (·+1) (H.1 env).2⟩,λW own ρ J s st Q vs l S e=>by
  induction vs with
  |nil=>cases l
  |cons v vs=>show W.wp (do Pn vs (Rc (.Name y p) W.env v);Rw ((SN es W.env).map (·.2)) vs) _ _;exact Wi (Wo (Ys (of (gy W.hE h h0 S λs₁ S₁ k₁=>Wn (H.2 W own _ J s₁ st Q vs (Sh l) S₁ e) (λb s' h'=>by induction h' with|mk ρ' S' k' e'=>exact⟨ρ',S',λa ha=>(k' a ha).trans (k₁ a ha),e'⟩) λb b z=>z))))⟩
theorem Sp.Xn{W:Cn X}{own:List Ml}(x:W.Sp own J ρ s)(he:Heap.ExtBut s.heap.objs.size s.heap h'):W.Sp own J ρ {s with heap:=h'}/\∀a∈own,h'.get? a=s.heap.get? a:=by have k:∀b o,s.heap.get? b=Md o->h'.get? b=Md o:=λb o q=>he b o (Nf (NA q)) q;exact⟨x.ext (t:=s.toks) (λb o c=>k b o) λa ha=>(x.X5 ha).1.elim λo q=>⟨o,k _ _ q⟩,λa ha=>(x.X5 ha).1.elim λo q=>(k _ _ q).trans q.symm⟩
theorem xS{W:Cn X}{st:List Me}{m:Nat}{Q':List Me->Mn->Prop}(x:W.St J ρ s)(e:W.ex (.unp m k) (er v::st) ρ J Q)(q:∀vs s',vs.length=m->W.Sp [] J ρ s'->W.ex k (vs.map er++st) ρ J Q->Q' vs s'):W.wp (unpackItems v m Mr) Q' s:=by refine ae (f8.inv e) λa z5=>?_;rw[z5.1];refine ae z5.2 λxs z6=>?_;obtain rfl:=z6.2.1;obtain⟨ys,n,z1,z2,l⟩:=bD x z6.1;rw[<-l];exact of (unpackItems_tuple W.hr.2.2.1 ⟨_,z1,rfl,n,rfl⟩ λh' he=>q _ _ (by rw[NC,l]) (Sp.Xn x.sp he).1 (by rw[z2];exact z6.2.2))
theorem GT(H:qs X es k c):uI X (.Tuple es kd p) k (.unp es.length c):=⟨λa=>rfl,λW ρ J s st Q v x e=>by rw[arm_assign_Tuple];refine Wi (Wq ?_);unfold unpack;rw[(H.1 W.env).1,(H.1 W.env).2];exact Wi (Wo (xS x e λvs s' l S e=>Wn (H.2 W [] ρ J s' st Q vs l S e) (λa a h'=>by induction h' with|mk ρ' S' _ e'=>exact⟨ρ',J,S'.st,e'⟩) λa a z=>z))⟩
theorem DM{v:MY}(hs:O0 [t] v pos.line (Xs X)=NO Mh)(hw:O1 [t] v (Xs X)=NO Mr)(h1:uI X t k c1)(h2:aP X v c1 c):iU X (.Assign [t] v pos) k c:=λW ρ J s Q x e=>by
 have hsc:({scope:=W.env.scope,locals:=0,globals:=0,cells:=[]}:VD)=Xs X:=by rw[W.hE.1];rfl
 rw[exec_Assign,lL,hsc,hs];refine Wi (Wq (Wi (wpAny_pure ?_)));rw[if_neg (by decide)];refine Wi (Cn.step (h2 W _ _ _ [] _ x e) λu a a x e=>?_);rw[mc,hsc,hw];refine Wi (wpAny_pure ?_);rw[h1.1];show W.wp (do assignAll u [Rc t W.env];NO Flow.next:RW T8) _ _;exact Wi (Wn (h1.2 W _ _ _ _ _ u x e) (λa a z=>wpAny_pure (by induction z with|mk ρ J x e=>exact⟨J,ρ,x,e⟩)) λa a z=>z)
theorem xi{v:MY}(hs:O0 [.Tuple es kd p] v pos.line (Xs X)=NO Mh)(hw:O1 [.Tuple es kd p] v (Xs X)=NO (Md ns))(hl:ns.length=es.length)(h1:aP X v (.unp es.length c1) c)(H:∀(W:Cn X)(ρ:Loc)(J:Sg)(s:Mn)(Q:Out->Sg->Prop)(vs:List Me),vs.length=ns.length->W.Sp [] J ρ s->W.ex c1 (vs.map er) ρ J Q->W.wp (Rw (ns.reverse.map λn=>Uv W.env n) vs.reverse) (λa=>W.PA k [] Q) s):iU X (.Assign [.Tuple es kd p] v pos) k c:=λW ρ J s Q x e=>by
 have hsc:({scope:=W.env.scope,locals:=0,globals:=0,cells:=[]}:VD)=Xs X:=by rw[W.hE.1];rfl
 refine YH (names:=ns) (Cn.step (h1 W _ _ _ [] _ x e) λu a a x e=>?_) (by rw[lL,hsc,hs]) (by rw[mc,hsc,hw]);rw[hl];exact xS x e λvs s' l S e=>Wn (H W ρ _ s' Q vs (l.trans hl.symm) S (by rw[NG] at e;exact e)) (λa a z=>by induction z with|mk ρ J x e=>exact⟨J,ρ,x,e⟩) λa a z=>z
theorem Zn{W:Cn X}{Q':Unit->Mn->Prop}(S:W.Sp [] J ρ s)(h:X.scope.names.lookup y=Md .local)(h0:enc y≠0)(q:∀s',W.Sp [] J (sf ρ (enc y) (er v)) s'->Q' () s'):W.wp (Uv W.env y v) Q' s:=
 XY (of (gy W.hE h h0 S λs' S' a=>q s' S'))
theorem EO{v:MY}{p1 p2:Qw}(ht:t=.Tuple [.Name y p1,.Name z p2] kd p)(hs:O0 [t] v pos.line (Xs X)=NO Mh)(hw:O1 [t] v (Xs X)=NO (Md ns))(hns:ns=[y,z])(hy:X.scope.names.lookup y=Md .local)(hz:X.scope.names.lookup z=Md .local)(h0:enc y≠0)(h0':enc z≠0)(hn:enc y≠enc z)(h1:aP X v (.unp 2 (.st (enc y) (.st (enc z) k))) c):iU X (.Assign [t] v pos) k c:=by subst ht hns;exact xi hs hw rfl h1 λW ρ J s Q vs l S e=>by refine bI (dM l) λu w z4=>?_;obtain rfl:=z4;exact Wi (Wo (Zn S hz h0' λa S=>Wi (Wo (Zn S hy h0 λa S=>wpAny_pure ⟨_,J,S.st.gf (pf _ _ hn),e⟩))))
theorem EE{v:MY}{w:Np}{p1 p2:Qw}(ht:t=.Tuple [.Name y p1,.Name z p2,.Name w p3] kd p)(hs:O0 [t] v pos.line (Xs X)=NO Mh)(hw:O1 [t] v (Xs X)=NO (Md ns))(hns:ns=[y,z,w])(hy:X.scope.names.lookup y=Md .local)(hz:X.scope.names.lookup z=Md .local)(hw':X.scope.names.lookup w=Md .local)(h0:enc y≠0/\enc z≠0/\enc w≠0)(hn:enc y≠enc z/\enc y≠enc w/\enc z≠enc w)(h1:aP X v (.unp 3 (.st (enc y) (.st (enc z) (.st (enc w) k)))) c):iU X (.Assign [t] v pos) k c:=by
 subst ht hns;exact xi hs hw rfl h1 λW ρ J s Q vs l S e=>by
  cases vs with
  |nil=>cases l
  |cons a vs=>
   refine bI (dM (Sh l)) λb d z3=>?_;obtain rfl:=z3;exact Wi (Wo (Zn S hw' h0.2.2 λb S=>Wi (Wo (Zn S hz h0.2.1 λb S=>Wi (Wo (Zn S hy h0.1 λb S=>wpAny_pure
    ⟨_,J,S.st.gf λj=>((qj (pf _ _ hn.2.2) _ _ j).trans (pf _ _ hn.2.1 j)).trans (qj (pf _ _ hn.1) _ _ j),e⟩))))))
end
end Wc
namespace Cn
inductive TN{X:CX}(W:Cn X)(own:List Ml)(LZ:Oy->Prop)(kb:T)(Q:Out->Sg->Prop)(s:Mn):Prop
 |mk(ρ:Loc)(J:Sg):W.Sp own J ρ s->LZ s.heap->W.ex kb [] ρ J Q->TN W own LZ kb Q s
end Cn
variable{b:Int}{o:P9}{f:Nat}{body:List OO}{target:MY}{it:Ml}{nx:Nx}{LZ:Nat->Oy->Prop}
namespace Wc
theorem iD{i:MY}(h:YD i=Mh)(x:Me):QV i env x=NO x:=by cases i<;>first|rfl|cases h
set_option backward.match.sparseCases true in theorem ZR{U:String}{Q':Unit->Mn->Prop}(ho:s.heap.get? it=Md o)(hc:o.cls=.type U)(hT:["enumerate", "zip", "dict_itemiterator", "dict_reverseitemiterator", "odict_iterator", "itertools.zip_longest", "itertools.pairwise"].contains U=Mh)(h:Q' () s):Wj (Mk prog w) A (OR target (.ref it) v) Q' E s:=by
 have main:∀a:Ml,Wj (Mk prog w) A (do
   let o <-load it
   match o.cls,o.data with
   |.type n,.fields vs=>
    if["enumerate", "zip", "dict_itemiterator", "dict_reverseitemiterator", "odict_iterator", "itertools.zip_longest", "itertools.pairwise"].contains n&&vs[0]?==Md (Wd a) then
     rule "for.unpacks-the-owned-tuple"
     updateField it 0 .none
   |_,_=>NO ()) Q' E s:=λa=>by
  refine Wi (of (QG ho ?_))
  rw[hc]
  induction o.data with
  |fields vs=>show Wj _ _ (if(_&&_)=Mj then _ else _) _ _ _;rw[hT,Bool.false_and,if_neg (by decide)];exact wpAny_pure h
  |_=>exact wpAny_pure h
 cases target<;>first|exact wpAny_pure h|(cases v<;>first|exact wpAny_pure h|exact main _)
theorem wl(a b:Int):Nd a b 1=((b-a).toNat:Int):=by
 unfold Nd;simp only[show(1:Int)>0 by decide,if_true,OZ];by_cases h:a<b;·rw[if_pos h,Vg,MF (ON (Nm h))]
 ·rw[if_neg h,U0 (UI (Q7.mp h))];rfl
theorem pg(a b:Int):Nd a b (-1)=((a-b).toNat:Int):=by
 unfold Nd;simp only[show ¬((-1:Int)>0) by decide,if_false,Int.neg_neg,OZ];by_cases h:b<a;·rw[if_pos h,Vg,MF (ON (Nm h))]
 ·rw[if_neg h,U0 (UI (Q7.mp h))];rfl
theorem nY{a c:Int}(hc:c=1∨c=-1)(h1:-1000000<=a)(h2:a<=1000000)(h3:-1000000<=b)(h4:b<=1000000):U1 a b c=true:=by
 have hz:0<=Nd a b c/\Nd a b c<=2000000:=by
  rcases hc with rfl|rfl;·rw[wl];exact⟨Mt _,nF (b:=2000000) (Int.toNat_le.mpr (ao Lq [_,_] [] h4 h1))⟩
  ·rw[pg];exact⟨Mt _,nF (b:=2000000) (Int.toNat_le.mpr (ao Lq [_,_] [] h2 h3))⟩
 unfold U1;simp only[Builtin.Range.rangeFitsLong,Of,Bool.or_eq_true,decide_eq_true_eq,beq_iff_eq];rcases hc with rfl|rfl
 ·refine⟨⟨⟨⟨(An.and (aS Kz [_,_] [] h1 h2 d5)),(An.and (aS Kz [_,_] [] h3 h4 d5))⟩,⟨by decide,by decide⟩⟩,(An.and (ao KW [_,_] [] hz d5))⟩,.inr ?_⟩;simp only[show(1:Int)>0 by decide,if_true,decide_eq_true_eq,Of];exact(An.and (aS 0x847084007a11c20001e800000000000000010526fa1200910124fa1200cd027c4096446f18812c88f8415f5c [_,_] [] h3 h4 d5))
 ·refine⟨⟨⟨⟨(An.and (aS Kz [_,_] [] h1 h2 d5)),(An.and (aS Kz [_,_] [] h3 h4 d5))⟩,⟨by decide,by decide⟩⟩,(An.and (ao KW [_,_] [] hz d5))⟩,.inr ?_⟩;simp only[show ¬((-1:Int)>0) by decide,if_false,decide_eq_true_eq,Of];exact(An.and (aS 0x211c21001e847080007a00000000000000004149be84802440493e848033409f1187722384c461dc88f8417762 [_,_] [] h3 h4 d5))
section
variable{X:CX}{W:Cn X}{k kb kb':T}{own:List Ml}
noncomputable abbrev LR(W:Cn X)(k:T)(Q:Out->Sg->Prop)(r:Pj)(s':Mn):Prop:=match r with
 |.ok f=>j2 W.Z W.Φ W.L Q (λρ' J'=>W.ex k [] ρ' J' Q) f s'
 |.error _=>False
noncomputable abbrev LG(W:Cn X)(nx:Nx)(kb' k:T)(Q:Out->Sg->Prop):Nat->Nat->Loc->Sg->Prop:=
 sC nx (λvs ρ J Q'=>W.ex kb' vs ρ J Q') (λρ' J'=>W.ex k [] ρ' J' Q) (λv J'=>Q (.ret v) J')
inductive Dl(W:Cn X)(own:List Ml)(it:Me)(target:MY)(nx:Nx)(kb' kb:T)(LZ:Nat->Oy->Prop)(i:Nat)(ρ:Loc)(J:Sg)(s:Mn):Prop
 |Yp:nx i J=Md Mr->W.wp (QD it) (λr s'=>r=Mr/\W.St J ρ s') s->Dl W own it target nx kb' kb LZ i ρ J s
 |Yu (vs:List Me):nx i J=Md (Md vs)->(∀Q,W.ex kb' vs ρ J Q->W.wp (QD it) (λr s₁=>∃v,r=Md v/\W.wp (OR target it v) (λa=>W.wp (Rc target W.env v) λa=>W.TN own (LZ (i+1)) kb Q) s₁) s)->Dl W own it target nx kb' kb LZ i ρ J s
 |odd:nx i J=Mr->Dl W own it target nx kb' kb LZ i ρ J s
inductive LI(W:Cn X)(own:List Ml)(LZ:Nat->Oy->Prop)(nx:Nx)(kb' k:T)(Q:Out->Sg->Prop)(f:Nat)(s:Mn):Prop
 |mk(i:Nat)(ρ:Loc)(J:Sg):W.Sp own J ρ s->LZ i s.heap->LG W nx kb' k Q f i ρ J->LI W own LZ nx kb' k Q f s
theorem Ak(hn:∀a∈own,¬W.Φ.fr a)(hJ:∀i h h',(∀a∈own,h'.get? a=h.get? a)->LZ i h->LZ i h')(hb:cm X body .Wz kb){s₃:Mn}(h:W.TN own (LZ (i+1)) kb (s9 (LG W nx kb' k Q f (i+1)) (λρ' J'=>W.ex k [] ρ' J' Q) λv J'=>Q (.ret v) J') s₃):W.wp (Qc body W.env) (BQ (LI W own LZ nx kb' k Q) (LR W k Q) (f+1)) s₃:=by
 induction h with
 |mk ρ' J' S₃ j₃ e₃=>
  refine Wn (hb (W.held S₃) ρ' J' s₃ _ S₃.WU e₃) (λf' s₄ h₄=>?_) λb b z=>z;refine bI h₄ λJ₄ ρ₄ z3=>?_;have q:=z3.2;have y:=Cn.Zg hn S₃ z3.1;induction f' with
  |next=>exact⟨f,Na _,i+1,ρ₄,J₄,y.1,hJ _ _ _ y.2 j₃,q⟩
  |cont=>exact⟨f,Na _,i+1,ρ₄,J₄,y.1,hJ _ _ _ y.2 j₃,q⟩
  |brk=>exact⟨J₄,ρ₄,y.1.st,q⟩
  |ret v=>exact⟨J₄,ρ₄,y.1.st,q⟩
theorem zO{it:Me}(hn:∀a∈own,¬W.Φ.fr a)(hJ:∀i h h',(∀a∈own,h'.get? a=h.get? a)->LZ i h->LZ i h')(hb:cm X body .Wz kb)(h:LG W nx kb' k Q (f+1) i ρ J)(z:Dl W own it target nx kb' kb LZ i ρ J s):W.wp (QD it) (FQ (Mk W.Z.prog W.Z.w) W.A W.env target it body [] (LI W own LZ nx kb' k Q) (LR W k Q) (f+1)) s:=by
 induction z with
 |Yp e q=>
  have d:W.ex k [] ρ J Q:=h.elim (·.2) λ⟨vs,z,_⟩=>by rw[e] at z;cases z
  exact Wn q (λr s₁ hr=>by rw[hr.1];exact of (Qh ⟨J,ρ,hr.2,d⟩)) λb b z=>z
 |odd e=>
  rcases h with h|⟨vs,z,_⟩;·rw[e] at h;cases h.1
  ·rw[e] at z;cases z
 |Yu vs e q=>
  have d:W.ex kb' vs ρ J (s9 (LG W nx kb' k Q f (i+1)) (λρ' J'=>W.ex k [] ρ' J' Q) λv J'=>Q (.ret v) J'):=h.elim (λz=>by rw[e] at z;cases z.1) λ⟨us,z,t⟩=>by rw[e] at z;cases z;exact t
  refine Wn (q _ d) (λr s₁ hr=>?_) λb b z=>z;refine ae hr λv z2=>?_;rw[z2.1];exact Wn z2.2 (λb s₂ h₂=>Wn h₂ (λb s₃ h₃=>Ak hn hJ hb h₃) λb b z=>z) λb b z=>z
theorem ET{it:Me}(hn:∀a∈own,¬W.Φ.fr a)(LZ:Nat->Oy->Prop)(hJ:∀i h h',(∀a∈own,h'.get? a=h.get? a)->LZ i h->LZ i h')(hb:cm X body .Wz kb)(next:∀i ρ J s,W.Sp own J ρ s->LZ i s.heap->Dl W own it target nx kb' kb LZ i ρ J s)(S:W.Sp own J ρ s)(j:LZ i s.heap)(h:LG W nx kb' k Q f i ρ J):Wx (Mk W.Z.prog W.Z.w) W.A (.forLoop target it body [] W.env) (LR W k Q) s:=
 YL (LI W own LZ nx kb' k Q) (λf s hI=>by
  induction hI with
  |mk i ρ J S j h=>
   induction f with
   |zero=>exact h.elim
   |succ f=>exact zO hn hJ hb h (next i ρ J s S j)) f ⟨i,ρ,J,S,j,h⟩
theorem Gz{kt:T}{LZ:Oy->Prop}(hn:∀a∈own,¬W.Φ.fr a)(hA:uI X t k kt)(S:W.Sp own J ρ s)(hJ:∀h',(∀a∈own,h'.get? a=s.heap.get? a)->LZ h')(e:W.ex kt [er v] ρ J Q):W.wp (Rc t W.env v) (λb=>W.TN own LZ k Q) s:=
 Wn (hA.2 (W.held S) _ _ _ _ _ v S.WU e) (λb s' h'=>by induction h' with|mk ρ' J' x' e'=>exact⟨ρ',J',(Cn.Zg hn S x').1,hJ _ (Cn.Zg hn S x').2,e'⟩) λb b z=>z
inductive Got(it:Ml)(LZ:Nat->Oy->Prop)(i:Nat)(u:Me)(s:Mn)(r:Option Me)(s':Mn):Prop
 |mk (v:Me) (h':Oy) (t:Nat):r=Md v->er v=u->s'={s with heap:=h',toks:=t}->LZ (i+1) h'->ND it s.heap h'->Got it LZ i u s r s'
inductive ze(it:Ml)(s:Mn)(r:Option Me)(s':Mn):Prop
 |mk (h':Oy):r=Mr->s'={s with heap:=h'}->Heap.ExtBut it s.heap h'->ze it s r s'
inductive yv(W:Cn X)(it:Ml)(nx:Nx)(LZ:Nat->Oy->Prop)(i:Nat)(J:Sg)(s:Mn):Prop
 |Yp:nx i J=Md Mr->W.wp (QD (.ref it)) (ze it s) s->yv W it nx LZ i J s
 |Yu (u:Me):nx i J=Md (Md [u])->W.wp (QD (.ref it)) (Got it LZ i u s) s->yv W it nx LZ i J s
 |odd:nx i J=Mr->yv W it nx LZ i J s
theorem y9{U:String}(hU:["enumerate", "zip", "dict_itemiterator", "dict_reverseitemiterator", "odict_iterator", "itertools.zip_longest", "itertools.pairwise"].contains U=Mh)(hA:uI X target kb kb')(hb:cm X body .Wz kb)(LZ:Nat->Oy->Prop)(hJ:∀i h h',h'.get? it=h.get? it->LZ i h->LZ i h')(hC:∀i h,LZ i h->∃o:P9,h.get? it=Md o/\o.cls=.type U)(next:∀i ρ J s,W.Sp [it] J ρ s->LZ i s.heap->yv W it nx LZ i J s)(x:W.St J ρ s)(hit:it=s.heap.objs.size)(ho:o.isFreed=Mh){t:Nat}(j:LZ 0 (s.heap.push o))(h:LG W nx kb' k Q f 0 ρ J):Wx (Mk W.Z.prog W.Z.w) W.A (.forLoop target (.ref it) body [] W.env) (LR W k Q) {s with heap:=s.heap.push o,toks:=t}:=by
 subst hit;refine ET x.ZK LZ (λi h h' e=>hJ i h h' (e _ (MN.mpr rfl))) hb (λi ρ J s' S j=>?_) (x.aa6 ho) j h;have zqi:_:=next i ρ J s' S j
 induction zqi with
 |Yp e q=>exact .Yp e (Wn q (λr s₁ hq=>by induction hq with|mk h' hr e he=>exact⟨hr,by rw[e];exact S.Wt (t:=s'.toks) x.ZK λb o hb=>he b o λz=>hb (MN.mpr z)⟩) λa a z=>z)
 |odd e=>exact .odd e
 |Yu u e q=>
  refine .Yu _ e λQ e=>Wn q (λr s₁ hq=>?_) λa a z=>z;induction hq with
  |mk v h' t hr hu e1 j' hs=>subst e1 hu;refine ae (hC _ _ j') λoi z1=>?_;exact⟨v,hr,ZR z1.1 z1.2 hU (Gz x.ZK hA (S.but (MN.mpr rfl) hs ⟨oi,z1.1⟩) (λh'' hh=>hJ _ _ _ (hh _ (MN.mpr rfl)) j') e)⟩
end
end Wc
variable{v:MY}{r:Ml}{N:Nat}{down:Bool}
namespace Wc
section
variable{X:CX}{W:Cn X}{k kb kb' c c1 c2:T}
theorem qE(a b:Int)(down:Bool)(i:Nat):(cW (if down then eH a b else aQ a b))[i]?=if i<(Nd a b (if down then -1 else 1)).toNat then Md (.int (a+i*(if down then -1 else 1)) 0) else none:=by
 have e:∀(m:Nat)(f:Nat->Int),(cW ((Oi m).map f))[i]?=if i<m then Md (.int (f i) 0) else none:=λm f=>by
  unfold cW;rw[OY,MM];by_cases q:i<m;·rw[Nv q,if_pos q];rfl
  ·rw[M0 (by rw[NK];exact PG.mp q),if_neg q];rfl
 induction down with
 |true=>exact(e _ _).trans (by rw[if_pos rfl,pg,MO,Int.mul_neg,RB];rfl)
 |false=>exact(e _ _).trans (by rw[if_neg O3,wl,MO,RB])
theorem mO{c a:Int}(hc:c=1∨c=-1):0<=Nd a b c:=by
 rcases hc with rfl|rfl;·rw[wl];exact Mt _
 ·rw[pg];exact Mt _
abbrev RJ(it:Ml)(a c:Int)(N:Nat)(i:Nat)(h:Oy):Prop:=i<=N/\IsRangeIter h it (a+i*c) ((N-i:Nat):Int) c
theorem mZ{a c:Int}(hn:nx i J=Md ((if i<N then Md (.int (a+i*c) 0) else Mr).map λv=>[v]))(h:RJ it a c N i s.heap):yv W it nx (RJ it a c N) i J s:=by
 by_cases q:i<N
 ·refine .Yu (.int (a+i*c) 0) (by rw[hn,if_pos q];rfl) (of (wpAny_pyNext_range_item h.2 (ao 0x845080007a5504cfa3b2a12095c090f [] [_,_,_] q (Mf (af Kx [] [_,_] q))) λh' hi' hs'=>⟨_,h',_,rfl,rfl,rfl,⟨q,?_⟩,hs'⟩));have e1:((N-(i+1):Nat):Int)=((N-i:Nat):Int)-1:=ao 0x108a10800f423840003da9508d2a41a890ae09bb4ae2b8f6e2a22 [] [_,_,_,_] (Mf (af KB [] [_,_] q)) (Mf (af Kx [] [_,_] q));have e2:a+((i+1:Nat):Int)*c=a+i*c+c:=by rw[Uj,Ta,<-To];exact congrArg _ (Pz c)
  rw[e1,e2];exact hi'
 ·exact .Yp (by rw[hn,if_neg q];rfl) (of (wpAny_pyNext_range_end W.hr.2.2.1 h.2 (af 0x84000270542ee280e [] [_] (Um (af 0x840002750930954130f [] [_,_] q))) λh' he=>⟨h',rfl,rfl,he⟩))
theorem kF{a c:Int}(hz:0<=Nd a b c):RJ s.heap.objs.size a c (Nd a b c).toNat 0 (s.heap.push {cls:=.type "range_iterator",data:=.fields #[Wd a,Wd (Nd a b c),Wd c]}):=by refine⟨Nc _,?_⟩;rw[Vu,MF hz,show a+((0:Nat):Int)*c=a by rw[Int.natCast_zero,Vl,PF]];exact MS _ rfl
theorem uo(hy:X.scope.names.lookup y=Md .local)(h0:enc y≠0)(hb:cm X body .Wz kb){a:Int}{t u v:Ug}(x:W.St J ρ s)(hr:IsRange s.heap r a b (if down then -1 else 1) t u v)(h1:-1000000<=a)(h2:a<=1000000)(h3:-1000000<=b)(h4:b<=1000000)(h:LG W (Ax (cW (if down then eH a b else aQ a b))) (.st (enc y) kb) k Q f 0 ρ J):W.wp (Tr (.ref r)) (λit=>Wx (Mk W.Z.prog W.Z.w) W.A (.forLoop (.Name y p) it body [] W.env) (LR W k Q)) s:=by
 have hc:(if down then(-1:Int) else 1)=1∨(if down then(-1:Int) else 1)=-1:=by
  cases down;·exact .inl rfl
  ·exact .inr rfl
 exact of (wpAny_pyIter_range hr (nY hc h1 h2 h3 h4) (y9 (U:="range_iterator") (t:=s.toks) (by decide) (Ep hy h0) hb (RJ _ a _ _) (λi h h' e z=>⟨z.1,e.trans z.2⟩) (λi h z=>⟨_,z.2,rfl⟩)
  (λi ρ J s' S z=>mZ (by rw[<-qE];rfl) z) x rfl rfl (kF (mO hc)) h))
theorem BC{sel:Cell->Option (List Me)}{cl:Cell}(h:J a=Md cl)(hs:sel cl=Md xs)(z:ys.toList.map er=xs)(i:Nat):rS sel a i J=Md ((ys[i]?).map λv=>[er v]):=by unfold rS;rw[h,NI,hs,<-z,Pc,MM,Om];cases ys[i]?<;>rfl
theorem mH{sel:Cell->Option (List Me)}{U:String}(hx:∀xs,(J a).bind sel=Md xs->nI s.heap U a xs)(hend:∀ys n,s.heap.get? a=Md (⟨.type U,Mr,.seq ys n,#[]⟩:P9)->ys[i]?=Mr->W.wp (QD (.ref it)) (ze it s) s)(hitem:∀ys n v,s.heap.get? a=Md (⟨.type U,Mr,.seq ys n,#[]⟩:P9)->ys[i]?=Md v->W.wp (QD (.ref it)) (Got it LZ i (er v) s) s):yv W it (rS sel a) LZ i J s:=by
 cases hc:(J a).bind sel with
 |none=>exact .odd (by unfold rS;rw[hc];rfl)
 |some xs=>
  obtain⟨ys,n,z1,z2,_⟩:=hx xs hc;refine ae (Mz.mp hc) λcl z16=>?_;obtain⟨h1,h2⟩:=z16;have e:=BC h1 h2 z2 i;cases hq:ys[i]? with
  |none=>rw[hq] at e;exact .Yp e (hend ys n z1 hq)
  |some v=>rw[hq] at e;exact .Yu _ e (hitem ys n v z1 hq)
theorem ue{own:List Ml}(S:W.Sp own J ρ s)(j:s.heap.IsListIter it a i):yv W it (rS WY a) (λi h=>h.IsListIter it a i) i J s:=
 mH (λxs e=>aw S.st (jK e)) (λys n z1 q=>of (Q5 W.hr.2.2.1 j ⟨_,z1,rfl,n,rfl⟩ q λh' he=>⟨h',rfl,rfl,he⟩))
  λys n v z1 q=>of (QZ j ⟨_,z1,rfl,n,rfl⟩ q λh' j' hs=>⟨v,h',s.toks,rfl,rfl,rfl,j',hs⟩)
theorem xO(hA:uI X target kb kb')(hb:cm X body .Wz kb)(x:W.St J ρ s)(ha:J a=Md (.list xs))(h:LG W (rS WY a) kb' k Q f 0 ρ J):W.wp (Tr (.ref a)) (λit=>Wx (Mk W.Z.prog W.Z.w) W.A (.forLoop target it body [] W.env) (LR W k Q)) s:=by obtain⟨ys,n,z1,z2,_⟩:=aw x ha;exact of (P6 ⟨_,z1,rfl,n,rfl⟩ (y9 (U:="list_iterator") (t:=s.toks) (by decide) hA hb (λi h=>h.IsListIter s.heap.objs.size a i) (λi h h' e ⟨o,q⟩=>⟨o,e.trans q.1,q.2⟩) (λi h ⟨o,q⟩=>⟨o,q.1,q.2.1⟩) (λi ρ J s' S j=>ue S j) x rfl rfl ⟨_,MS _ rfl,rfl,rfl⟩ h))
theorem zZ{c:Option Cell}(h:c.bind qX=Md xs):c=Md (.tup xs):=by refine ae (Mz.mp h) λc z15=>?_;obtain⟨rfl,h⟩:=z15;cases c<;>cases h;rfl
theorem zF(hA:uI X target kb kb')(hb:cm X body .Wz kb)(x:W.St J ρ s)(ha:J a=Md (.tup xs))(h:LG W (rS qX a) kb' k Q f 0 ρ J):W.wp (Tr (.ref a)) (λit=>Wx (Mk W.Z.prog W.Z.w) W.A (.forLoop target it body [] W.env) (LR W k Q)) s:=by
 obtain⟨ys,n,z1,z2,_⟩:=bD x ha;exact of (wpAny_pyIter_tuple ⟨_,z1,rfl,n,rfl⟩ (y9 (U:="tuple_iterator") (t:=s.toks) (by decide) hA hb (λi h=>h.IsTupleIter s.heap.objs.size a i) (λi h h' e ⟨o,q⟩=>⟨o,e.trans q.1,q.2⟩) (λi h ⟨o,q⟩=>⟨o,q.1,q.2.1⟩)
  (λi ρ J s' S j=>mH (λxs e=>bD S.st (zZ e)) (λys n z1 q=>of (wpAny_pyNext_tuple_end W.hr.2.2.1 j ⟨_,z1,rfl,n,rfl⟩ q λh' he=>⟨h',rfl,rfl,he⟩))
   λys n v z1 q=>of (wpAny_pyNext_tuple_item j ⟨_,z1,rfl,n,rfl⟩ q λh' j' hs=>⟨v,h',s'.toks,rfl,rfl,rfl,j',hs⟩)) x rfl rfl ⟨_,MS _ rfl,rfl,rfl⟩ h))
theorem xC{c:Option Cell}{m:List (Int×Me)}(h:c.bind Yv=Md m):c=Md (.W9 m):=by refine ae (Mz.mp h) λc z14=>?_;obtain⟨rfl,h⟩:=z14;cases c<;>cases h;rfl
theorem vg{own:List Ml}(S:W.Sp own J ρ s)(j:s.heap.IsKeyIter it a i N N):yv W it (CJ a N) (λi h=>h.IsKeyIter it a i N N) i J s:=by
 cases hc:(J a).bind Yv with
 |none=>exact .odd (by unfold CJ;rw[hc];rfl)
 |some m=>
  have e:CJ a N i J=if m.length=N then Md ((m[i]?).map λp=>[.int p.1 0]) else none:=by unfold CJ;rw[hc];rfl
  by_cases hl:m.length=N
  ·rw[if_pos hl] at e;refine ae (de S.st (xC hc)) λkvs z13=>?_;have hl1:kvs.length=N:=by rw[<-hl,<-z13.2,Mu]
   rw[<-z13.2,MM] at e;subst hl1;cases hq:kvs[i]? with
   |none=>rw[hq] at e;exact .Yp e (of (wpAny_pyNext_dict_end W.hr.2.2.1 j (z13.1.at W.Z.prog W.Z.w) hq λh' he=>⟨h',rfl,rfl,he⟩))
   |some p=>
    rw[hq] at e;refine .Yu (.int p.1 0) e (of (wpAny_pyNext_dict_item j (z13.1.at W.Z.prog W.Z.w) hq λkey h' hkey j' hs=>⟨key,h',s.toks,rfl,?_,rfl,j',hs⟩));induction key with
    |int z t=>rw[(Se W.Z.prog W.Z.w).inj (.int z t) z p.1 (Sy _ _ z t) hkey];rfl
    |_=>cases hkey
  ·rw[if_neg hl] at e;exact .odd e
theorem vG(hA:uI X target kb kb')(hb:cm X body .Wz kb){m:List (Int×Me)}(x:W.St J ρ s)(ha:J a=Md (.W9 m))(h:LG W (CJ a m.length) kb' k Q f 0 ρ J):W.wp (Tr (.ref a)) (λit=>Wx (Mk W.Z.prog W.Z.w) W.A (.forLoop target it body [] W.env) (LR W k Q)) s:=by
 refine ae (de x ha) λkvs z12=>?_;have hl0:kvs.length=m.length:=by rw[<-z12.2,Mu]
 refine of (wpAny_pyIter_dict (x.sysm W.B W.hb ha) (z12.1.at W.Z.prog W.Z.w) ?_);rw[hl0];exact y9 (U:="dict_keyiterator") (t:=s.toks) (by decide) hA hb (λi h=>h.IsKeyIter s.heap.objs.size a i m.length m.length) (λi h h' e ⟨o,q⟩=>⟨o,e.trans q.1,q.2⟩) (λi h ⟨o,q⟩=>⟨o,q.1,q.2.1⟩) (λi ρ J s' S j=>vg S j) x rfl rfl ⟨_,MS _ rfl,rfl,rfl⟩ h
theorem AD{i:MY}(hs:YD i=Mh)(hA:uI X target kb kb')(hb:cm X body .Wz kb)(hi:aP X i (.WA .seq kb' k) c):iU X (.For target i body [] pos) k c:=λW ρ J s Q x e=>
 XJ (Cn.step (hi W _ _ _ [] _ x e) λv J s x e=>by
  refine ga e λst' nx f z11=>?_;obtain rfl:=z11.1.1;refine ae (f8.inv z11.1.2) λa z10=>?_;rw[z10.1];obtain⟨⟨xs,ha⟩,rfl⟩|⟨⟨xs,ha⟩,rfl⟩:=z10.2
  ·exact xO hA hb x ha z11.2
  ·exact zF hA hb x ha z11.2) (iD hs)
theorem C6{i:MY}(hs:YD i=Mh)(hA:uI X target kb kb')(hb:cm X body .Wz kb)(hi:aP X i (.WA .keys kb' k) c):iU X (.For target i body [] pos) k c:=λW ρ J s Q x e=>
 XJ (Cn.step (hi W _ _ _ [] _ x e) λv J s x e=>by refine ga e λst' nx f z9=>?_;obtain rfl:=z9.1.1;refine ae (f8.inv z9.1.2) λa z7=>?_;rw[z7.1];refine ae z7.2 λm z8=>?_;obtain rfl:=z8.2;exact vG hA hb x z8.1 z9.2) (iD hs)
inductive FR(W:Cn X)(y:Np)(p:Qw)(body:List OO)(k:T)(Q:Out->Sg->Prop)(down:Bool)(va vb:Me)(s:Mn):Prop
 |mk (a b:Int) (t u:Ug):va=.int a t->vb=.int b u->(∀(t u v:Ug)(tk:Nat),W.wp (Tr (.ref s.heap.objs.size)) (λit=>Wx (Mk W.Z.prog W.Z.w) W.A (.forLoop (.Name y p) it body [] W.env) (LR W k Q))
   {s with heap:=s.heap.push {cls:=.type "range",data:=.fields #[.int a t,.int b u,.int (if down then -1 else 1) v]},toks:=tk})->FR W y p body k Q down va vb s
theorem pA(p:Qw)(hy:X.scope.names.lookup y=Md .local)(h0:enc y≠0)(hb:cm X body .Wz kb){va vb:Me}(x:W.St J ρ s)(e:W.ex (.WA (.rng down) (.st (enc y) kb) k) [er vb,er va] ρ J Q):FR W y p body k Q down va vb s:=by refine ga e λst' nx f z6=>?_;obtain rfl:=z6.1.1;refine vr (ints.inv z6.1.2) λa t b u z5=>?_;obtain rfl:=z5.2.2.2;exact⟨a,b,t,u,z5.1,z5.2.1,λt u v tk=>uo hy h0 hb (x.Wy _ tk) (MS _ rfl) z5.2.2.1.1 z5.2.2.1.2.1 z5.2.2.1.2.2.1 z5.2.2.1.2.2.2 z6.2⟩
theorem By{g:Np}{gp q:Qw}{a:MY}(hg:ax X g (.type "range")/\dn g)(hy:X.scope.names.lookup y=Md .local)(h0:enc y≠0)(hb:cm X body .Wz kb)(hE:dF X [a] (.WA (.rng Mh) (.st (enc y) kb) k) c):iU X (.For (.Name y p) (.Call (.Name g gp) [a] [] pos) body [] q) k (.cst (.int 0 0) c):=λW ρ J s Q x e=>
 XJ (cN x hg λf s₁ hf x₁=>by
  rw[bK hf];exact b9 x₁ hE e (.inl λd=>nofun) λvs J' s' l x' e'=>by
   refine ae (XW l) λv z4=>?_;obtain rfl:=z4;obtain⟨a,b,t,u,ea,rfl,h⟩:=pA p hy h0 hb (va:=.int 0 0) x' e';injection ea with ea;subst ea
   exact of (call_range_1 (h _ _ _ _))) (iD rfl)
theorem BD{g:Np}{gp q:Qw}{a b:MY}(hg:ax X g (.type "range")/\dn g)(hy:X.scope.names.lookup y=Md .local)(h0:enc y≠0)(hb:cm X body .Wz kb)(hE:dF X [a,b] (.WA (.rng Mh) (.st (enc y) kb) k) c):iU X (.For (.Name y p) (.Call (.Name g gp) [a,b] [] pos) body [] q) k c:=λW ρ J s Q x e=>
 XJ (cN x hg λf s₁ hf x₁=>by rw[bK hf];exact b9 x₁ hE e (.inl λd=>nofun) λvs J' s' l x' e'=>by refine bI (dM l) λv w z3=>?_;obtain rfl:=z3;obtain⟨a,b,t,u,rfl,rfl,h⟩:=pA p hy h0 hb x' e';exact of (call_range_2 (h _ _ _ _))) (iD rfl)
theorem Bd{g:Np}{gp q:Qw}{a b d:MY}{up cp:Qw}(hd:d=.UnaryOp .USub (.Constant (.int 1) kd cp) up)(hg:ax X g (.type "range")/\dn g)(hy:X.scope.names.lookup y=Md .local)(h0:enc y≠0)(hb:cm X body .Wz kb)(hsa:Xl a=Mh)(hsb:Xl b=Mh)(h1:aP X b (.WA (.rng Mj) (.st (enc y) kb) k) c1)(h2:aP X a c1 c):iU X (.For (.Name y p) (.Call (.Name g gp) [a,b,d] [] pos) body [] q) k c:=λW ρ J s Q x e=>by subst hd;exact XJ (cN x hg λf s₁ hf x₁=>by rw[bK hf];refine dj (gq (es:=[a,b,.UnaryOp .USub (.Constant (.int 1) kd cp) up]) (by rw[PX,PX,hsa,hsb];rfl)) (λf=>nofun) (WT (Cn.step (h2 W _ _ _ [] _ x₁ e) λv f s x e=>WT (Cn.step (h1 W _ _ _ _ _ x e) λv f s x e=>?_) (bT hsb)) (bT hsa));obtain⟨a,b,t,u,rfl,rfl,h⟩:=pA p hy h0 hb (x.tk (s.toks+1)) e;exact WT (YJ (of (SJ (of (neg_int (Xd (of (call_range_3 (by decide) (h _ _ _ _) (.inl (PyProof.noPylong_small (by decide))))))))))) (bT rfl)) (iD rfl)
end
section
variable{X:CX}{k kb kb' c c1 c2 c3:T}
theorem hint(W:Cn X):Tb W.env=false:=by unfold Tb;rw[W.hE.1,W.hE.2];rfl
theorem Bl:iU X (.Pass pos) k k:=λa ρ J a a x e=>of (wpAny_Pass ⟨J,ρ,x,e⟩)
theorem zB:iU X (.Break pos) k .brk:=λa ρ J a a x e=>of (wpAny_Break ⟨J,ρ,x,e⟩)
theorem sU:iU X (.Continue pos) k .WZ:=λa ρ J a a x e=>of (wpAny_Continue ⟨J,ρ,x,e⟩)
theorem Dd:iU X (.Return Mr pos) k (.cst .none .ret):=λa ρ J a a x e=>of (wpAny_Return_none ⟨J,ρ,x,e⟩)
theorem Fh(h:aP X v .ret c):iU X (.Return (Md v) pos) k c:=λW ρ a a a x e=>X7 (Cn.step (h W _ _ _ [] _ x e) λa J a x e=>⟨J,ρ,x,e⟩)
theorem zG{e1 e2:Option MY}:iU X (.Raise e1 e2 pos) k .rai:=λa a a a a a e=>e.elim
theorem Bu(hs:UN v Mr pos.line (Xs X)=NO Mh)(h:aP X v (.pop k) c):iU X (.Expr v pos) k c:=λW ρ a a a x e=>
 YB (Cn.step (h W _ _ _ [] _ x e) λa J a x e=>⟨J,ρ,x,e⟩) (hint W) (by
  have hsc:({scope:=W.env.scope,locals:=0,globals:=0,cells:=[]}:VD)=Xs X:=by rw[W.hE.1];rfl
  exact(show UN v Mr pos.line W.env=UN v Mr pos.line {scope:=W.env.scope,locals:=0,globals:=0,cells:=[]} from rfl).trans (by rw[hsc,hs]))
theorem Bw{op:RG}{o:Op}(hy:X.scope.names.lookup y=Md .local)(h0:enc y≠0)(ho:op=rl o)(h:aP X v (.iop o (.st (enc y) k)) c):iU X (.AugAssign (.Name y p) op v pos) k (.ld (enc y) c):=λW ρ J s Q x e=>by refine ae e λu z5=>?_;have hu:=z5.1;have e:=z5.2;exact YI (of (Cn.ld x hy hu λold ho'=>Cn.step (h W _ _ _ [er old] _ x (by rw[ho'];exact e)) λa a a x e=>Cn.step (of (ya x ho e)) λa J a x e=>of (gy W.hE hy h0 x.sp λa S a=>⟨J,_,S.st,e⟩)))
theorem Bn{ob:MY}{a:Np}{op:RG}{o:Op}(h0:enc a≠0)(ho:op=rl o)(h1:aP X v (.iop o (.W8 (.XD (enc a) k))) c1)(h2:aP X ob (.dup (.fld (enc a) c1)) c):iU X (.AugAssign (.Attribute ob a p) op v pos) k c:=λW ρ J s Q x e=>
 XR (Cn.step (h2 W _ _ _ [] _ x e) λb b b x e=>Cn.step (of (tw W.B W.hb x h0 e)) λb b b x e=>Cn.step (h1 W _ _ _ _ _ x e) λb b b x e=>Cn.step (of (ya x ho e)) λb b b x e=>
  Cn.aac (of (tI W.B W.hb x h0 e)) λb J b x e=>⟨J,ρ,x,e⟩)
theorem qp{W:Cn X}{f:T8}{s':Mn}(h:j2 W.Z W.Φ W.L (CU (λρ' J'=>W.ex k [] ρ' J' Q) Q) (λρ' J'=>W.ex .Wz [] ρ' J' (CU (λρ' J'=>W.ex k [] ρ' J' Q) Q)) f s'):j2 W.Z W.Φ W.L Q (λρ' J'=>W.ex k [] ρ' J' Q) f s':=by refine bI h λJ' ρ' z4=>?_;cases f<;>exact⟨J',ρ',z4.1,z4.2⟩
theorem Fo{a b:List OO}(ht:rj X t c1 c2 c)(h1:cm X a .Wz c1)(h2:cm X b .Wz c2):iU X (.If t a b pos) k (.seq c k):=λW ρ J s Q x e=>
 ZP (Cn.XA (ht W _ _ _ [] _ x e) (λd d x e=>Wn (h1 W _ _ _ _ x e) (λd d h=>qp h) λd d z=>z) λd d x e=>Wn (h2 W _ _ _ _ x e) (λd d h=>qp h) λd d z=>z)
theorem yP{b:List OO}(hb:cm X b .Wz kb)(ht:rj X t kb .brk c):iU X (.While t b [] pos) k (.whl c k):=λW ρ J s Q x e=>by
 refine ae e λf h=>?_;refine ZT (Y2 (λf s=>bM λρ J=>W.St J ρ s/\zp (λρ J Q'=>W.ex c [] ρ J Q') (λρ' J'=>W.ex k [] ρ' J' Q) (λv J'=>Q (.ret v) J') f ρ J) (λf s h=>?_) f ⟨ρ,J,x,h⟩);refine bI h λρ J z3=>?_;have x:=z3.1;induction f with
 |zero=>exact z3.2.elim
 |succ f=>
  refine Cn.XA (ht W _ _ _ [] _ x z3.2) (λa a x e=>Wn (hb W _ _ _ _ x e) (λfl s' q=>?_) λa a z=>z) λJ a x e=>of (Qh ⟨J,ρ,x,e⟩);refine bI q λJ ρ z2=>?_;have x:=z2.1;have q:=z2.2;induction fl with
  |next=>exact⟨f,Na _,ρ,J,x,q⟩
  |cont=>exact⟨f,Na _,ρ,J,x,q⟩
  |brk=>exact⟨J,ρ,x,q⟩
  |ret v=>exact⟨J,ρ,x,q⟩
theorem GJ:cm X [] k k:=λa ρ J a a x e=>of (Qh ⟨J,ρ,x,e⟩)
theorem GZ{t:OO}{ts:List OO}(h1:cm X ts k c1)(h2:iU X t c1 c):cm X (t::ts) k c:=λW ρ J s Q x e=>
 WL (Wn (h2 W _ _ _ _ x e) (λf s₁ h₁=>by
  induction f with
  |next=>refine bI h₁ λJ ρ z1=>?_;exact h1 W ρ J s₁ Q z1.1 z1.2
  |_=>exact h₁) λa a z=>z)
end
end Wc
namespace Cn
inductive PP{X:CX}(W:Cn X)(d:Ml)(h₀:Oy)(ρ:Loc)(xs:List Np)(k:T)(st:List Me)(Q:Out->Sg->Prop)(prs:List (Me×Me))(s:Mn):Prop
 |mk (us:List Me) (J:Sg):us.length=xs.length->W.Sp [d] J ρ s->s.heap.get? d=h₀.get? d->Carries (V5 W.Z.prog W.Z.w) prs (xs.zip us)->W.ex k ((us.map er).reverse++st) ρ J Q->PP W d h₀ ρ xs k st Q prs s
end Cn
inductive wh(X:CX)(ks:List (Option MY))(vs:List MY)(xs:List Np)(k c:T):Prop where
 |mk (l1:ks.length=vs.length)
  (l2:xs.length=ks.length)
  (some:ks.all (·.isSome)=Mj)
  (ok:∀(W:Cn X)(d:Ml)(ρ:Loc)(J:Sg)(s:Mn)(st:List Me)(Q:Out->Sg->Prop)(pos:Qw),¬W.Φ.fr d->W.Sp [d] J ρ s->W.ex c st ρ J Q->W.wp (US (pairTrees ks vs W.env pos)) (W.PP d s.heap ρ xs k st Q) s)
namespace Wc
theorem Zr{k v:RW Me}{rest:List (RW Me×RW Me)}{Q:List (Me×Me)->Mn->Prop}(h:Wj (Mk prog w) A k (λkv s₁=>Wj (Mk prog w) A v (λvv s₂=>Wj (Mk prog w) A (US rest) (λvs s₃=>Q ((kv,vv)::vs) s₃) E s₂) E s₁) E s):Wj (Mk prog w) A (US ((k,v)::rest)) Q E s:=by rw[US];refine Wi (Wn h (λkv s₁ h₁=>?_) λa a e=>e);refine Wi (Wo (Wn h₁ (λvv s₂ h₂=>?_) λa a e=>e));exact Wi (Wo (Wn h₂ (λvs s₃ h₃=>wpAny_pure h₃) λa a e=>e))
section
variable{X:CX}{k c c1:T}{dp:Qw}{ks:List (Option MY)}{xs:List Np}
theorem GE:wh X [] [] [] k k:=⟨rfl,rfl,rfl,λW d ρ J s st Q pos hd S e=>of (evalPairs_nil ⟨[],J,rfl,S,rfl,trivial,e⟩)⟩
theorem Gd(H:wh X ks vs xs k c1)(h:aP X v c1 c):wh X (Md (.Constant (.str x) kd p)::ks) (v::vs) (x::xs) k c:=
 ⟨congrArg (·+1) H.1,congrArg (·+1) H.2,H.3,λW d ρ J s st Q pos hd S e=>by
  have hn:∀a∈[d],¬W.Φ.fr a:=λa ha=>by rw[MN.mp ha];exact hd
  show W.wp (US ((NW (.Constant (.str x) kd p) W.env,(do let y <-NW v W.env;OW pos;NO y))::pairTrees ks vs W.env pos)) _ _;refine Zr (of (SK (Wi (Cn.aa8 hn h (S.tk (s.toks+1)) e λu J' s' S' k' e'=>Wi (Wq (wpAny_pure (Wn (H.4 W d ρ J' s' _ Q pos hd S' e') (λprs s'' z=>?_) λb b z=>z)))))));induction z with
  |mk us J'' l S'' k'' car e''=>exact⟨u::us,J'',congrArg (·+1) l,S'',k''.trans (k' d (MN.mpr rfl)),⟨strKind_is _ _ _ _,rfl,car⟩,by rw[Nn,P5,NJ];exact e''⟩⟩
theorem qO(i:Np):∀(xs:List Np)(us:List Me){p:Me×Me},((xs.map λx=>Q8 x 0).zip (us.map er)).find? (λp=>p.1==.str i 0)=Md p->∃u,er u=p.2/\(xs.zip us).find? (λkv=>kv.1=i)=Md (i,u)
 |[],_,_,h=>by cases h
 |x::xs,[],p,h=>by cases h
 |x::xs,u::us,p,h=>by
  rw[Nn,Nn,OI,PW] at h;rw[OI,PW];by_cases hxi:x=i;·subst hxi;rw[show((Q8 x 0)==(Q8 x 0))=Mj from beq_self_eq_true _] at h;rw[<-MJ h];exact⟨u,rfl,by rw[decide_eq_true rfl]⟩
  ·rw[show((Q8 x 0)==(Q8 i 0))=Mh from beq_eq_false_iff_ne.mpr λq=>hxi (by injection q)] at h;refine ae (qO i xs us h) λu' z14=>?_;exact⟨u',z14.1,by rw[decide_eq_false hxi];exact z14.2⟩
theorem EA{i:MY}(H:wh X ks vs xs c1 c)(hnd:xs.Nodup)(hlen:ks.length<=15)(h0:ks.isEmpty=Mh)(hs:dA i=Mh)(hi:aP X i (.sel (xs.map λx=>.str x 0) k) c1):aP X (.Subscript (.Dict ks vs dp) i pos) k c:=λW ρ J s st Q x e=>by
 have hn:=pairTrees_length ks vs W.env dp H.3 H.1;have l1:=H.1;have l2:=H.2;refine Yb ?_;rw[arm_eval_Dict,zip_pairTrees ks vs W.env dp H.3 H.1,dictDisplay_pairs _ (by intro q;rw[q] at hn;simp at hn;rw[PC hn.symm] at h0;cases h0) (ao 0x843080007aa0a87f8a118a4441413 [] [_,_] hlen hn)];refine Wi (Wq (Wi ?_));unfold subDict;refine Wi (of (wpAny_alloc (Wi (Wo ?_))));rw[if_pos (Nk (Ot hn) hlen)];have hd0:(s.heap.push {cls:=.type "dict",data:=.dict #[]}).get? s.heap.objs.size=Md {cls:=.type "dict",data:=.dict #[]}:=MS _ rfl;have hf:=x.X1 (MD _);refine Wi (Wn (H.4 W _ ρ J _ st Q dp hf (x.aa6 (t:=s.toks) rfl) e) (λprs s₁ h₁=>?_) λa a z=>z);induction h₁ with
 |mk us J₁ hul S₁ k₁ hcar e₁=>
  have hD0:s₁.heap.DictOf (V5 W.Z.prog W.Z.w) s.heap.objs.size []:=by refine ae (Heap.DictOf.new (knd:=V5 W.Z.prog W.Z.w) s.heap) λo z11=>?_;refine ae z11 λes z12=>?_;refine ae z12 λep z13=>?_;have q:=z13.1;have r:=z13.2;exact⟨o,es,ep,k₁.trans q,r⟩
  have hzl:(xs.zip us).length<=15:=by rw[List.length_zip];exact aS 0x108e10c200029941310a90b44bc508c53c41312 [] [_,_,_] hlen l2 (OS _ _)
  refine Wo (of (Mg (wpAny_storeAll (knd:=V5 W.Z.prog W.Z.w) prs (xs.zip us) [] s₁ _ hcar hD0 (by rw[NL];simp;exact aS 0x211c21840005328262152168978a118a400000041327 [] [_,_,_] hlen l2 (OS _ _)) λh' hD hs'=>MC (wpAny_pure (wpAny_pure ?_)))));rw[merged_nil_of_nodup _ (by rw[Rg (af 0x1084004ea1287d4130f [] [_,_] hul)];exact hnd)] at hD;have S₂:W.Sp [s.heap.objs.size] J₁ ρ {s₁ with heap:=h',toks:=s₁.toks+prs.length}:=S₁.but (MN.mpr rfl) hs' (by refine ae hD λo z8=>?_;refine ae z8 λes z9=>?_;refine ae z9 λep z10=>?_;obtain⟨q,r⟩:=z10;exact⟨o,q⟩);refine Cn.aa8 (own:=[s.heap.objs.size]) (λa ha=>by rw[MN.mp ha];exact hf) hi S₂ e₁ λkv J₃ s₃ S₄ k₄ e₃=>?_;refine ga e₃ λus' st' p z7=>?_;have ht:=z7.1;have hp:=z7.2.1;rw[eU (by rw[Mu,Mu];exact hul)] at ht;cases ht;obtain⟨y,hy⟩:∃y,er kv=.str y 0:=by have h3:=List.mem_of_find?_eq_some hp;refine ae (NF.mp (Uk (show(p.1,p.2)∈_ from h3)).1) λy z6=>?_;obtain⟨_,q⟩:=z6;have h1:=List.find?_some hp;exact⟨y,(beq_iff_eq.mp h1).symm.trans q.symm⟩
  rw[hy] at hp;refine Yz hy λt2=>?_;refine ae (qO y xs us hp) λu z4=>?_;have hD':s₃.heap.DictOf (V5 W.Z.prog W.Z.w) s.heap.objs.size (xs.zip us):=by refine ae hD λo z1=>?_;refine ae z1 λes z2=>?_;refine ae z2 λep z3=>?_;have q:=z3.1;have r:=z3.2;exact⟨o,es,ep,(k₄ _ (MN.mpr rfl)).trans q,r⟩
  have hv:valueAt (xs.zip us) y=Md u:=by unfold valueAt;rw[z4.2];rfl
  exact of (TQ hD'.typeIs slot_dict_getitem.lookup (wpAny_getItem_of (strKind_is _ _ y t2) hD'.mapOf hv ⟨J₃,(S₄.st).tk _,by rw[z4.1];exact z7.2.2⟩) (jX hs))
end
end Wc
theorem rx(names:List (Np×RM))(g:Np->RM->RM)(x:Np):(names.map λp=>(p.1,g p.1 p.2)).lookup x=(names.lookup x).map (g x):=by
 induction names with
 |nil=>rfl
 |cons p r ih=>
  obtain⟨y,k⟩:=p;rw[Nn,Ox,Ox];by_cases h:x=y;·subst h;simp
  ·have e:(x==y)=false:=beq_eq_false_iff_ne.mpr h;simp only[e];exact ih
variable{v:Me}{Q:Me->Mn->Prop}{D:List Me->Sg->Prop}{elt iter:MY}{ifs:List MY}{scope:O2}{X':CX}{s₁:Mn}
namespace Wc
theorem Yr{x left step:Int}(hit:IsRangeIter s.heap it x left step)(h:Q (.ref it) s):My (Mk prog w) A (Tr (.ref it)) Q E s:=by have hT:s.TypeIs (.ref it) "range_iterator":=⟨_,hit,rfl⟩;refine wpAny_pyIter_slot hT SO (Pr (b:=Builtin.«dict_keyiterator.__iter__») SO hT (entryFor_alias (id':="dict_keyiterator.__iter__") (by kernel_rfl) (by first|rfl|decide +kernel) (by decide +kernel) (by kernel_rfl)) ?_ (F.args_range_iterator_iter_1 _));show My _ _ (ret (.ref it)) _ _ s;exact MC ⟨_,rfl, "range_iterator",_,hT,F.slot_range_iterator_next.lookup,h⟩
theorem aal{p:Ml}{m1:Nat}(z1:s.heap.get? p=Md (⟨.type "list",Mr,.seq zs m1,#[]⟩:P9))(hz:zs.size<=1000000)(h:∀h' m2,h'.get? p=Md (⟨.type "list",Mr,.seq (zs.push v) m2,#[]⟩:P9)->ND p s.heap h'->Q .none {s with heap:=h'}):My (Mk prog w) A (OH (.builtin "list.append") [.ref p,v]) Q E s:=by
 have hz':zs.size<=sizeLine:=by rw[NL];exact c6 hz rfl
 refine Vd TR ⟨_,z1,rfl⟩ entry_list_append (args_list_append _ _) (QY p zs m1 v hz') ⟨z1,?_⟩;exact h _ _ (Ng _ z1 rfl) (OE ..)
noncomputable def tR(elt:MY)(acc:Me)(env:VD):RW Unit:=NW elt env>>=λx=>OH (.builtin "list.append") [acc,x]>>=λa=>NO ()
theorem uX(elt target iter:MY)(scope:O2)(pos:Qw)(it acc:Me)(env:VD):UJ (.ListComp elt [⟨target,iter,[],0⟩] scope pos) 0 it acc env=(OW iter.pos>>=λa=>QD it>>=λr=>match r with
   |none=>NO (.done .next)
   |some v=>OR target it v>>=λa=>Rc target env v>>=λa=>tR elt acc env>>=λa=>VS (.compLoop (.ListComp elt [⟨target,iter,[],0⟩] scope pos) 0 it acc env)):=by rfl
theorem uV(elt target iter t:MY)(scope:O2)(pos:Qw)(it acc:Me)(env:VD):UJ (.ListComp elt [⟨target,iter,[t],0⟩] scope pos) 0 it acc env=(OW iter.pos>>=λa=>QD it>>=λr=>match r with
   |none=>NO (.done .next)
   |some v=>OR target it v>>=λa=>Rc target env v>>=λa=>QC t env (NW t env)>>=λok=>
    if ok then tR elt acc env>>=λa=>VS (.compLoop (.ListComp elt [⟨target,iter,[t],0⟩] scope pos) 0 it acc env) else VS (.compLoop (.ListComp elt [⟨target,iter,[t],0⟩] scope pos) 0 it acc env)):=by
 show(OW iter.pos>>=λa=>QD it>>=λr=>_)=_
 refine congrArg (OW iter.pos>>=·) (funext λa=>congrArg (QD it>>=·) (funext λr=>?_))
 induction r with
 |none=>rfl
 |some v=>refine congrArg (OR target it v>>=·) (funext λa=>congrArg (Rc target env v>>=·) (funext λa=>?_));show((QC t env (NW t env)>>=λok=>NO (QB ok))>>=λr=>_)>>=_=_;rw[bind_assoc,bind_assoc];rfl
section
variable{R:Pj->Mn->Prop}
theorem YK{m:RW α}{Q:Except Me α->Mn->Prop}(h:Wj (Mk prog w) A m (λa=>Q (.ok a)) (λe=>Q (.error e)) s):Wj (Mk prog w) A m.attempt Q E s:=
 λΓ p a b c=>by rw[Sem.wp_attempt];exact h Γ p a b c
theorem sx{M:RX}{Q:List (Np×Ml)->Mn->Prop}(names:List (Np×RM))(hf:∀x∈names,x.2=.free->∃a,env.cells.lookup x.1=Md a) :
  ∀(cs:List (Np×Ml)),(∀cs',(∀x a,cs.lookup x=Md a->env.cells.lookup x=Md a)->(∀x a,cs'.lookup x=Md a->env.cells.lookup x=Md a)->(∀x,((x,Ts)∈names∨(cs.lookup x).isSome=Mj)->(cs'.lookup x).isSome=Mj)->Q cs' s)->(∀x a,cs.lookup x=Md a->env.cells.lookup x=Md a)->
  My M A (forIn names cs λ(x:Np×RM)(cs:List (Np×Ml))=>(if x.2==.free then(do let a <-cellOf env x.1;NO (QB ((x.1,a)::cs))) else NO (QB cs):RW (ForInStep (List (Np×Ml))))) Q E s:=by
 induction names with
 |nil=>intro cs hq hcs;rw[List.forIn_nil];exact MC (hq cs hcs hcs λx hx=>by simpa using hx)
 |cons p r ih=>
  intro cs hq hcs;rw[List.forIn_cons];obtain⟨y,k⟩:=p;have ih':=ih (λx hx=>hf x (MV _ hx));refine Mg ?_;by_cases hk:k=.free
  ·subst hk;refine ae (hf (y,.free) (MU ..) rfl) λa ha=>?_;refine Mg (wpAny_cellOf ha (MC ?_));have hcs2:∀x b,((y,a)::cs).lookup x=Md b->env.cells.lookup x=Md b:=λx b hb=>by exact(tO hb).elim (λq=>by rw[q.1,q.2];exact ha) λq=>hcs x b q
   refine ih' ((y,a)::cs) (λcs' h1 h2 h3=>hq cs' hcs h2 λx hx=>h3 x ?_) hcs2;rcases hx with hx|hx
   ·rcases MT.mp hx with q|q;·rw[show x=y from congrArg RC q];exact .inr (by show(match y==y with|true=>Md a|false=>cs.lookup y).isSome=Mj;rw[beq_self_eq_true];rfl)
    ·exact .inl q
   ·right;exact y7 hx
  ·have hb:(k==Ts)=false:=by simpa using hk
   simp only[hb,QI,if_false];refine MC (ih' cs (λcs' h1 h2 h3=>hq cs' h1 h2 λx hx=>h3 x ?_) hcs);rcases hx with hx|hx
   ·rcases MT.mp hx with q|q;·cases q;exact absurd rfl hk
    ·exact .inl q
   ·exact .inr hx
noncomputable def Ad(env:VD)(scope:O2):Scope:={scope with names:=scope.names.map λ(n,k)=>if(k==.free&&env.scope.kind==.function&&env.kindOf n==Md .cell)=Mj then(n,.cell) else(n,k)}
noncomputable abbrev kZ:Obj:={cls:=.type "list",data:=.seq #[]}
noncomputable abbrev jg(env:VD)(scope:O2)(L:Ml)(cs:List (Np×Ml)):Env:={newEnv scope L env.globals cs env.qual Mr .none (Md env) Qd with scope:=Ad env scope}
inductive CR(L' acc:Ml)(Q:Me->Mn->Prop)(r:Pj)(s':Mn):Prop
 |mk (f:T8) (m:Np->Option Me):r=.ok f->s'.heap.Ns L' m->(∀h'' m'',h''.Ns L' m''->ND L' s'.heap h''->Q (.ref acc) {s' with heap:=h''})->CR L' acc Q r s'
def wA(M:RX)(A:O9)(env:VD)(e:MY)(scope:O2)(Q:Me->Mn->Prop)(it:Me)(s₂:Mn):Prop:=∀(cs:List (Np×Ml))(h':Oy),(∀x a,cs.lookup x=Md a->env.cells.lookup x=Md a)->(∀x,(x,Ts)∈scope.names->(cs.lookup x).isSome=Mj)->
 h'.Ns (s₂.heap.push kZ).objs.size (λb=>Mr)->ND (s₂.heap.push kZ).objs.size ((s₂.heap.push kZ).push {cls:=.type "dict",data:=.dict #[]}) h'->
 Wx M A (.compStart e 0 it (.ref s₂.heap.objs.size) (jg env scope (s₂.heap.push kZ).objs.size cs)) (CR (s₂.heap.push kZ).objs.size s₂.heap.objs.size Q) {s₂ with heap:=h'}
theorem oz(hfree:∀x∈scope.names,x.2=.free->∃a,env.cells.lookup x.1=Md a)(hnc:∀x∈scope.names,x.2≠.cell)(hkind:scope.kind=.function)(hnames:∀x∈scope.names,x.2=.local->(Ad env scope).names.lookup x.1=Md .local)(hs:YD iter=Mh)(h:Wj (Mk prog w) A (NW iter env) (λx s₁=>Wj (Mk prog w) A (Tr x) (wA (Mk prog w) A env (.ListComp elt [⟨.Name y yp,iter,ifs,0⟩] scope pos) scope Q) E s₁) E s):Wj (Mk prog w) A (NW (.ListComp elt [⟨.Name y yp,iter,ifs,0⟩] scope pos) env) Q E s:=by
 rw[eval_ListComp];unfold comprehension;refine Wi (Wn h (λx s₁ h₁=>Wi (Wq ?_)) λb b z=>z);have e0:QV iter env x=NO x:=iD hs x;show Wj _ _ (QV iter env x>>=_) _ _ _;rw[e0];refine Wi (wpAny_pure (Wi (Wo (Wn h₁ (λit s₂ h₂=>?_) λb b z=>z))));rw[if_neg (by exact O3)];refine Wi (of ?_);unfold newList;refine Pe ?_ (Nc _);refine Wi (of ?_);unfold closureFor;refine Mg (sx scope.names hfree [] (λcs b h2 h3=>MC ?_) (λb b z=>by cases z));refine Wi (of (wpAny_newFunctionEnv hnc (λx hx=>by cases hx) (λh' hn hsb=>?_) hkind));have hv:∀x∈(scope.names.filter λx=>(x.2==.local||x.2==.cell)&&x.1 !=(".0":Np)).reverse,x.2=.local->
   SH (jg env scope (s₂.heap.push kZ).objs.size cs) x.1=Md .local:=λx hx hl=>hnames x (List.mem_filter.mp (List.mem_reverse.mp hx)).1 hl
 refine Wo (Wi (YK (Wo (lI (WR (h₂ cs h' h2 (λx hx=>h3 x (.inl hx)) hn hsb) λr s' hr=>?_)))));induction hr with
 |mk f m hr hn' hq=>subst hr;exact Wi (Wo (of (wpAny_comp_letGo (cenv:=jg env scope (s₂.heap.push kZ).objs.size cs) hkind _ s' m hv hn' λh'' m' hn'' hs'=>wpAny_pure (hq h'' m' hn'' hs'))))
theorem pi{it acc:Me}(hi:∀(E:Me->Mn->Prop)(Q:Me->Mn->Prop),Q it s->My (Mk prog w) A (Tr it) Q E s)(h:Wx (Mk prog w) A (.compLoop (.ListComp elt [⟨target,iter,ifs,0⟩] scope pos) 0 it acc env) R s):Wx (Mk prog w) A (.compStart (.ListComp elt [⟨target,iter,ifs,0⟩] scope pos) 0 it acc env) R s:=by
 refine WC rfl ?_;show Wj _ _ ((compStart (.ListComp elt [⟨target,iter,ifs,0⟩] scope pos) 0 it acc env).onRaise (λx=>do Rd x env;OW theWindowsPlace)) _ _ s;refine Xe ?_;show Wj _ _ (ask>>=_) _ _ s;refine Wi (of (wpAny_askSetting ?_));have e:∀(c:Bool)(a b:RW Fin)(Q:Fin->Mn->Prop),Wj (Mk prog w) (A.under (.compStart (.ListComp elt [⟨target,iter,ifs,0⟩] scope pos) 0 it acc env)) a Q N0 s->Wj (Mk prog w) (A.under (.compStart (.ListComp elt [⟨target,iter,ifs,0⟩] scope pos) 0 it acc env)) b Q N0 s->
   Wj (Mk prog w) (A.under (.compStart (.ListComp elt [⟨target,iter,ifs,0⟩] scope pos) 0 it acc env)) (if c=Mj then a else b) Q N0 s:=λc a b Q ha hb=>by cases c<;>assumption
 refine e _ _ _ _ ?_ ?_;·exact wpAny_pure ⟨rfl,h⟩
 ·refine Wi (WV ?_);show Wj _ _ (OW iter.pos>>=_) _ _ s;exact Wi (Wq (Wi (of (hi _ _ (wpAny_pure ⟨rfl,h⟩)))))
end
inductive kh(sc scope sc':O2)(y:Np):Prop where
 |mk (kind:scope.kind=.function)
  (nc:∀x∈scope.names,x.2≠.cell)
  (free:∀x∈scope.names,x.2=.free->sc.names.lookup x.1=Md .cell)
  (loc:∀x∈scope.names,x.2=.local->sc'.names.lookup x.1=Md .local)
  (yl:sc'.names.lookup y=Md .local)
  (y0:enc y≠0)
  (cell:∀x,sc'.names.lookup x=Md .cell->(x,Ts)∈scope.names/\sc.names.lookup x=Md .cell)
theorem pz{X:CX}(hE:kH env X.scope L)(scope:O2):Ad env scope=(cR X scope).scope:=by delta Ad cR SH;rw[hE.1]
theorem on{X:CX}(h:j8 X scope y=Mj):kh X.scope scope (cR X scope).scope y:=by
 have h:=of_decide_eq_true h;have hm:∀x,(cR X scope).scope.names.lookup x=(scope.names.lookup x).map (λk=>if(k==.free&&X.scope.kind==.function&&X.scope.names.lookup x==Md .cell)=Mj then .cell else k):=λx=>by have:=rx scope.names (λn k=>if(k==.free&&X.scope.kind==.function&&X.scope.names.lookup n==Md .cell)=Mj then .cell else k) x;rw[<-this];unfold cR;dsimp only;congr 1;refine Qt λp a=>?_;obtain⟨n,k⟩:=p;split<;>rfl
 have hl:∀x,scope.names.lookup x=Md .local->(cR X scope).scope.names.lookup x=Md .local:=λx hx=>by rw[hm,hx];rfl
 refine⟨h.1,h.2.1,λx hx q=>(h.2.2.1 x hx q).2,λx hx q=>hl _ (h.2.2.2.1 x hx q),hl y h.2.2.2.2.1,h.2.2.2.2.2,λx hx=>?_⟩;rw[hm] at hx;refine ae (MQ.mp hx) λk z3=>?_;have hk:=z3.1;have e:=z3.2;have hmem:=Xi hk;by_cases q:(k==.free&&X.scope.kind==.function&&X.scope.names.lookup x==Md .cell)=Mj;·have q:=MR.mp q;rw[beq_iff_eq.mp (MR.mp q.1).1] at hmem;exact⟨hmem,beq_iff_eq.mp q.2⟩
 ·rw[if_neg q] at e;exact absurd e (h.2.1 _ hmem)
noncomputable def ZG(ifs:List MY)(elt:MY)(acc:Me)(lp:UX)(env:VD):RW Fin:=match ifs with
 |[]=>tR elt acc env>>=λa=>VS lp
 |t::_=>QC t env (NW t env)>>=λok=>if ok then tR elt acc env>>=λa=>VS lp else VS lp
def gr(X:CX)(ifs:List MY)(elt:MY)(body:T):Prop:=∀(W:Cn X)(ρ:Loc)(J:Sg)(s:Mn)(Q:Out->Sg->Prop)(acc:Me)(lp:UX)(Pf:Fin->Mn->Prop),W.St J ρ s->W.ex body [] ρ J Q->
 (∀v s' J',W.St J' ρ s'->Q (.val (er v) ρ) J'->W.wp (OH (.builtin "list.append") [acc,v]) (λa=>Pf (.again lp)) s')->(∀s' J',W.St J' ρ s'->Q (.next ρ) J'->Pf (.again lp) s')->W.wp (ZG ifs elt acc lp W.env) Pf s
theorem xp{X:CX}{ke:T}(h:aP X elt .yld ke):gr X [] elt ke:=λW ρ J s Q acc lp Pf x e h1 a=>
 Wi (Wi (Cn.step (h W _ _ _ [] _ x e) λv J' s' x' e'=>Wi (Wn (h1 v s' J' x' e') (λa s'' z=>wpAny_pure (wpAny_pure z)) λa a z=>z)))
theorem xJ{X:CX}{ke body:T}(h:aP X elt .yld ke)(ht:rj X t ke .Wz body):gr X [t] elt body:=λW ρ J s Q acc lp Pf x e h1 h2=>
 Wi (Cn.XA (ht W _ _ _ [] _ x e) (λJ' s' x' e'=>xp h W ρ J' s' Q acc lp Pf x' e' h1 h2) λJ' s' x' e'=>wpAny_pure (h2 s' J' x' e'))
section
variable{X:CX}{W:Cn X}{k c c1 body:T}{st:List Me}{Q:Out->Sg->Prop}
structure CW(W:Cn X)(X':CX) where
 L':Ml
 it:Ml
 acc:Ml
 oL:P9
 env:VD
 hK:X'.K=X.K
 hE:kH env X'.scope L'
 cell:ss W.Z X'.scope env
 hod:∀vs,oL.data≠.fields vs
 hfi:¬W.Φ.fr it
 hfa:¬W.Φ.fr acc
 l1:W.L<it
 l2:it<acc
 l3:acc<L'
namespace CW
variable(V:CW W X')
@[reducible]def Sp(own:List Ml)(J:Sg)(ρ:Loc)(s:Mn):Prop:=Internal.Sp W.Z W.Φ own J V.L' ρ s
@[reducible]def own:List Addr:=[W.L,V.it,V.acc]
inductive CI(y:Nat)(LZ:Nat->Oy->Prop)(nx:Nx)(turn:Me->Sg->(Out->Sg->Prop)->Prop)(D:List Me->Sg->Prop)(f:Nat)(s:Mn):Prop
 |mk (i:Nat) (ws:List Me) (J:Sg) (ρ:Loc) (ys:Array Me) (m:Nat):V.Sp V.own J ρ s->(∀v,sf ρ y v=[(y,v)])->(∃sl,s.heap.get? W.L=Md {V.oL with slots:=sl})->s.heap.get? V.acc=Md (⟨.type "list",Mr,.seq ys m,#[]⟩:P9)->ys.toList.map er=ws->
  ws.length+f<=100001->LZ i s.heap->kE nx turn D f i ws J->CI y LZ nx turn D f s
inductive CE(D:List Me->Sg->Prop)(s:Mn):Prop
 |mk (ws:List Me) (J:Sg) (ρ:Loc) (ys:Array Me) (m:Nat):V.Sp [W.L,V.acc] J ρ s->(∃sl,s.heap.get? W.L=Md {V.oL with slots:=sl})->s.heap.get? V.acc=Md (⟨.type "list",Mr,.seq ys m,#[]⟩:P9)->ys.toList.map er=ws->D ws J->CE D s
variable{V}
theorem FL:W.L∈V.own:=MU ..
theorem FK:V.it∈V.own:=MV _ (MU ..)
theorem Di:V.acc∈V.own:=MV _ (MV _ (MU ..))
noncomputable abbrev cn(V:CW W X'){J:Sg}{ρ:Loc}{s:Mn}(S:V.Sp V.own J ρ s)(hL:∃sl,s.heap.get? W.L=Md {V.oL with slots:=sl}):Cn X' where
 Z:=W.Z
 Φ:=Internal.WU W.Φ V.own s.heap
 L:=V.L'
 A:=W.A
 n:=W.n
 env:=V.env
 B:=by rw[V.hK];exact W.B
 hb:=S.base W.hb
 hE:=V.hE
 hr:=W.hr.held S (.inr ⟨FL,λo ho vs z=>by refine ae hL λsl hL=>?_;rw[hL] at ho;cases ho;exact V.hod vs z⟩)
 cell:=V.cell
theorem zx(hJ:∀i h h',h'.get? V.it=h.get? V.it->LZ i h->LZ i h'){lp:UX}(hT:gr X' ifs elt body){m yc:Nat}(S:V.Sp V.own J [(yc,u)] s)(hL:∃sl,s.heap.get? W.L=Md {V.oL with slots:=sl})(ha:s.heap.get? V.acc=Md (⟨.type "list",Mr,.seq ys m,#[]⟩:P9))(hw:ys.toList.map er=ws)(hz:ws.length+(f+1)<=100001)(j:LZ (i+1) s.heap)(h:W.ex body [] [(yc,u)] J (wb (kE nx (λv J Q'=>W.ex body [] [(yc,v)] J Q') D f (i+1)) ws)){Pf:Fin->Mn->Prop}(hP:∀s',V.CI yc LZ nx (λv J Q'=>W.ex body [] [(yc,v)] J Q') D f s'->Pf (.again lp) s'):W.wp (ZG ifs elt (.ref V.acc) lp V.env) Pf s:=by
 have key:∀(J':Sg)(s':Mn),(V.cn S hL).St J' [(yc,u)] s'->V.Sp V.own J' [(yc,u)] s'/\(∃sl,s'.heap.get? W.L=Md {V.oL with slots:=sl})/\s'.heap.get? V.acc=Md (⟨.type "list",Mr,.seq ys m,#[]⟩:P9)/\LZ (i+1) s'.heap:=λJ' s' x=>by
  have zqi:_:=S.free x;induction zqi with
  |mk S' k1 k2=>refine ae hL λsl hL=>?_;refine ae (k2 W.L FL _ hL) λsl' z2=>?_;exact⟨S',⟨sl',z2.1⟩,(k1 _ Di V.hfa).trans ha,hJ _ _ _ (k1 _ FK V.hfi) j⟩
 refine hT (V.cn S hL) _ J s _ (.ref V.acc) lp Pf S.WU h (λv s' J' x q=>?_) λs' J' x q=>?_;·have t:=key J' s' x;refine of (aal t.2.2.1 (by rw[tT hw];exact af 0x10c610000f61a844508e09b8ce7d090041322 [] [_,_] hz) λh' m2 hh hs=>hP _ ⟨i+1,ws++[er v],J',_,ys.push v,m2,t.1.but (t:=s'.toks) Di hs ⟨_,hh⟩,λv=>if_pos rfl,?_,hh,by simp[hw],by rw[MI];exact(af 0x1080004f0d422284704dc67386a115104cf6e339 [] [_,_] hz:ws.length+1+f<=100001),hJ _ _ _ (hs.2 _ (Nf V.l2)) t.2.2.2,q⟩);refine ae t.2.1 λsl e=>?_;exact⟨sl,(hs.2 _ (Nf (Q0 V.l1 V.l2))).trans e⟩
 ·have t:=key J' s' x;exact hP _ ⟨i+1,ws,J',_,ys,m,t.1,λv=>if_pos rfl,t.2.1,t.2.2.1,hw,Nq hz,t.2.2.2,q⟩
theorem yz{m:Nat}{r:Option Me}{turn:Me->Sg->(Out->Sg->Prop)->Prop}(S:V.Sp V.own J ρ s)(hL:∃sl,s.heap.get? W.L=Md {V.oL with slots:=sl})(ha:s.heap.get? V.acc=Md (⟨.type "list",Mr,.seq ys m,#[]⟩:P9))(hw:ys.toList.map er=ws)(e:nx i J=Md Mr)(h:kE nx turn D (f+1) i ws J)(hq:ze V.it s r s₁):r=Mr/\V.CE D s₁:=by
 have d:D ws J:=h.elim (·.2) λ⟨v,z,_⟩=>by rw[e] at z;cases z
 induction hq with
 |mk h' hr e' he=>
  subst e';refine ae hL λsl hL=>?_;have hL:=he _ _ (Nf V.l1) hL;have ha:=he _ _ (Qi V.l2) ha;refine⟨hr,ws,J,ρ,ys,m,S.to (own2:=[W.L,V.acc]) (t:=s.toks) (λb o hb q=>he b o (λz=>hb (z▸FK)) q) (λa ha'=>?_) (λa ha' hn=>?_),⟨sl,hL⟩,ha,hw,d⟩
  ·refine Pl (MT.mp ha') (λzz=>?_) (λha'=>?_);rw[zz];·exact⟨FL,_,hL⟩
   ·rw[MN.mp ha'];exact⟨Di,_,ha⟩
  ·rcases MT.mp ha' with rfl|ha';·exact absurd (MU ..) hn
   ·refine Pl (MT.mp ha') (λzz=>?_) (λha'=>?_);rw[zz];·exact V.hfi
    ·exact absurd (MV _ ha') hn
theorem aaX(hJ:∀i h h',h'.get? V.it=h.get? V.it->LZ i h->LZ i h')(hC:∀i h,LZ i h->∃o,h.get? V.it=Md o){yp ip:Qw}(hy:X'.scope.names.lookup y=Md .local)(h0:enc y≠0)(hT:gr X' ifs elt body) (hden:UJ e 0 (.ref V.it) (.ref V.acc) V.env=(OW ip>>=λa=>QD (.ref V.it)>>=λr=>match r with
   |none=>NO (.done .next)
   |some v=>OR (.Name y yp) (.ref V.it) v>>=λa=>Rc (.Name y yp) V.env v>>=λa=>ZG ifs elt (.ref V.acc) (.compLoop e 0 (.ref V.it) (.ref V.acc) V.env) V.env))
  (hA:W.A.under (.compLoop e 0 (.ref V.it) (.ref V.acc) V.env)=W.A) (hq:(Tt e 0 (.ref V.it) (.ref V.acc) V.env).quiet=Mj) (hee:(Tt e 0 (.ref V.it) (.ref V.acc) V.env).isFrame=Mh)
  (next:∀i ρ J s,V.Sp V.own J ρ s->LZ i s.heap->yv W V.it nx LZ i J s) {R:Pj->Mn->Prop} (hR:∀s',V.CE D s'->R (.ok .next) s') {f:Nat} {s:Mn} (h:V.CI (enc y) LZ nx (λv J Q'=>W.ex body [] [(enc y,v)] J Q') D f s) :
  Wx (Mk W.Z.prog W.Z.w) W.A (.compLoop e 0 (.ref V.it) (.ref V.acc) V.env) R s:=by
 refine Yd rfl hq (V.CI (enc y) LZ nx (λv J Q'=>W.ex body [] [(enc y,v)] J Q') D) (λf s hI=>?_) f h
 rw[hA]
 show Wj _ W.A (if(Tt e 0 (.ref V.it) (.ref V.acc) V.env).isFrame then(UJ e 0 (.ref V.it) (.ref V.acc) V.env).onRaise (UP V.env) else(UJ e 0 (.ref V.it) (.ref V.acc) V.env).onRaise (λx=>do Rd x V.env;RQ x)) _ _ s
 rw[hee,if_neg O3]
 refine Xe ?_
 rw[hden]
 generalize hlp:Tt e 0 (.ref V.it) (.ref V.acc) V.env=lp
 refine Wi (Wq (Wi ?_))
 induction hI with
 |mk i ws J ρ ys m S hρ hL ha hw hz j h=>
  induction f with
  |zero=>exact h.elim
  |succ f=>
   have zqi:_:=next i ρ J s S j
   induction zqi with
   |odd e=>
    have no:False:=h.elim (λh=>by rw[e] at h;cases h.1) λ⟨v,z,_⟩=>by rw[e] at z;cases z
    exact no.elim
   |Yp e q=>refine Wn q (λr s₁ hq=>?_) λa a z=>z;have t:=yz S hL ha hw e h hq;rw[t.1];exact wpAny_pure (hR _ t.2)
   |Yu u e q=>
    have d:W.ex body [] [(enc y,u)] J (wb (kE nx (λv J Q'=>W.ex body [] [(enc y,v)] J Q') D f (i+1)) ws):=h.elim (λz=>by rw[e] at z;cases z.1) λ⟨v,z,t⟩=>by rw[e] at z;cases z;exact t
    refine Wn q (λr s₁ hq=>?_) λa a z=>z;induction hq with
    |mk v h' t hr hu e' j' hs=>subst hr hu e';refine Wi (wpAny_pure (Wi (Ys (of (gy V.hE hy h0 (S.but (t:=t) FK hs (hC _ _ j')) λs₂ S₂ k₂=>?_)))));rw[hρ] at S₂;refine zx hJ hT S₂ ?_ ((k₂ _ Di).trans ((hs.2 _ (Qi V.l2)).trans ha)) hw hz (hJ _ _ _ (k₂ _ FK) j') d λs' z=>.inl ⟨rfl,f,Na _,z⟩;refine ae hL λsl hL=>?_;exact⟨sl,(k₂ _ FL).trans ((hs.2 _ (Nf V.l1)).trans hL)⟩
end CW
end
end Wc
variable{t:Nat}{s₀:Mn}
namespace Wc
def oF(e:MY)(y:Np)(yp ip:Qw)(ifs:List MY)(elt:MY):Prop:=∀(it acc:Me)(env:VD),UJ e 0 it acc env=(OW ip>>=λa=>QD it>>=λr=>match r with
 |none=>NO (.done .next)
 |some v=>OR (.Name y yp) it v>>=λa=>Rc (.Name y yp) env v>>=λa=>ZG ifs elt acc (.compLoop e 0 it acc env) env)
theorem CB:oF (.ListComp elt [⟨.Name y yp,iter,[],0⟩] scope pos) y yp iter.pos [] elt:=λit acc env=>uX elt (.Name y yp) iter scope pos it acc env
theorem Cr{t:MY}:oF (.ListComp elt [⟨.Name y yp,iter,[t],0⟩] scope pos) y yp iter.pos [t] elt:=λit acc env=>uV elt (.Name y yp) iter t scope pos it acc env
section
variable{X:CX}{W:Cn X}{k c c1 body:T}{st:List Me}{Q:Out->Sg->Prop}
theorem u5{kW:P9}(hio:kW.isFreed=Mh)(hsb:ND ((s₁.heap.push kW).push kZ).objs.size (((s₁.heap.push kW).push kZ).push {cls:=.type "dict",data:=.dict #[]}) h'):(∀b o,s₁.heap.get? b=Md o->h'.get? b=Md o)/\h'.get? s₁.heap.objs.size=Md kW/\h'.get? (s₁.heap.objs.size+1)=Md kZ:=by
 have z1:(s₁.heap.push kW).objs.size=s₁.heap.objs.size+1:=OC _ _;have z2:((s₁.heap.push kW).push kZ).objs.size=s₁.heap.objs.size+1+1:=by rw[OC,z1]
 rw[z2] at hsb;refine⟨λb o e=>?_,?_,?_⟩;·exact(hsb.2 b (Nf (NZ (NZ (NA e))))).trans (ME _ (ME _ (ME _ e)))
 ·exact(hsb.2 _ (Nf (NZ (Na _)))).trans (ME _ (ME _ (MS _ hio)))
 ·exact(hsb.2 _ (Nf (Na _))).trans (ME _ (by rw[<-z1];exact MS _ rfl))
theorem xW{V:CW W X'}{mo:Np->Option Me}(hno:s₀.heap.Ns W.L mo)(hLo:s₀.heap.get? W.L=Md V.oL)(hmo:dP mo ρ)(h:V.CE (λws J'=>∀x,J' x=Mr->W.ex k (.ref x::st) ρ (upd J' x (.list ws)) Q) s):CR V.L' V.acc (W.PK ρ k st Q) (.ok .next) s:=by
 induction h with
 |mk ws J ρ' ys m S hL ha hw d=>
  refine ae hL λsl hL=>?_;refine ae hno λo z22=>?_;refine ae z22 λes z23=>?_;refine ae z23 λep z24=>?_;obtain⟨q,r⟩:=z24;rw[hLo] at q;cases q;have nL':=V.l3;have nLA:=Q0 V.l1 V.l2;have Di:V.acc∈[V.L',V.acc]:=MV _ (MU ..);have S2:W.Sp [V.L',V.acc] J ρ s:=S.W8 (MU ..) ⟨_,es,ep,hL,r⟩ hmo λa ha=>by
   refine Pl (MT.mp ha) (λzz=>?_) (λha=>?_);rw[zz];·exact⟨.inl rfl,Qi (Q0 nLA nL')⟩
   ·rw[MN.mp ha];exact⟨.inr (MV _ (MU ..)),Qi nLA⟩
  induction S with
  |mk g m' _ _ ns=>refine⟨_,m',rfl,ns,λh'' m'' hn'' hs''=>?_⟩;have t:=(S2.but (t:=s.toks) (MU ..) hs'' (by refine ae hn'' λo z19=>?_;refine ae z19 λa z20=>?_;refine ae z20 λa z21=>?_;obtain⟨z,_⟩:=z21;exact⟨o,z⟩)).aa1 Di V.hfa ((hs''.2 _ (Nf nL')).trans ha) hw;exact⟨_,t.2,d _ t.1⟩
theorem tj(F:kh X.scope scope (cR X scope).scope y)(hT:gr (cR X scope) ifs elt body)(hden:oF (.ListComp elt [⟨.Name y yp,iter,ifs,0⟩] scope pos) y yp iter.pos ifs elt)(x:W.St J ρ s₁){kW:P9}(hio:kW.isFreed=Mh)(hJ:∀i h h',h'.get? s₁.heap.objs.size=h.get? s₁.heap.objs.size->LZ i h->LZ i h')(hC:∀i h,LZ i h->∃o,h.get? s₁.heap.objs.size=Md o)(hit:∀(s:Mn),LZ 0 s.heap->∀(E:Me->Mn->Prop)(Q:Me->Mn->Prop),Q (.ref s₁.heap.objs.size) s->My (Mk W.Z.prog W.Z.w) W.A (Tr (.ref s₁.heap.objs.size)) Q E s)(next:∀(L':Ml)(own:List Ml) i ρ J s,Sp W.Z W.Φ own J L' ρ s->LZ i s.heap->yv W s₁.heap.objs.size nx LZ i J s)(hf:f<=100001)(j:LZ 0 (s₁.heap.push kW))(h:kE nx (λv J Q'=>W.ex body [] [(enc y,v)] J Q') (λws J'=>∀x,J' x=Mr->W.ex k (.ref x::st) ρ (upd J' x (.list ws)) Q) f 0 [] J):wA (Mk W.Z.prog W.Z.w) W.A W.env (.ListComp elt [⟨.Name y yp,iter,ifs,0⟩] scope pos) scope (W.PK ρ k st Q) (.ref s₁.heap.objs.size) {s₁ with heap:=s₁.heap.push kW,toks:=t}:=by
 intro cs h' hcs hcs2 hn hsb;obtain z18:=u5 hio hsb;have k1:=z18.1;have k3:=z18.2.2;have z1:(s₁.heap.push kW).objs.size=s₁.heap.objs.size+1:=OC _ _;have z2:((s₁.heap.push kW).push kZ).objs.size=s₁.heap.objs.size+1+1:=by rw[OC,z1]
 dsimp only at hn ⊢;rw[z2] at hn ⊢;rw[z1];obtain⟨mo,oL,hno,hmo,hLo,hod⟩:∃(m:Np->Option Me) (oL:P9),s₁.heap.Ns W.L m/\dP m ρ/\s₁.heap.get? W.L=Md oL/\∀vs,oL.data≠.fields vs:=by
  induction x with
  |mk g m I hgL hns hm=>refine ae (id hns) λo z15=>?_;refine ae z15 λb z16=>?_;refine ae z16 λb z17=>?_;have q:=z17.1;have q2:=z17.2.1;exact⟨m,o,hns,hm,q,λvs z=>by rw[q2] at z;cases z⟩
 have hlt:=NA hLo;let V:CW W (cR X scope):=⟨s₁.heap.objs.size+1+1,s₁.heap.objs.size,s₁.heap.objs.size+1,oL,jg W.env scope (s₁.heap.objs.size+1+1) cs,rfl,⟨pz W.hE scope,F.1,rfl,W.hE.4,W.hE.5⟩,λx hx=>by obtain z14:=F.7 x hx;refine ga (W.cell x z14.2) λa o v z13=>?_;refine ae (NT.mp (hcs2 x z14.1)) λa' ha'=>?_;have:=hcs x a' ha';rw[z13.1] at this;cases this;exact⟨a,o,v,ha',z13.2⟩,hod,x.X1 (MD _),x.X1 (Qf _),hlt,Na _,Na _⟩;have S0:V.Sp V.own J [] {s₁ with heap:=h',toks:=t}:=by
  refine(x.aaL (own:=[s₁.heap.objs.size+1+1,s₁.heap.objs.size,s₁.heap.objs.size+1]) (t:=t) k1 λa ha=>?_).W8 (MU ..) hn (λb=>rfl) λa ha=>?_
  ·refine Pl (MT.mp ha) (λzz=>?_) (λha=>?_);rw[zz];·refine ae hn λo z10=>?_;refine ae z10 λb z11=>?_;refine ae z11 λb z12=>?_;obtain⟨q,_⟩:=z12;exact⟨Nq (NZ (Na _)),o,q⟩
   ·refine Pl (MT.mp ha) (λzz=>?_) (λha=>?_);rw[zz];·exact⟨MD _,_,z18.2.1⟩
    ·rw[MN.mp ha];exact⟨Qf _,_,k3⟩
  ·refine Pl (MT.mp ha) (λzz=>?_) (λha=>?_);rw[zz];·exact⟨.inl rfl,Nf (NZ (NZ hlt))⟩
   ·exact⟨.inr (MV _ ha),by
     refine Pl (MT.mp ha) (λzz=>?_) (λha=>?_);rw[zz];·exact Nf (NZ (Na _))
     ·rw[MN.mp ha];exact Nf (Na _)⟩
 have jj:LZ 0 h':=hJ _ _ _ (z18.2.1.trans (MS _ hio).symm) j;exact pi (λE Q hq=>hit _ jj E Q hq) (CW.aaX (V:=V) hJ hC F.5 F.6 hT (hden _ _ _) rfl rfl rfl (λi ρ J s S jv=>next _ _ i ρ J s S jv) (λs' z=>xW hno hLo hmo z) (f:=f) ⟨0,[],J,[],#[],0,S0,λb=>rfl,⟨oL.slots,k1 _ _ hLo⟩,k3,rfl,by rw[Pd,Oo];exact hf,jj,h⟩)
theorem oS(W:Cn X)(F:kh X.scope scope (cR X scope).scope y):∀x∈scope.names,x.2=.free->∃a,W.env.cells.lookup x.1=Md a:=λx hx hq=>by refine ga (W.cell x.1 (F.3 x hx hq)) λa o v z9=>?_;exact⟨a,z9.1⟩
theorem yI(hok:j8 X scope y=Mj)(hs:YD iter=Mh)(hT:gr (cR X scope) ifs elt body)(hden:oF (.ListComp elt [⟨.Name y yp,iter,ifs,0⟩] scope pos) y yp iter.pos ifs elt)(hi:aP X iter (.Xo Mh (enc y) body k) c):aP X (.ListComp elt [⟨.Name y yp,iter,ifs,0⟩] scope pos) k c:=λW ρ J s st Q x e=>by
 have F:=on hok;refine oz (oS W F) F.2 F.1 (by rw[pz W.hE];exact F.4) hs (Cn.step (hi W _ _ _ _ _ x e) λv J s x e=>?_);refine ga e λst' nx f z8=>?_;rw[z8.2.1.1];have hsrc:=z8.2.1.2;have h:=z8.2.2;refine ae (f8.inv hsrc) λa z7=>?_;rw[z7.1];have hsrc:=z7.2;have hx:∃xs,nI s.heap "list" a xs:=hsrc.elim (λz=>z.1.elim λxs hx=>⟨xs,aw x hx⟩) λ⟨xs,hx,_⟩=>⟨xs,x.Yl W.hb (W.B.6 a xs hx)⟩;refine ae hx λxs z6=>?_;obtain⟨ys,m,z1,z2,_⟩:=z6;refine of (P6 ⟨_,z1,rfl,m,rfl⟩ (tj (t:=s.toks) (LZ:=λi h=>h.IsListIter s.heap.objs.size a i) F hT hden x rfl (λi h h' e ⟨o,q⟩=>⟨o,e.trans q.1,q.2⟩) (λi h ⟨o,q⟩=>⟨o,q.1⟩) (λs' j E Q hq=>wpAny_pyIter_listiter j hq) (λL' own i ρ J s' S j=>?_) z8.1 ⟨_,MS _ rfl,rfl,rfl⟩ h));rcases hsrc with⟨_,rfl⟩|⟨xs,hx,rfl⟩
 ·exact mH (λxs e=>aw S.st (jK e)) (λys n z1 q=>of (Q5 W.hr.2.2.1 j ⟨_,z1,rfl,n,rfl⟩ q λh' he=>⟨h',rfl,rfl,he⟩))
   λys n v z1 q=>of (QZ j ⟨_,z1,rfl,n,rfl⟩ q λh' j' hs=>⟨v,h',s'.toks,rfl,rfl,rfl,j',hs⟩)
 ·obtain⟨ys,n,z1,z2,_⟩:=S.st.Yl W.hb (W.B.6 a xs hx);have e:Ax xs i J=Md ((ys[i]?).map λv=>[er v]):=by unfold Ax;rw[<-z2,MM,Om];cases ys[i]?<;>rfl
  cases hq:ys[i]? with
  |none=>rw[hq] at e;exact .Yp e (of (Q5 W.hr.2.2.1 j ⟨_,z1,rfl,n,rfl⟩ hq λh' he=>⟨h',rfl,rfl,he⟩))
  |some v=>rw[hq] at e;exact .Yu _ e (of (QZ j ⟨_,z1,rfl,n,rfl⟩ hq λh' j' hs=>⟨v,h',s'.toks,rfl,rfl,rfl,j',hs⟩))
theorem Aq{g:Np}{gp fp:Qw}{a b:MY}(hg:ax X g (.type "range")/\dn g)(hok:j8 X scope y=Mj)(hT:gr (cR X scope) ifs elt body)(hden:oF (.ListComp elt [⟨.Name y yp,iter,ifs,0⟩] scope pos) y yp iter.pos ifs elt)(hit:iter=.Call (.Name g gp) [a,b] [] fp)(hi:dF X [a,b] (.Xo Mj (enc y) body k) c):aP X (.ListComp elt [⟨.Name y yp,iter,ifs,0⟩] scope pos) k c:=λW ρ J s st Q x e=>by
 subst hit;have F:=on hok;refine oz (oS W F) F.2 F.1 (by rw[pz W.hE];exact F.4) rfl (cN x hg λf s₁ hf x₁=>?_);rw[bK hf];refine b9 x₁ hi e (.inl λd=>nofun) λvs J' s' l x' e'=>?_;refine bI (dM l) λva vb z5=>?_;obtain rfl:=z5;refine ga e' λst' nx f z4=>?_;obtain rfl:=z4.2.1.1;have h:=z4.2.2;refine vr (ints.inv z4.2.1.2) λa t b u z3=>?_;rw[z3.1];rw[z3.2.1];obtain rfl:=z3.2.2.2;exact of (call_range_2 (of (wpAny_pyIter_range (MS _ rfl) (nY (.inl rfl) z3.2.2.1.1 z3.2.2.1.2.1 z3.2.2.1.2.2.1 z3.2.2.1.2.2.2) (tj (t:=s'.toks+1) (LZ:=RJ (s'.heap.push _).objs.size a 1 _) F hT hden (x'.Wy _ (s'.toks+1)) rfl (λi h h' e z=>⟨z.1,e.trans z.2⟩) (λi h z=>⟨_,z.2⟩)
  (λs'' j E Q hq=>Yr j.2 hq) (λL' own i ρ J s'' S z=>mZ (congrArg (λz:Option Me=>Md (z.map λv=>[v])) (qE a b Mh i)) z) z4.1 (kF (mO (.inl rfl))) h))))
end
end Wc
variable{k:Nat}{x:Me}{vs kept:Array Me}{items:Ml->Array Me}{ps:List (Ml×Ml)}{TI TO:Ml}{ls:List Ml}
namespace Zi
noncomputable abbrev m8(h:Oy)(T:Ml)(vs:Array Me):Prop:=h.get? T=Md {cls:=.type "tuple",data:=.seq vs}
inductive iQ(z TI TO:Ml)(ps:List (Ml×Ml)):Prop where
 |mk(TIz:TI≠z)
  (TOz:TO≠z)
  (TITO:TI≠TO)
  (it:∀p∈ps,p.1≠z/\p.1≠TI/\p.1≠TO/\p.2≠z/\p.2≠TO/\∀q∈ps,p.2≠q.1)
  (nd:∀(i j:Nat)(p q:Ml×Ml),ps[i]?=Md p->ps[j]?=Md q->i≠j->p.1≠q.1)
inductive yk(h:Oy)(z TI TO:Ml)(f0:Me)(ps:List (Ml×Ml))(items:Ml->Array Me)(pr:Nat->Nat)(kept:Array Me):Prop where
 |mk(z:IsZip h z TI TO f0)
  (ti:m8 h TI (ps.map λp=>MK p.1).toArray)
  (to:m8 h TO kept)
  (n:kept.size=ps.length)
  (it:∀j p,ps[j]?=Md p->h.IsListIter p.1 p.2 (pr j)/\h.IsList p.2 (items p.2))
noncomputable def Kp(z TO:Ml)(ps:List (Ml×Ml))(h h':Oy):Prop:=∀c o,c≠z->c≠TO->(∀p∈ps,c≠p.1)->h.get? c=Md o->h'.get? c=Md o
theorem BK{T:Ml}{Q:Unit->Mn->Prop}(hT:m8 s.heap T vs)(hz:vs.size<=100)(h:∀h',m8 h' T (vs.setIfInBounds k x)->ND T s.heap h'->Q () {s with heap:=h'}):My (Mk prog w) A (updateSeq T (·.setIfInBounds k x)) Q E s:=by refine wpAny_updateSeq hT rfl (h _ ?_ (OE ..)) (hz:=by rw[NL];exact c6 hz rfl);have:=Ng (Wa (·.setIfInBounds k x)) hT rfl;show(s.heap.update T _).get? T=_;rw[this];simp[Wa]
abbrev zL(ps:List (Ml×Ml)):List (Me×Nat):=(ps.map λp=>MK p.1).toArray.toList.zipIdx
theorem Fj{x:Me×Nat}{rest:List (Me×Nat)}(h:x::rest=(zL ps).drop k):∃p,ps[k]?=Md p/\x=(.ref p.1,k)/\rest=(zL ps).drop (k+1):=by
 have hl:(zL ps).length=ps.length:=by simp[zL]
 rcases Nat.lt_or_ge k ps.length with q|q
 ·have hk:k<(zL ps).length:=by rw[hl];exact q
  rw[Oh hk] at h;injection h with e1 e2
  refine⟨ps[k],MH q,e1.trans ?_,e2⟩;simp[zL,List.getElem_zipIdx]
 ·rw[QW (by rw[hl];exact q)] at h;cases h
theorem CP(hk:k<=ps.length)(h:[]=(zL ps).drop k):k=ps.length:=by have:=congrArg VQ h;rw[Po,show(zL ps).length=ps.length by simp[zL]] at this;exact Uh hk (Nat.le_of_sub_eq_zero this.symm)
inductive ZL(s:Mn)(z TI TO:Ml)(ps:List (Ml×Ml))(items:Ml->Array Me)(i j:Nat)(s':Mn):Prop
 |mk (h':Oy) (kept:Array Me):s'={s with heap:=h'}->yk h' z TI TO .ellipsis ps items (λj'=>if j' < j then i+1 else i) kept->(∀(j':Nat)(p:Ml×Ml),j' < j->ps[j']?=Md p->∃x,(items p.2)[i]?=Md x/\kept[j']?=Md x)->Kp z TO ps s.heap h'->h'.objs.size=s.heap.objs.size->ZL s z TI TO ps items i j s'
section
variable{z:Ml}
theorem ZL.Xn{h₂ h₃:Oy}{kept':Array Me}{p:Ml×Ml}(D:iQ z TI TO ps)(hp:ps[k]?=Md p)(Z:yk h' z TI TO .ellipsis ps items (λj'=>if j' < k then i+1 else i) kept')(hd:∀(j':Nat)(p:Ml×Ml),j' < k->ps[j']?=Md p->∃x,(items p.2)[i]?=Md x/\kept'[j']?=Md x)(hk:Kp z TO ps s.heap h')(hsz:h'.objs.size=s.heap.objs.size)(hx:(items p.2)[i]?=Md x)(h1:h₂.IsListIter p.1 p.2 (i+1))(hs₂:ND p.1 h' h₂)(hTO:m8 h₃ TO (kept'.setIfInBounds k x))(hs₃:ND TO h₂ h₃):ZL s z TI TO ps items i (k+1) {s with heap:=h₃}:=by
 have hpm:=MP hp;have d:=D.4 p hpm;have up:∀c o,c≠p.1->c≠TO->h'.get? c=Md o->h₃.get? c=Md o:=λc o c1 c2 q=>hs₃.extBut _ _ c2 (hs₂.extBut _ _ c1 q);have hlt:k<ps.length:=(ML.mp hp).1;refine⟨h₃,_,rfl,⟨up _ _ (Qj d.1) (Qj D.2) Z.1,up _ _ (Qj d.2.1) D.3 Z.2,hTO,by rw[Array.size_setIfInBounds];exact Z.4,λj' p' hp'=>?_⟩,λj' p' hj' hp'=>?_,λc o c1 c2 c3 q=>up c o (c3 p hpm) c2 (hk c o c1 c2 c3 q),by rw[hs₃.1,hs₂.1];exact hsz⟩
 ·have a:=Z.5 j' p' hp';have q:=D.4 p' (MP hp');refine⟨?_,a.2.at λo z=>up _ o (q.2.2.2.2.2 p hpm) q.2.2.2.2.1 z⟩;by_cases hjj:j'=k;·subst hjj;rw[hp] at hp';cases hp';rw[if_pos (Na _)];exact h1.at λo z=>hs₃.extBut _ o q.2.2.1 z
  ·have e:(if j' < k+1 then i+1 else i)=(if j' < k then i+1 else i):=by
    by_cases q:j' < k;·rw[if_pos q,if_pos (NZ q)]
    ·rw[if_neg q,if_neg (λz=>q (QJ (Nat.le_of_lt_succ z) hjj))]
   rw[e];exact a.1.at λo z=>up _ o (D.5 j' k p' p hp' hp hjj) q.2.2.1 z
 ·rw[RR];by_cases hjj:j'=k;·subst hjj;rw[hp] at hp';cases hp';exact⟨x,hx,by rw[if_pos rfl,if_pos (by rw[Z.4];exact hlt)]⟩
  ·rw[if_neg (Qj hjj)];exact hd j' p' (QJ (Nat.le_of_lt_succ hj') hjj) hp'
theorem yk.up{h₈:Oy}{f:Me}(D:iQ z TI TO ps)(Z:yk h' z TI TO .ellipsis ps items (λj'=>if j' < ps.length then i+1 else i) kept)(hz:IsZip h₈ z TI TO f)(up:∀c o,c≠z->h'.get? c=Md o->h₈.get? c=Md o):yk h₈ z TI TO f ps items (λb=>i+1) kept:=
 ⟨hz,up _ _ D.1 Z.2,up _ _ D.2 Z.3,Z.4,λj' p' hp'=>by have a:=Z.5 j' p' hp';have q:=D.4 p' (MP hp');rw[if_pos (ML.mp hp').1] at a;exact⟨a.1.at λo z=>up _ o q.1 z,a.2.at λo z=>up _ o q.2.2.2.1 z⟩⟩
def NQ(z TI TO:Ml)(ps:List (Ml×Ml))(items:Ml->Array Me)(i:Nat)(s:Mn)(Q:Me->Mn->Prop):Prop:=∀h' T vals,T=s.heap.objs.size->yk h' z TI TO (Wd T) ps items (λa=>i+1) vals->m8 h' T vals->(∀(j:Nat)(p:Ml×Ml),ps[j]?=Md p->∃x,(items p.2)[i]?=Md x/\vals[j]?=Md x)->Kp z TO ps s.heap h'->Q (.ref T) {s with heap:=h'}
def NE(z TO:Ml)(ps:List (Ml×Ml))(items:Ml->Array Me)(i:Nat)(s:Mn)(E:Me->Mn->Prop):Prop:=∀h' e,(∃p∈ps,(items p.2)[i]?=Mr)->Kp z TO ps s.heap h'->(∃o,h'.get? e=Md o/\o.cls=.type "StopIteration")->E (.ref e) {s with heap:=h'}
theorem vO{R:Fin->Mn->Prop}{s':Mn}(D:iQ z TI TO ps)(hn:ps.length<=10)(Z:ZL s z TI TO ps items i ps.length s')(hQ:NQ z TI TO ps items i s Q)(hR:∀v s',Q v s'->R (.done (.ret v)) s')(kept:Array Me)(hk:m8 s'.heap TO kept):My (Mk prog w) A (Uy kept.toList>>=λv=>Builtin.SmallTypes.ownedTupleHandOut (.ref z) v>>=λa=>ret v) R E s':=by
 induction Z with
 |mk h' kept' e Z hd hkp hsz=>
  subst e;have:kept=kept':=by have:=hk.symm.trans Z.3;cases this;rfl
  subst this;have hks:kept.toList.length<=100:=by rw[NC,Z.4];exact Nk hn (by decide)
  refine Mg ?_;unfold Uy;refine Pe ?_ (by show kept.toList.toArray.size<=Sw;rw[NL,Oj];exact Nk hks (by decide));rw[RN];refine Mg ?_;have hz₆:IsZip (h'.push {cls:=.type "tuple",data:=.seq kept}) z TI TO .ellipsis:=ME _ Z.1;refine Mg (QK hz₆ (by simp) λh₇ hz₇ hs₇=>QK (show IsZip h₇ z TI TO (Wd h'.objs.size) from hz₇) (by simp) λh₈ hz₈ hs₈=>MC (hR _ _ ?_));have up:∀c o,c≠z->h'.get? c=Md o->h₈.get? c=Md o:=λc o c1 e=>hs₈.extBut _ _ c1 (hs₇.extBut _ _ c1 (ME _ e));have hne:h'.objs.size≠z:=Qj (Nf (NA Z.1));exact hQ h₈ h'.objs.size kept hsz (Z.up D hz₈ up) (hs₈.extBut _ _ hne (hs₇.extBut _ _ hne (MS _ rfl))) (λj p hp=>hd j p (ML.mp hp).1 hp) λc o c1 c2 c3 q=>up c o c1 (hkp c o c1 c2 c3 q)
theorem uW{R:Fin->Mn->Prop}(hh:A.handled=Mr)(D:iQ z TI TO ps)(h0:ps≠[])(hn:ps.length<=10)(H:yk s.heap z TI TO .none ps items (λf=>i) kept)(hQ:NQ z TI TO ps items i s Q)(hR:∀v s',Q v s'->R (.done (.ret v)) s')(hE:NE z TO ps items i s E):My (Mk prog w) A (Builtin.«zip.__next__» ⟨[.ref z],[]⟩) R E s:=by
 have hne:((ps.map λp=>MK p.1).toArray).isEmpty=false:=by
  induction ps with
  |nil=>exact absurd rfl h0
  |cons a l=>rfl
 show My _ _ (field (.ref z) 2>>=_) _ _ _;refine Mg (Tg H.1 rfl (x:=.bool Mh) rfl ?_);show My _ _ (field (.ref z) 3>>=_) _ _ _;refine Mg (Tg H.1 rfl (x:=.ref TI) rfl ?_);refine Mg (SP H.2 rfl ?_);dsimp only;rw[hne,if_neg O3];refine Mg ?_;unfold Builtin.SmallTypes.ownedTupleIsFree;refine Mg (Tg H.1 rfl (x:=.none) rfl (MC ?_));refine Mg (Py ?_);refine Mg (Tg H.1 rfl (x:=.ref TO) rfl ?_);refine Mg (QK H.1 (by simp) λh₁ hz₁ hs₁=>?_);have start:ZL s z TI TO ps items i 0 {s with heap:=h₁}:=⟨h₁,kept,rfl,⟨hz₁,hs₁.extBut _ _ D.1 H.2,hs₁.extBut _ _ D.2 H.3,H.4,λj p hp=>by have a:=H.5 j p hp;have q:=D.4 p (MP hp);rw[if_neg (Qz _)];exact⟨a.1.at λo z=>hs₁.extBut _ o q.1 z,a.2.at λo z=>hs₁.extBut _ o q.2.2.2.1 z⟩⟩,λf f z=>absurd z (Qz _),λc o c1 f f e=>hs₁.extBut _ _ c1 e,hs₁.1⟩;refine Mg (wpAny_forIn_list _ (λrest b s'=>b=((Mr:Option Fin),())/\∃j,j<=ps.length/\rest=(zL ps).drop j/\ZL s z TI TO ps items i j s') _ (λx rest b s' hI=>?_) (λb s' hI=>?_) _ _ ⟨rfl,0,Nc _,rfl,start⟩)
 ·rw[hI.1];refine ae hI.2 λk z10=>?_;have hZ:=z10.2.2;refine ae (Fj z10.2.1) λp z9=>?_;rw[z9.2.1];have hpm:=MP z9.1;induction hZ with
  |mk h' kept' e Z hd hk hsz=>
   rw[e];have a:=Z.5 k p z9.1;rw[if_neg (Rz _)] at a;have d:=D.4 p hpm;refine Mg (wpAny_onRaise ?_);show My _ _ (Builtin.SmallTypes.nextOf (.ref p.1)>>=_) _ _ _;cases hx:(items p.2)[i]? with
   |none=>refine Mg (wpAny_nextOf_list_end hh a.1 a.2 hx λh₂ e hs₂ he=>?_);have hz₂:IsZip h₂ z TI TO .ellipsis:=hs₂ _ _ (Qj d.1) Z.1;refine QK hz₂ (by simp) λh₃ f hs₃=>hE h₃ e ⟨p,hpm,hx⟩ (λc o c1 c2 c3 q=>hs₃.extBut _ _ c1 (hs₂ _ _ (c3 p hpm) (hk c o c1 c2 c3 q))) ?_;refine ae he λoe z8=>?_;obtain⟨hoe,hce⟩:=z8;exact⟨oe,hs₃.extBut _ _ (λx=>by subst x;rw[hz₂] at hoe;cases hoe;simp at hce) hoe,hce⟩
   |some x=>refine Mg (wpAny_nextOf_list_item a.1 a.2 hx λh₂ h1₂ hs₂=>MC ?_);have hTO₂:m8 h₂ TO kept':=hs₂.extBut _ _ (Qj d.2.2.1) Z.3;refine Mg (SP hTO₂ rfl (Mg (BK hTO₂ (by rw[Z.4];exact Nk hn (by decide)) λh₃ hTO₃ hs₃=>Mg (UE (MC ?_)))));exact⟨rfl,k+1,(ML.mp z9.1).1,z9.2.2,ZL.Xn D z9.1 Z hd hk hsz hx h1₂ hs₂ hTO₃ hs₃⟩
 ·rw[hI.1];refine ae hI.2 λj z7=>?_;have hZ:=z7.2.2;have:=CP z7.1 z7.2.1;subst this;have hZ':=hZ;induction hZ with
  |mk h' kept' e Z hd hk hsz=>subst e;exact Mg (SP Z.3 rfl (vO D hn hZ' hQ hR kept' Z.3))
theorem mx{Q:Option Me->Mn->Prop}(hh:A.handled=Mr)(D:iQ z TI TO ps)(h0:ps≠[])(hn:ps.length<=10)(H:yk s.heap z TI TO .none ps items (λa=>i) kept)(hQ:NQ z TI TO ps items i s λv=>Q (Md v))(hE:∀h',(∃p∈ps,(items p.2)[i]?=Mr)->Kp z TO ps s.heap h'->Q Mr {s with heap:=h'}):My (Mk prog w) A (QD (.ref z)) Q E s:=by
 have hT:s.TypeIs (.ref z) "zip":=⟨_,H.1,rfl⟩;unfold QD;refine Mg (wpAny_attempt (OQ (name:=OX "__next__") hT F.slot_zip_next
  (Pr F.slot_zip_next hT F.entry_zip_next (uW (Q:=λv=>Q (Md v)) hh D h0 hn H hQ (λv s' q=>⟨_,rfl,MC q⟩) λh' e a1 a2 a3=>?_) (F.args_zip_next_1 _))))
 refine ae a3 λo z6=>?_;exact Mg (Qm (T:="StopIteration") (b:=Mj) ⟨o,z6.1,z6.2⟩ isSubtype_stop (MC (hE h' a1 a2)))
theorem uC(a b c:Me):checkTypeCall "zip" ⟨[a,b,c],[]⟩=NO ():=by kernel_rfl
theorem wu(a b c:Me):NS "zip.__new__" ⟨[.type "zip",a,b,c],[]⟩=NO ():=by kernel_rfl
theorem Dz(a b c d:Me):Sz "object.__init__" ⟨[a,b,c,d],[]⟩:=by unfold Sz;rw[signature?_of (id:="object.__init__") (n:=['_','_','t','i','n','i','_','_']) (o:=['t','c','e','j','b','o']) (by kernel_rfl) F.owner_object];kernel_rfl
noncomputable abbrev kW(l:Ml):Obj:={cls:=.type "list_iterator",data:=.fields #[.ref l,.int 0 0]}
noncomputable abbrev Dj(vs:Array Me):Obj:={cls:=.type "tuple",data:=.seq vs}
noncomputable abbrev GQ(TI TO:Ml):Obj:={cls:=.type "zip",data:=.fields #[.none,.bool Mh,.bool Mh,.ref TI,.ref TO]}
set_option maxRecDepth 100000 in
set_option maxHeartbeats 4000000 in
theorem Df(l1 l2 l3:Ml)(xs ys zs:Array Me):Meets (Builtin.«zip.__new__» ⟨[.type "zip",.ref l1,.ref l2,.ref l3],[]⟩) (λa R s=>s.heap.IsList l1 xs/\s.heap.IsList l2 ys/\s.heap.IsList l3 zs/\ ∀h1 h2 h3 h4 h5 h6,h1=s.heap.push (kW l1)->h2=h1.push (kW l2)->h3=h2.push (kW l3)->h4=h3.push (Dj #[.ref s.heap.objs.size,.ref h1.objs.size,.ref h2.objs.size])->h5=h4.push (Dj #[.none,.none,.none])->h6=h5.push (GQ h3.objs.size h4.objs.size)-> R (.ok (.ret (.ref h5.objs.size))) {s with heap:=h6}):=
 .of_wp λprog w A R s h=>by obtain⟨hp,g,d,tk,os⟩:=s;have hl1:=h.1;have hl2:=h.2.1;have hl3:=h.2.2.1;have h:=h.2.2.2;have hsub:=sub_zip;have hL1:VU (VT ⟨hp,g,d,tk,os⟩) l1 xs:=hl1;have hL2:VU (VT ⟨hp.push (kW l1),g,d,tk,os⟩) l2 ys:=TS hl2 _;have hL3:VU (VT ⟨(hp.push (kW l1)).push (kW l2),g,d,tk,os⟩) l3 zs:=TS (TS hl3 _) _;wp_walk using P6 hL1,P6 hL2,P6 hL3;exact⟨_,rfl,h _ _ _ _ _ _ rfl rfl rfl rfl rfl rfl⟩
theorem Ef{l1 l2 l3:Ml}{xs:Array Me}(hl1:s.heap.IsList l1 xs)(hl2:s.heap.IsList l2 ys)(hl3:s.heap.IsList l3 zs)(h:∀h' n,n=s.heap.objs.size->h'.get? n=Md (kW l1)->h'.get? (n+1)=Md (kW l2)->h'.get? (n+2)=Md (kW l3)->h'.get? (n+3)=Md (Dj #[.ref n,.ref (n+1),.ref (n+2)])-> h'.get? (n+4)=Md (Dj #[.none,.none,.none])->h'.get? (n+5)=Md (GQ (n+3) (n+4))->(∀c o,s.heap.get? c=Md o->h'.get? c=Md o)->Q (.ref (n+5)) {s with heap:=h'}):My (Mk prog w) A (OH (.type "zip") [.ref l1,.ref l2,.ref l3]) Q E s:=by
 refine callType_new F.called_zip (by decide) (uC _ _ _) (wu _ _ _) (λobj=>Dz obj _ _ _) F.entry_zip_new (Df l1 l2 l3 xs ys zs) ⟨hl1,hl2,hl3,?_⟩;rintro h1 h2 h3 h4 h5 h6 e1 e2 e3 e4 e5 e6;have z1:h1.objs.size=s.heap.objs.size+1:=by rw[e1];exact OC ..
 have z2:h2.objs.size=s.heap.objs.size+2:=by rw[e2,OC,z1]
 have z3:h3.objs.size=s.heap.objs.size+3:=by rw[e3,OC,z2]
 have z4:h4.objs.size=s.heap.objs.size+4:=by rw[e4,OC,z3]
 have z5:h5.objs.size=s.heap.objs.size+5:=by rw[e5,OC,z4]
 rw[z1,z2] at e4;rw[z3,z4] at e6;have g6:h6.get? (s.heap.objs.size+5)=Md (GQ (s.heap.objs.size+3) (s.heap.objs.size+4)):=by rw[e6,<-z5];exact MS _ rfl
 have k6:∀c o,h5.get? c=Md o->h6.get? c=Md o:=λc o q=>by rw[e6];exact ME _ q
 have k5:∀c o,h4.get? c=Md o->h6.get? c=Md o:=λc o q=>k6 _ _ (by rw[e5];exact ME _ q);have k4:∀c o,h3.get? c=Md o->h6.get? c=Md o:=λc o q=>k5 _ _ (by rw[e4];exact ME _ q);have k3:∀c o,h2.get? c=Md o->h6.get? c=Md o:=λc o q=>k4 _ _ (by rw[e3];exact ME _ q);have k2:∀c o,h1.get? c=Md o->h6.get? c=Md o:=λc o q=>k3 _ _ (by rw[e2];exact ME _ q);have g5:h6.get? (s.heap.objs.size+4)=Md (Dj #[.none,.none,.none]):=k6 _ _ (by rw[e5,<-z4];exact MS _ rfl);have g4:h6.get? (s.heap.objs.size+3)=Md (Dj #[.ref s.heap.objs.size,.ref (s.heap.objs.size+1),.ref (s.heap.objs.size+2)]):=k5 _ _ (by rw[e4,<-z3];exact MS _ rfl);have g3:h6.get? (s.heap.objs.size+2)=Md (kW l3):=k4 _ _ (by rw[e3,<-z2];exact MS _ rfl);have g2:h6.get? (s.heap.objs.size+1)=Md (kW l2):=k3 _ _ (by rw[e2,<-z1];exact MS _ rfl);have g1:h6.get? s.heap.objs.size=Md (kW l1):=k2 _ _ (by rw[e1];exact MS _ rfl);rw[z5];exact⟨⟨_,g6,rfl⟩,h h6 _ rfl g1 g2 g3 g4 g5 g6 λc o q=>k2 _ _ (by rw[e1];exact ME _ q)⟩
theorem ut{vs:List α}(h:vs.length=3):nW λv u w=>vs=[v,u,w]:=by
 induction vs with
 |nil=>cases h
 |cons v l=>refine bI (dM (Sh h)) λu w e=>?_;rw[e];exact⟨v,u,w,rfl⟩
theorem xt(hn:ls.length=2∨ls.length=3)(hl:∀l∈ls,s.heap.IsList l (items l))(h:∀h' n kept,n=s.heap.objs.size->yk h' (n+ls.length+2) (n+ls.length) (n+ls.length+1) .none (((Oi ls.length).map (n+·)).zip ls) items (λa=>0) kept->(∀c o,s.heap.get? c=Md o->h'.get? c=Md o)->Q (.ref (n+ls.length+2)) {s with heap:=h'}):My (Mk prog w) A (OH (.type "zip") (ls.map MK)) Q E s:=by
 refine Pl hn (λhn=>?_) (λhn=>?_)
 ·refine bI (dM hn) λl1 l2 e=>?_;subst e;have i1:=hl l1 (MU ..);have i2:=hl l2 (MV _ (MU ..));refine call_zip_2 i1 i2 λh' a1 a2 a3 a4 a5 a6 a7=>?_;refine h h' s.heap.objs.size #[.none,.none] rfl ⟨a1,a2,a3,rfl,λj p hp=>?_⟩ a7;refine(MT.mp (MP hp)).elim (λe=>?_) λe=>?_;·rw[e];exact⟨a4,i1.at λo q=>a7 _ _ q⟩
  ·rw[MN.mp e];exact⟨a5,i2.at λo q=>a7 _ _ q⟩
 ·refine ga (ut hn) λl1 l2 l3 e=>?_;subst e;have i1:=hl l1 (MU ..);have i2:=hl l2 (MV _ (MU ..));have i3:=hl l3 (MV _ (MV _ (MU ..)));refine Ef i1 i2 i3 λh' n hn a1 a2 a3 a4 a5 a6 a7=>?_;refine h h' n #[.none,.none,.none] hn ⟨a6,a4,a5,rfl,λj p hp=>?_⟩ a7;refine(MT.mp (MP hp)).elim (λe=>?_) λe=>(MT.mp e).elim (λe=>?_) λe=>?_;·rw[e];exact⟨⟨_,a1,rfl,rfl⟩,i1.at λo q=>a7 _ _ q⟩
  ·rw[e];exact⟨⟨_,a2,rfl,rfl⟩,i2.at λo q=>a7 _ _ q⟩
  ·rw[MN.mp e];exact⟨⟨_,a3,rfl,rfl⟩,i3.at λo q=>a7 _ _ q⟩
end
end Zi
variable{as:List Ml}
namespace Wc
open Internal.Zi
section
variable{X:CX}{W:Cn X}{k kb kb' c:T}{Q:Out->Sg->Prop}
theorem eZ{α β:Type}{f:α->Option β}:∀{l:List α}{r:List β},l.mapM f=Md r->l.map f=r.map Md
 |[],r,h=>by cases h;rfl
 |a::l,r,h=>by rw[SQ] at h;refine ae (Mz.mp h) λb z22=>?_;obtain⟨hb,h⟩:=z22;refine ae (Mz.mp h) λr' z21=>?_;obtain⟨hr,h⟩:=z21;rw[<-MJ h];rw[Nn,Nn,hb,eZ hr]
theorem oh{α β:Type}{f:α->Option β}:∀{l:List α},l.mapM f=Mr->∃x∈l,f x=Mr
 |[],h=>by cases h
 |a::l,h=>by
  rw[SQ] at h;cases ha:f a with
  |none=>exact⟨a,MU ..,ha⟩
  |some b=>
   rw[ha] at h;cases hr:l.mapM f with
   |none=>refine ae (oh hr) λx z20=>?_;exact⟨x,MV _ z20.1,z20.2⟩
   |some r=>rw[hr] at h;cases h
theorem gJ{r:Option (List Me)}(h:uJ as i J=Md r):∀a∈as,∃xs,(J a).bind WY=Md xs:=λa ha=>by refine ae (MQ.mp h) λxss z19=>?_;obtain⟨h1,_⟩:=z19;have e:=eZ h1;have q:(J a).bind WY∈as.map λa=>(J a).bind WY:=NB ha;rw[e] at q;refine ae (NF.mp q) λxs z18=>?_;have z:=z18.2;exact⟨xs,z.symm⟩
theorem rJ{vs:List Me}(h:uJ as i J=Md (Md vs)):(as.map λa=>((J a).bind WY).bind λxs=>xs[i]?)=vs.map some:=by refine ae (MQ.mp h) λxss z17=>?_;obtain⟨h1,h2⟩:=z17;have e:=congrArg (List.map λ(o:Option (List Me))=>o.bind λxs=>xs[i]?) (eZ h1);rw[OY,OY] at e;exact e.trans (eZ h2)
theorem xH(h:uJ as i J=Md Mr):∃a∈as,∃xs,(J a).bind WY=Md xs/\xs[i]?=none:=by refine ae (MQ.mp h) λxss z16=>?_;have h1:=z16.1;have h2:=z16.2;refine ae (oh h2) λxs z15=>?_;have z:Md xs∈xss.map some:=NB z15.1;rw[<-eZ h1] at z;refine ae (NF.mp z) λa z14=>?_;have ha:=z14.1;have z:=z14.2;exact⟨a,ha,xs,z,z15.2⟩
noncomputable def dQ(h:Oy)(a:Ml):Array Value:=(h.get? a).elim #[] λo=>match o.data with|.seq ys _=>ys|_=>#[]
theorem dB(x:W.St J ρ s)(h:(J a).bind WY=Md xs):(dQ s.heap a).toList.map er=xs/\s.heap.IsList a (dQ s.heap a):=by
 obtain⟨ys,n,z1,z2,_⟩:=aw x (jK h);have e:dQ s.heap a=ys:=by unfold dQ;rw[z1];rfl
 rw[e];exact⟨z2,_,z1,rfl,n,rfl⟩
abbrev zo(z TI TO:Ml)(ps:List (Ml×Ml)):List Addr:=z::TI::TO::ps.map (·.1)
theorem AF{z:Ml}{p:Ml×Ml}(h:p∈ps):p.1∈zo z TI TO ps:=by refine .tail _ (.tail _ (.tail _ (NB h)))
theorem vz{z:Ml}(h1:P z)(h2:P TI)(h3:P TO)(h4:∀p∈ps,P p.1):∀a∈zo z TI TO ps,P a:=λa ha=>by
 refine Pl (MT.mp ha) (λzz=>?_) (λha=>?_);rw[zz];·exact h1
 refine Pl (MT.mp ha) (λzz=>?_) (λha=>?_);rw[zz];·exact h2
 refine Pl (MT.mp ha) (λzz=>?_) (λha=>?_);rw[zz];·exact h3
 refine ae (NF.mp ha) λp z13=>?_;obtain⟨hp,rfl⟩:=z13;exact h4 p hp
inductive ZJ(z TI TO:Ml)(ps:List (Ml×Ml))(i:Nat)(h:Oy):Prop
 |mk (kept:Array Me):IsZip h z TI TO .none->m8 h TI (ps.map λp=>MK p.1).toArray->m8 h TO kept->kept.size=ps.length->(∀(j:Nat)(q:Ml×Ml),ps[j]?=Md q->h.IsListIter q.1 q.2 i)->ZJ z TI TO ps i h
variable{z n0:Ml}
theorem ZJ.congr(e:∀a∈zo z TI TO ps,h'.get? a=h.get? a)(H:ZJ z TI TO ps i h):ZJ z TI TO ps i h':=by
 induction H with
 |mk kept a b c d f=>exact⟨kept,(e _ (.head _)).trans a,(e _ (.tail _ (.head _))).trans b,(e _ (.tail _ (.tail _ (.head _)))).trans c,d,λj q hq=>(f j q hq).at λo ho=>(e _ (AF (MP hq))).trans ho⟩
theorem qz{f0:Me}{pr:Nat->Nat}(H:yk h z TI TO f0 ps items pr kept):∀a∈zo z TI TO ps,∃o,h.get? a=Md o:=
 vz ⟨_,H.1⟩ ⟨_,H.2⟩ ⟨_,H.3⟩ λp hp=>by refine ae (Qg hp) λj hj=>?_;refine ae ((H.5 j p hj).1) λo z12=>?_;have q:=z12.1;exact⟨o,q⟩
inductive vX(n0:Ml)(ls:List Ml)(ps:List (Ml×Ml)):Prop where
 |mk (to:∀(j:Nat)(p:Ml×Ml),ps[j]?=Md p->p.1=n0+j/\ls[j]?=Md p.2)
  (of:∀(j:Nat)(a:Ml),ls[j]?=Md a->ps[j]?=Md (n0+j,a))
  (len:ps.length=ls.length)
theorem prs:vX n0 ls (((Oi ls.length).map (n0+·)).zip ls):=by
 refine⟨λj p hp=>?_,λj a ha=>?_,by rw[List.length_zip,Mu,NK,Nat.min_self]⟩;·rw[Qo] at hp;refine⟨?_,hp.2⟩;have q:=hp.1;rw[MM,Nv (ML.mp hp.2).1] at q;exact(MJ q).symm
 ·rw[Qo,MM,Nv (ML.mp ha).1];exact⟨rfl,ha⟩
theorem vX.mem(P:vX n0 ls ps){p:Ml×Ml}(h:p∈ps):n0<=p.1/\p.1<n0+ls.length/\p.2∈ls:=by refine ae (Qg h) λj hj=>?_;have e:=P.1 j p hj;refine⟨e.1▸Og ..,e.1▸Nat.add_lt_add_left (ML.mp e.2).1 _,MP e.2⟩
theorem vX.apart(P:vX n0 ls ps)(hlt:∀a∈ls,a<n0):iQ (n0+ls.length+2) (n0+ls.length) (n0+ls.length+1) ps:=by
 refine⟨λzz=>CL 0x84200270a8267ba8267d35 [] [_,_] zz,λzz=>CL 0x1084004e1504cf71504cf6e542 [] [_,_] zz,λzz=>CL 0x42100138a8267ba8267d34 [] [_,_] zz,λp hp=>?_,λi j p q hp hq hij e=>?_⟩;·have a:=P.mem hp;have a1:=a.1;have a2:=a.2.1;have b:=hlt _ a.2.2;exact⟨λzz=>fb 0x211421001e9508e0a0ec2542349c152b [] [_,_,_] zz a2,λzz=>fb 0x845084007a54238283b2a11c151d [] [_,_,_] zz a2,λzz=>fb 0x108a10800f4a847050762542349c152a [] [_,_,_] zz a2,λzz=>fb 0x43284508400a6a0a07c2542349c152b [] [_,_,_] zz b,λzz=>fb 0x219422842005350503e2542349c152a [] [_,_,_] zz b,λq hq=>Nf (Nat.lt_of_lt_of_le b (P.mem hq).1)⟩
 ·rw[(P.1 i p hp).1,(P.1 j q hq).1] at e;exact hij (Nat.add_left_cancel e)
theorem vX.ge(P:vX n0 ls ps):∀a∈zo (n0+ls.length+2) (n0+ls.length) (n0+ls.length+1) ps,n0<=a:=vz (ck 0x4310013854133dc1328 [] [_,_]) (Og _ _) (ck 0x2188009c54133dc1327 [] [_,_]) λp hp=>(P.mem hp).1
theorem xz{tv:Array Me}{vs:List Me}(P:vX n0 ls ps)(x:W.St J ρ s)(h:uJ ls i J=Md (Md vs))(hs:tv.size=ps.length)(hv:∀(j:Nat)(p:Ml×Ml),ps[j]?=Md p->∃x,(dQ s.heap p.2)[i]?=Md x/\tv[j]?=Md x):tv.toList.map er=vs:=by
 have e:=rJ h;have hl:vs.length=ls.length:=by rw[<-Mu (f:=Md),<-e,Mu]
 apply Th;intro j;rw[MM,Om];have e:=congrArg (λl=>l[j]?) e;simp only[MM] at e;cases ha:ls[j]? with
 |none=>rw[Array.getElem?_eq_none (by rw[hs,P.3];exact Qr.mp ha),M0 (by rw[hl];exact Qr.mp ha)];rfl
 |some a=>
  refine ae (hv j _ (P.2 j a ha)) λy z11=>?_;refine ae (gJ h a (MP ha)) λxs hx=>?_;rw[ha,Pc,hx,<-(dB x hx).1,NI,MM,Om,z11.1] at e;rw[z11.2];cases hv:vs[j]? with
  |none=>rw[hv] at e;cases e
  |some v=>rw[hv] at e;exact MJ e
theorem tb(P:vX n0 ls ps)(x:W.St J ρ s)(ha:(J a).bind WY=Md xs):(dQ s.heap a)[i]?=Mr↔xs[i]?=none:=by rw[<-(dB x ha).1,MM,Om,T7]
theorem vS(P:vX n0 ls ps)(D:iQ z TI TO ps)(h0:ps≠[])(h10:ps.length<=10)(hl:es.length=ps.length)(hA:qs X es kb kb')(hn:∀a∈zo z TI TO ps,¬W.Φ.fr a)(S:W.Sp (zo z TI TO ps) J ρ s)(LZ:ZJ z TI TO ps i s.heap):Dl W (zo z TI TO ps) (.ref z) (.Tuple es kd p) (uJ ls) kb' kb (ZJ z TI TO ps) i ρ J s:=by
 cases hx:uJ ls i J with
 |none=>exact .odd hx
 |some r=>
  induction LZ with
  |mk kept a b c' d f=>
  have H:yk s.heap z TI TO .none ps (dQ s.heap) (λc=>i) kept:=⟨a,b,c',d,λj q hq=>⟨f j q hq,(gJ hx q.2 (MP (P.1 j q hq).2)).elim λxs e=>(dB S.st e).2⟩⟩;have hout:∀{h':Oy},Kp z TO ps s.heap h'->∀b o,b∉zo z TI TO ps->s.heap.get? b=Md o->h'.get? b=Md o:=λkk b o hb ho=>
   kk b o (λq=>hb (q▸.head _)) (λq=>hb (q▸.tail _ (.tail _ (.head _)))) (λp hp q=>hb (q▸AF hp)) ho
  induction r with
  |none=>refine .Yp hx (of (mx W.hr.2.2.1 D h0 h10 H (λh' T tv c c c hv c=>?_) λh' c kk=>⟨rfl,S.Wt (t:=s.toks) hn (hout kk)⟩));refine ae (xH hx) λa z9=>?_;refine ae z9.2 λxs z10=>?_;refine ae (Qg z9.1) λj hj=>?_;refine ae (hv j _ (P.2 j a hj)) λy z8=>?_;have y1:=z8.1;rw[(tb P S.st z10.1).mpr z10.2] at y1;cases y1
  |some vs=>
   refine .Yu vs hx λQ e=>of (mx W.hr.2.2.1 D h0 h10 H (λh' T tv hT Z hTt hv kk=>⟨_,rfl,?_⟩) λh' hex kk=>?_)
   ·have hzT:T≠z:=by rw[hT];exact Qi (NA a)
    have S1:=S.ext (t:=s.toks) (hout kk) (qz Z);refine of (wpAny_letOwnedTupleGo_zip Z.1 λh₂ hz₂ hs₂=>?_);have S2:=S1.but (t:=s.toks) (.head _) hs₂ ⟨_,hz₂⟩;have LP:ZJ z TI TO ps (i+1) h₂:=⟨tv,hz₂,(hs₂.2 _ D.1).trans Z.2,(hs₂.2 _ D.2).trans Z.3,Z.4,λj q hq=>(Z.5 j q hq).1.at λo ho=>(hs₂.2 q.1 (D.4 q (MP hq)).1).trans ho⟩;rw[arm_assign_Tuple];refine Wi (Wq ?_);unfold unpack;rw[(hA.1 W.env).1,(hA.1 W.env).2,show es.length=tv.size by rw[Z.4,hl]];refine Wi (Wo (of (unpackItems_tuple W.hr.2.2.1 ⟨_,(hs₂.2 T hzT).trans hTt,rfl,_,rfl⟩ λh₃ he=>?_)));have M:=Sp.Xn S2 he;refine Wn (hA.2 W _ ρ J _ [] Q tv.toList (by rw[NC,Z.4,hl]) M.1 (by rw[xz P S.st hx Z.4 hv,NG];exact e)) (λc s' h'=>?_) λc c z=>z;induction h' with|mk ρ' S' k' e'=>exact⟨ρ',J,S',LP.congr λa ha=>(k' a ha).trans (M.2 a ha),e'⟩
   ·refine ae hex λp z7=>?_;refine ae (Qg z7.1) λj hj=>?_;have q:=MP (P.1 j p hj).2;refine ae (gJ hx p.2 q) λxs hxs=>?_;have z:(((J p.2).bind WY).bind λxs=>xs[i]?)∈vs.map some:=by rw[<-rJ hx];exact NB (f:=λa=>((J a).bind WY).bind λxs=>xs[i]?) q
    refine ae (NF.mp z) λv z6=>?_;have z:=z6.2;rw[hxs,NI,(tb P S.st hxs).mp z7.2] at z;cases z
theorem rI:∀{vs:List Me}{as:List Ml},vs.map er=as.map MK->vs=as.map MK
 |[],[],_=>rfl
 |[],_::_,h=>by cases h
 |_::_,[],h=>by cases h
 |v::vs,a::as,h=>by
  injection h with h1 h2
  rw[Nn,aq h1,rI h2]
theorem Ab(h23:ls.length=2∨ls.length=3)(hl:es.length=ls.length)(hA:qs X es kb kb')(hb:cm X body .Wz kb)(x:W.St J ρ s)(h:LG W (uJ ls) kb' k Q f 0 ρ J):W.wp (OH (.type "zip") (ls.map MK)) (λv=>W.wp (Tr v) (λit=>Wx (Mk W.Z.prog W.Z.w) W.A (.forLoop (.Tuple es kd p) it body [] W.env) (LR W k Q))) s:=by
 have hls:∀a∈ls,∃xs,(J a).bind WY=Md xs:=by
  induction f with
  |zero=>exact h.elim
  |succ f=>exact h.elim (λq=>gJ q.1) λ⟨_,q,_⟩=>gJ q
 refine of (xt (items:=dQ s.heap) h23 (λa ha=>(hls a ha).elim λxs e=>(dB x e).2) λh' n0 kept hn0 Z0 k0=>of (wpAny_pyIter_zip Z0.1 ?_));have P:vX n0 ls (((Oi ls.length).map (n0+·)).zip ls):=prs;have hlt:∀a∈ls,a<n0:=λa ha=>by refine ae (hls a ha) λxs e=>?_;refine ae ((dB x e).2) λo z5=>?_;obtain⟨q,_⟩:=z5;exact hn0▸NA q
 have D:=P.apart hlt;have hn:∀a∈zo (n0+ls.length+2) (n0+ls.length) (n0+ls.length+1) _,¬W.Φ.fr a:=λa ha=>x.X1 (hn0▸P.ge a ha);have h0:(((Oi ls.length).map (n0+·)).zip ls)≠[]:=λq=>by have:=P.3;rw[q] at this;rcases h23 with e|e<;>rw[e] at this<;>cases this
 exact ET hn (ZJ _ _ _ _) (λi h h' e=>ZJ.congr e) hb (λi ρ J s S LZ=>vS P D h0 (by rw[P.3];lia) (by rw[P.3,hl]) hA hn S LZ) (x.aaL (t:=s.toks) k0 λa ha=>⟨hn0▸P.ge a ha,qz Z0 a ha⟩) ⟨kept,Z0.1,Z0.2,Z0.3,Z0.4,λj q hq=>(Z0.5 j q hq).1⟩ h
theorem A7{g:Np}{gp p2 q:Qw}{as:List MY}(hg:ax X g (.type "zip")/\dn g)(h23:as.length=2∨as.length=3)(hl:es.length=as.length)(hA:qs X es kb kb')(hb:cm X body .Wz kb)(hE:dF X as (.WA (.zip as.length) kb' k) c):iU X (.For (.Tuple es kd p) (.Call (.Name g gp) as [] p2) body [] q) k c:=λW ρ J s Q x e=>
 XJ (cN x hg λf s₁ hf x₁=>by rw[bK hf];exact b9 (first:=[]) x₁ hE e (.inl λa=>nofun) λvs J' s' l x' e'=>by refine ga e' λst' nx f z3=>?_;refine ae z3.1 λls z4=>?_;have h1:=z4.1;obtain rfl:=z4.2;rw[eU (by rw[Mu,l])] at h1;obtain⟨h2,rfl⟩:=VV (MJ h1);have e:=rI h2;subst e;rw[Mu] at l;rw[List.nil_append];exact Ab (by rw[l];exact h23) (hl.trans l.symm) hA hb x' z3.2) (iD rfl)
end
end Wc
namespace Wc
abbrev C1(P:T->Prop):=Option {c:T // P c}
noncomputable def bnd{P:α->Prop}(o:Option {c:α // P c})(f:∀c,P c->Option β):Option β:=match o with
 |some x=>f x.1 x.2
 |none=>Mr
noncomputable def c8(p:Prop)[Decidable p](f:p->Option β):Option β:=if h:p then f h else Mr
noncomputable def opt(o:Option α)(f:∀a,o=Md a->Option β):Option β:=match o,f with
 |some a,f=>f a rfl
 |none,_=>Mr
abbrev zq(X:CX):=∀(e:MY)(k:T),C1 (aP X e k)
abbrev Ah(X:CX):=∀(e:MY)(kt kf:T),C1 (rj X e kt kf)
abbrev Ct(X:CX):=∀(t:OO)(k:T),C1 (iU X t k)
noncomputable def BJ:(e:MY)->Option {q:Np×Qw // e=.Name q.1 q.2}
 |.Name y p=>Md ⟨(y,p),rfl⟩
 |_=>Mr
noncomputable def Iv:(e:MY)->Option {q:List MY×Nat×Qw // e=.Tuple q.1 q.2.1 q.2.2}
 |.Tuple y k p=>Md ⟨(y,k,p),rfl⟩
 |_=>Mr
noncomputable def It:(e:MY)->Option {q:Const×Nat×Qw // e=.Constant q.1 q.2.1 q.2.2}
 |.Constant y k p=>Md ⟨(y,k,p),rfl⟩
 |_=>Mr
noncomputable def Iw:(e:MY)->Option {q:UnaryOp×MY×Qw // e=.UnaryOp q.1 q.2.1 q.2.2}
 |.UnaryOp o y p=>Md ⟨(o,y,p),rfl⟩
 |_=>Mr
noncomputable def Iu:(e:MY)->Option {q:MY×List MY×Qw // e=.Call q.1 q.2.1 [] q.2.2}
 |.Call o y [] p=>Md ⟨(o,y,p),rfl⟩
 |_=>Mr
noncomputable def v2:(l:List α)->Option {q:α×α // l=[q.1,q.2]}
 |[a,b]=>Md ⟨(a,b),rfl⟩
 |_=>Mr
noncomputable def v3:(l:List α)->Option {q:α×α×α // l=[q.1,q.2.1,q.2.2]}
 |[a,b,c]=>Md ⟨(a,b,c),rfl⟩
 |_=>Mr
def wx(X:CX)(es:List MY)(xs:List Me):Prop:=xs.length=es.length/\∀(W:Cn X)(ρ:Loc)(J:Sg)(s:Mn)(pos:Qw),W.St J ρ s->W.wp (QA (Rb pos (OM es W.env))) (λvs s₂=>W.St J ρ s₂/\vs.map er=xs) s
section
variable{X:CX}
theorem GN:wx X [] []:=⟨rfl,λa a a a a x=>Xd ⟨x,rfl⟩⟩
theorem FW{c:Const}(h:∀k,aP X (.Constant c kd p) k (.cst v k))(H:wx X es xs):wx X (.Constant c kd p::es) (v::xs):=
 ⟨congrArg (·+1) H.1,λW ρ J s pos x=>WT (Cn.abe (h .yld W ρ J s [] (λo J'=>o=.val v ρ/\J'=J) x ⟨rfl,rfl⟩) λu s₁ q=>by refine ae q λJ' z2=>?_;rw[<-z2.2.2];refine Wn (H.2 W ρ _ s₁ pos z2.1) (λws s₂ h₂=>⟨h₂.1,?_⟩) λa a z=>z;rw[Nn,h₂.2,show er u=v by injection z2.2.1]) (bT rfl)⟩
theorem BN(hl:es.length<=20)(H:wx X es xs):Zk X (.Tuple es kd p) xs:=λW ρ J s x=>
 ZZ (Wn (H.2 W ρ J s p x) (λvs s₁ h₁=>by
  have hlen:vs.length<=20:=by rw[<-Mu (f:=er),h₁.2,H.1];exact hl
  refine of ?_;unfold Uy;refine Pe ⟨h₁.1.Wy _ _,_,vs.toArray,0,#[],rfl,MS _ rfl,?_⟩ (by show vs.toArray.size<=Sw;rw[Oj,NL];exact Nk hlen (by decide));rw[List.toList_toArray];exact h₁.2) λa a z=>z)
noncomputable def xX(K:PQ)(a:Ml):Option (Array Me):=((K.lookup a).bind Ai).map (·.1)
theorem ux(h:xX K a=Md vs):bM λm sl=>K.lookup a=Md (⟨.type "tuple",Mr,.seq vs m,sl⟩:P9):=by refine ae (MQ.mp h) λv z1=>?_;refine ae (Mz.mp z1.1) λo z2=>?_;have e:=tG z2.2;rw[z1.2] at e;exact⟨v.2,o.slots,e▸z2.1⟩
theorem Cq(hg:ax X y (.ref a)/\dn y)(hK:xX X.K a=Md vs):Zk X (.Name y p) (vs.toList.map er):=λW b b b x=>by refine bI (ux hK) λm sl h=>?_;exact Cn.ZM x hg λu b hu x'=>⟨x',a,vs,m,sl,aq hu,x'.here W.hb _ _ (W.B.1 _ _ h),rfl⟩
end
section
variable(X:CX)
noncomputable def gK(kd:Nat)(p:Qw):(c:Const)->Option {v:Me // ∀k,aP X (.Constant c kd p) k (.cst v k)}
 |.none=>Md ⟨_,λa=>BE⟩
 |.bool _=>Md ⟨_,λa=>BB⟩
 |.int _=>Md ⟨_,λa=>Ez⟩
 |.str _=>Md ⟨_,λa=>Eb⟩
 |.bytes _=>Md ⟨_,λa=>zM⟩
 |_=>Mr
noncomputable def Hv:(es:List MY)->Option {xs:List Me // wx X es xs}
 |[]=>Md ⟨_,GN⟩
 |e::es=>match e with
  |.Constant c kd p=>bnd (gK X kd p c) λa h=>bnd (Hv es) λa H=>Md ⟨_,FW h H⟩
  |_=>Mr
noncomputable def Fn(p:Qw):(v:Me)->ax X y v/\dn y->Option {xs:List Me // Zk X (.Name y p) xs}
 |.ref a,hg=>opt (xX X.K a) λb h=>Md ⟨_,Cq hg h⟩
 |_,_=>Mr
noncomputable def Gc:(r:MY)->Option {xs:List Me // Zk X r xs}
 |.Tuple es _ _=>c8 (es.length<=20) λhl=>bnd (Hv X es) λa H=>Md ⟨_,BN hl H⟩
 |.Name y p=>bnd (gl X y) λv hg=>Fn X p v hg
 |_=>Mr
noncomputable def H0(y:Np)(p:Qw)(k:T):C1 (aP X (.Name y p) k):=
 c8 (dn y) λhd=>if h:X.scope.names.lookup y=Md .local then Md ⟨_,Gk h hd⟩ else if h:X.scope.names.lookup y=Md .cell then Md ⟨_,DY h hd⟩ else bnd (gl X y) λa h=>Md ⟨_,GW h⟩
end
section
variable{X:CX}(f:zq X)(g:Ah X)
noncomputable def qr(k:T):(es:List MY)->C1 (dF X es k)
 |[]=>Md ⟨_,Dx⟩
 |e::es=>c8 (Xl e=Mh) λhs=>bnd (qr k es) λc1 h1=>bnd (f e c1) λa h=>Md ⟨_,GU hs h1 h⟩
noncomputable def gO(k:T):(e:Option MY)->C1 (EU X e k)
 |none=>Md ⟨_,G4⟩
 |some e=>bnd (f e k) λa h=>Md ⟨_,Ge h⟩
noncomputable def Hp(op:Ux)(kt kf:T):(es:List MY)->C1 (se X op es kt kf)
 |[]=>Md ⟨_,Ex⟩
 |y::vs=>bnd (Hp op kt kf vs) λc1 h1=>match op,h1 with
  |.And,h1=>bnd (g y c1 kf) λa h=>Md ⟨_,D5 h1 h⟩
  |.Or,h1=>bnd (g y kt c1) λa h=>Md ⟨_,EJ h1 h⟩
noncomputable def gB(op:Ux):(es:List MY)->C1 (Cc X op es)
 |[]=>Mr
 |[y]=>bnd (f y .yld) λa h=>Md ⟨_,F6 h⟩
 |y::y2::vs=>bnd (gB op (y2::vs)) λc1 h1=>match op,h1 with
  |.And,h1=>bnd (f y (.dup (.ite (.pop c1) .yld))) λa h=>Md ⟨_,F9 h1 h⟩
  |.Or,h1=>bnd (f y (.dup (.ite .yld (.pop c1)))) λa h=>Md ⟨_,GL h1 h⟩
noncomputable def Hi(kt kf:T):(ops:List U8)->(rs:List MY)->C1 (wt X ops rs kt kf)
 |[op],[r]=>bnd (GC op) λo ho=>c8 (OA op r=Mh) λhm=>bnd (f r (.cmp o (.ite kt kf))) λa h=>Md ⟨_,Ek hm ho h⟩
 |op::op2::ops,r::r2::rs=>bnd (GC op) λo ho=>bnd (Hi kt kf (op2::ops) (r2::rs)) λc1 h1=>bnd (f r (.XK o (.ite c1 (.pop kf)))) λa h=>Md ⟨_,DC ho h1 h⟩
 |_,_=>Mr
noncomputable def Hk(neg:Bool)(ho:op=(if neg then .IsNot else .Is))(k:T):(r:MY)->C1 (yw X l op r k)
 |.Constant .none _ _=>bnd (f l (.isn neg k)) λa h=>Md ⟨_,G2 (r:=l) ho h⟩
 |_=>Mr
noncomputable def HI{r:MY}(neg:Bool)(ho:op=(if neg then .NotIn else .In))(k:T):C1 (yw X l op r k):=
 c8 (OA op r=Mh) λhm=>bnd (Gc X r) λxs ht=>bnd (f l (.inn neg xs k)) λa h=>Md ⟨_,abo hm ho ht h⟩
noncomputable def Hs{r:MY}(neg:Bool)(ho:op=(if neg then .NotEq else .Eq))(k:T):C1 (yw X l op r k):=
 c8 (OA op r=Mh) λhm=>bnd (f r (.eqv neg k)) λc1 h1=>bnd (f l c1) λa h=>Md ⟨_,Gr hm ho h1 h⟩
noncomputable def gC(l r:MY)(k:T):(op:U8)->C1 (yw X l op r k)
 |.Is=>Hk f Mh rfl k r
 |.IsNot=>Hk f Mj rfl k r
 |.In=>HI f Mh rfl k
 |.NotIn=>HI f Mj rfl k
 |.Eq=>Hs f Mh rfl k
 |.NotEq=>Hs f Mj rfl k
 |op=>bnd (GC op) λo ho=>c8 (OA op r=Mh) λhm=>bnd (f r (.cmp o k)) λc1 h1=>bnd (f l c1) λa h=>Md ⟨_,Fc hm ho h1 h⟩
noncomputable def Av:List (Option MY)->Option (List Np)
 |[]=>Md []
 |k::ks=>match k with
  |some (.Constant (.str x) _ _)=>(Av ks).map (x::·)
  |_=>Mr
noncomputable def Hw(k:T):(xs:List Np)->(ks:List (Option MY))->(vs:List MY)->C1 (wh X ks vs xs k)
 |[],[],[]=>Md ⟨_,GE⟩
 |x::xs,Md (.Constant (.str x') _ _)::ks,v::vs=>if h:x'=x then bnd (Hw k xs ks vs) λc1 H=>bnd (f v c1) λc h'=>Md ⟨c,by subst h;exact Gd H h'⟩ else Mr
 |_,_,_=>Mr
noncomputable def Gm(p:Qw)(k:T)(v:MY):(i:MY)->C1 (aP X (.Subscript v i p) k)
 |.Slice l u Mr _=>bnd (gO f (.sli k) u) λc1 h1=>bnd (gO f c1 l) λc2 h2=>bnd (f v c2) λa h=>Md ⟨_,EM h1 h2 h⟩
 |i=>c8 (dA i=Mh) λhs=>bnd (f i (.idx k)) λc1 h1=>bnd (f v c1) λa h=>Md ⟨_,Fd hs h1 h⟩
noncomputable def DK(p:Qw)(k:T)(i:MY):(v:MY)->C1 (aP X (.Subscript v i p) k)
 |.Dict ks vs _=>opt (Av ks) λxs a=>c8 xs.Nodup λhn=>c8 (ks.length<=15) λhl=>c8 (ks.isEmpty=Mh) λh0=>c8 (dA i=Mh) λhs=>
   bnd (f i (.sel (xs.map λx=>.str x 0) k)) λc1 hi=>bnd (Hw f c1 xs ks vs) λa H=>Md ⟨_,EA H hn hl h0 hs hi⟩
 |v=>Gm f p k v i
noncomputable def HW(v:MY)(a:Np)(p:Qw)(k:T):C1 (aP X (.Attribute v a p) k):=
 c8 (fL v=Mj) λhb=>c8 (enc a≠0) λh0=>if a="have" then bnd (f v (.prop (enc a) k)) λb h=>Md ⟨_,CY hb h0 h⟩ else bnd (f v (.fld (enc a) k)) λb h=>Md ⟨_,EV hb h0 h⟩
noncomputable def G6(hg:ax X y v/\dn y)(e:MY)(gp pos:Qw)(k:T):C1 (aP X (.Call (.Name y gp) [e] [] pos) k):=
 if h:v=.builtin "len" then bnd (qr f (.len k) [e]) λa H=>Md ⟨_,DO (h▸hg) H⟩ else
 if h:v=.type "int" then bnd (qr f (.Xr k) [e]) λa H=>Md ⟨_,BP (h▸hg) H⟩ else
 if h:v=.type "bytes" then bnd (qr f (.Xb k) [e]) λa H=>Md ⟨_,wj (h▸hg) H⟩ else
 if h:v=.type "list" then bnd (qr f (.Yj k) [e]) λa H=>Md ⟨_,Ap (h▸hg) H⟩ else
 if h:v=.builtin "abs" then bnd (qr f (.abs k) [e]) λa H=>Md ⟨_,Fl (h▸hg) H⟩ else Mr
noncomputable def Hd(hg:ax X y v/\dn y)(e:MY)(gp pos:Qw)(k:T):(t:MY)->C1 (aP X (.Call (.Name y gp) [e,t] [] pos) k)
 |.Name ty _=>if h:v=.builtin "isinstance" then c8 (Xl e=Mh) λhs=>bnd (gl X ty) λtv ht=>bnd (f e (.isi tv k)) λa H=>Md ⟨_,EQ (h▸hg) ht hs H⟩ else Mr
 |_=>Mr
noncomputable def Gj(hg:ax X y v/\dn y)(gp pos:Qw)(k:T):(as:List MY)->C1 (aP X (.Call (.Name y gp) as [] pos) k)
 |[]=>if h:v=.type "bytearray" then Md ⟨_,C9 (h▸hg)⟩ else Mr
 |[e]=>G6 f hg e gp pos k
 |[e,t]=>if h:v=.builtin "min" then bnd (qr f (.YT k) [e,t]) λa H=>Md ⟨_,DW (h▸hg) H⟩ else Hd f hg e gp pos k t
 |_=>Mr
noncomputable def Gs(gp pos:Qw)(k:T)(as:List MY):(v:Me)->ax X y v/\dn y->C1 (aP X (.Call (.Name y gp) as [] pos) k)
 |.ref a,hg=>c8 (Zh a=Mj) λhc=>bnd (qr f (.call as.length k) as) λb H=>Md ⟨_,CZ hg hc H⟩
 |_,hg=>Gj f hg gp pos k as
noncomputable def EG{m:Np}(yp apos pos:Qw)(k:T)(as:List MY)(hp:apos.endLine=pos.line)(hl:as.length<=20):(v:Me)->ax X y v/\dn y->C1 (aP X (.Call (.Attribute (.Name y yp) m apos) as [] pos) k)
 |.ref C,hy=>if hm:m="__init__" then opt (mt C (enc ("__init__":Np))) λu hu=>bnd (qr f (.call as.length k) as) λa H=>Md ⟨_,hm▸Bv hy hu hp hl H⟩ else Mr
 |_,_=>Mr
noncomputable def AI(o:MY)(m:Np)(apos pos:Qw)(k:T)(as:List MY)(hp:apos.endLine=pos.line)(hl:as.length<=20):C1 (aP X (.Call (.Attribute o m apos) as [] pos) k):=
 c8 (fL o=Mj) λhb=>c8 (enc m≠0) λh0=>if m="append"∨m="extend"∨m="get"∨m="bit_length" then bnd (qr f (.cb as.length k) as) λc1 h1=>bnd (f o (.bm (enc m) c1)) λa h=>Md ⟨_,GF hb h0 hp hl h1 h⟩
  else bnd (qr f (.XM as.length k) as) λc1 h1=>bnd (f o (.meth (enc m) c1)) λa h=>Md ⟨_,Bh hb h0 hp hl h1 h⟩
noncomputable def Im(m:Np)(apos pos:Qw)(k:T)(as:List MY)(hp:apos.endLine=pos.line)(hl:as.length<=20):(o:MY)->C1 (aP X (.Call (.Attribute o m apos) as [] pos) k)
 |.Name y yp=>if X.scope.names.lookup y=Md .globalImplicit then bnd (gl X y) λv h=>EG f yp apos pos k as hp hl v h else AI f (.Name y yp) m apos pos k as hp hl
 |o=>AI f o m apos pos k as hp hl
noncomputable def Fk(pos:Qw)(k:T)(as:List MY):(fn:MY)->C1 (aP X (.Call fn as [] pos) k)
 |.Name y gp=>bnd (gl X y) λv h=>Gs f gp pos k as v h
 |.Attribute o m apos=>c8 (apos.endLine=pos.line) λhp=>c8 (as.length<=20) λhl=>Im f m apos pos k as hp hl o
 |_=>Mr
end
section
variable(f:∀X,zq X)(g:∀X,Ah X)(X:CX)
noncomputable def DJ(y:Np)(yp:Qw)(ifs:List MY)(elt:MY)(scope:O2)(pos:Qw)(k body:T)(hT:gr (cR X scope) ifs elt body)(hok:j8 X scope y=Mj)(iter:MY)(hden:oF (.ListComp elt [⟨.Name y yp,iter,ifs,0⟩] scope pos) y yp iter.pos ifs elt):C1 (aP X (.ListComp elt [⟨.Name y yp,iter,ifs,0⟩] scope pos) k):=
 (bnd (Iu iter) λq hq=>bnd (BJ q.1) λz hz=>bnd (v2 q.2.1) λab hab=>bnd (gl X z.1) λv hg=>c8 (v=.type "range") λh=>bnd (qr (f X) (.Xo Mj (enc y) body k) [ab.1,ab.2]) λa hi=>Md ⟨_,Aq (h▸hg) hok hT hden (by rw[hq,hz,hab]) hi⟩).or
 (c8 (YD iter=Mh) λhs=>bnd (f X iter (.Xo Mh (enc y) body k)) λa hi=>Md ⟨_,yI hok hs hT hden hi⟩)
noncomputable def HR(elt:MY)(scope:O2)(pos:Qw)(k:T):(gens:List Comprehension)->C1 (aP X (.ListComp elt gens scope pos) k)
 |[⟨.Name y yp,iter,[],0⟩]=>c8 (j8 X scope y=Mj) λhok=>bnd (f (cR X scope) elt .yld) λke h=>DJ f X y yp [] elt scope pos k ke (xp h) hok iter CB
 |[⟨.Name y yp,iter,[t],0⟩]=>c8 (j8 X scope y=Mj) λhok=>bnd (f (cR X scope) elt .yld) λke h=>bnd (g (cR X scope) t ke .Wz) λbody ht=>DJ f X y yp [t] elt scope pos k body (xJ h ht) hok iter Cr
 |_=>Mr
noncomputable def GH(y:MY)(p:Qw)(k:T):(op:UnaryOp)->C1 (aP X (.UnaryOp op y p) k)
 |.USub=>bnd (f X y (.neg k)) λa h=>Md ⟨_,Ds h⟩
 |_=>Mr
noncomputable def G8(l:MY)(p:Qw)(k:T):(ops:List U8)->(rs:List MY)->C1 (aP X (.Compare l ops rs p) k)
 |[op],[r]=>bnd (gC (f X) l r k op) λa h=>Md ⟨_,Du h⟩
 |_,_=>Mr
noncomputable def gE(k:T):(e:MY)->C1 (aP X e k)
 |.Constant c kd p=>bnd (gK X kd p c) λd h=>Md ⟨_,h k⟩
 |.Name y p=>H0 X y p k
 |.BinOp l op r _=>bnd (HK op) λo ho=>bnd (f X r (.bin o k)) λc1 h1=>bnd (f X l c1) λd h=>Md ⟨_,DL ho h1 h⟩
 |.UnaryOp op y p=>GH f X y p k op
 |.IfExp t a b _=>bnd (f X a .yld) λc1 h1=>bnd (f X b .yld) λc2 h2=>bnd (g X t c1 c2) λd h=>Md ⟨_,Gv h h1 h2⟩
 |.BoolOp op vs _=>bnd (gB (f X) op vs) λd h=>Md ⟨_,yK h⟩
 |.Compare l ops rs p=>G8 f X l p k ops rs
 |.Attribute v a p=>HW (f X) v a p k
 |.Subscript v i p=>DK (f X) p k i v
 |.List es _=>c8 (es.length<=1000) λhl=>bnd (qr (f X) (.Xa es.length k) es) λd h=>Md ⟨_,B7 hl h⟩
 |.Tuple es _ _=>c8 (es.length<=1000) λhl=>bnd (qr (f X) (.Xz es.length k) es) λd h=>Md ⟨_,yY hl h⟩
 |.Dict [] [] _=>Md ⟨_,CV⟩
 |.Call fn as [] pos=>Fk (f X) pos k as fn
 |.ListComp elt gens scope pos=>HR f g X elt scope pos k gens
 |_=>Mr
noncomputable def HZ(l:MY)(p:Qw)(kt kf:T):(ops:List U8)->(rs:List MY)->C1 (rj X (.Compare l ops rs p) kt kf)
 |[op],[r]=>bnd (gC (f X) l r (.ite kt kf) op) λa h=>Md ⟨_,Gl h⟩
 |ops,rs=>bnd (Hi (f X) kt kf ops rs) λc1 h1=>bnd (f X l c1) λa h=>Md ⟨_,ED h1 h⟩
noncomputable def Ic(y:MY)(p:Qw)(kt kf:T):(op:UnaryOp)->C1 (rj X (.UnaryOp op y p) kt kf)
 |.Not=>bnd (g X y kf kt) λa h=>Md ⟨_,Fp h⟩
 |_=>Mr
noncomputable def gT(kt kf:T):(e:MY)->C1 (rj X e kt kf)
 |.UnaryOp op y p=>Ic g X y p kt kf op
 |.BoolOp op vs _=>bnd (Hp (g X) op kt kf vs) λa h=>Md ⟨_,FY h⟩
 |.Compare l ops rs p=>HZ f X l p kt kf ops rs
 |e=>c8 (xv e=Mh) λht=>bnd (f X e (.ite kt kf)) λa h=>Md ⟨_,GO ht h⟩
end
structure Ff where
 e:∀X,zq X
 t:∀X,Ah X
noncomputable def cr(n:Nat):Ff:=Nat.rec (motive:=λa=>Ff) ⟨λa a a=>Mr,λa a a a=>Mr⟩ (λa r=>⟨λX e k=>gE r.e r.t X k e,λX e kt kf=>gT r.e r.t X kt kf e⟩) n
noncomputable def aaq:(t:RW α)->Option {a:α // t=NO a}
 |.pure a=>Md ⟨a,rfl⟩
 |_=>Mr
noncomputable def HL(t:RW Bool)(f:t=NO Mh->Option β):Option β:=bnd (aaq t) λb h=>match b,h with
 |false,h=>f h
 |true,_=>Mr
section
variable{X:CX}(f:zq X)(g:Ah X)(S:Ct X)
abbrev Loc?(X:CX)(y:Np):Prop:=And (X.scope.names.lookup y=Md .local) (enc y≠0)
noncomputable def FZ(k:T):(es:List MY)->C1 (qs X es k)
 |[]=>Md ⟨_,FU⟩
 |e::es=>bnd (BJ e) λy hy=>c8 (Loc? X y.1) λh=>bnd (FZ k es) λa H=>Md ⟨_,hy▸Go h.1 h.2 H⟩
noncomputable def gA(k:T):(t:MY)->C1 (uI X t k)
 |.Name y _=>c8 (Loc? X y) λh=>Md ⟨_,Ep h.1 h.2⟩
 |.Attribute o a _=>c8 (enc a≠0) λh0=>bnd (f o (.XD (enc a) k)) λb h=>Md ⟨_,Gq h0 h⟩
 |.Subscript o i _=>bnd (f i (.XF k)) λc1 h1=>bnd (f o c1) λb h=>Md ⟨_,Gw h1 h⟩
 |.Tuple es _ _=>bnd (FZ k es) λb H=>Md ⟨_,GT H⟩
 |_=>Mr
noncomputable def H9(v:MY)(pos:Qw)(k:T)(t:MY)(hs:O0 [t] v pos.line (Xs X)=NO Mh)(ns:List Np)(hw:O1 [t] v (Xs X)=NO (Md ns)):C1 (iU X (.Assign [t] v pos) k):=bnd (Iv t) λq ht=>
 (bnd (v2 q.1) λr hr=>bnd (BJ r.1) λy hy=>bnd (BJ r.2) λz hz=>c8 (ns=[y.1,z.1]) λe=>c8 (Loc? X y.1) λly=>c8 (Loc? X z.1) λlz=>c8 (enc y.1≠enc z.1) λhn=>
  bnd (f v (.unp 2 (.st (enc y.1) (.st (enc z.1) k)))) λa h=>Md ⟨_,EO (by rw[ht,hr,hy,hz]) hs hw e ly.1 lz.1 ly.2 lz.2 hn h⟩).or
 (bnd (v3 q.1) λr hr=>bnd (BJ r.1) λy hy=>bnd (BJ r.2.1) λz hz=>bnd (BJ r.2.2) λw hw'=>c8 (ns=[y.1,z.1,w.1]) λe=>c8 (Loc? X y.1) λly=>c8 (Loc? X z.1) λlz=>c8 (Loc? X w.1) λlw=>c8 (And (enc y.1≠enc z.1) (And (enc y.1≠enc w.1) (enc z.1≠enc w.1))) λhn=>
  bnd (f v (.unp 3 (.st (enc y.1) (.st (enc z.1) (.st (enc w.1) k))))) λa h=>Md ⟨_,EE (by rw[ht,hr,hy,hz,hw']) hs hw e ly.1 lz.1 lw.1 ⟨ly.2,lz.2,lw.2⟩ ⟨hn.1,hn.2.1,hn.2.2⟩ h⟩)
noncomputable def GM(t v:MY)(pos:Qw)(k:T):C1 (iU X (.Assign [t] v pos) k):=
 HL (O0 [t] v pos.line (Xs X)) λhs=>bnd (aaq (O1 [t] v (Xs X))) λw hw=>match w,hw with
  |none,hw=>bnd (gA f k t) λc1 h1=>bnd (f v c1) λa h=>Md ⟨_,DM hs hw h1 h⟩
  |some ns,hw=>H9 f v pos k t hs ns hw
noncomputable def Hg(op:RG)(v:MY)(pos:Qw)(k:T)(t:MY):C1 (iU X (.AugAssign t op v pos) k):=bnd (HK op) λo ho=>match t with
 |.Name y _=>c8 (Loc? X y) λhy=>bnd (f v (.iop o (.st (enc y) k))) λb h=>Md ⟨_,Bw hy.1 hy.2 ho h⟩
 |.Attribute ob a _=>c8 (enc a≠0) λh0=>bnd (f v (.iop o (.W8 (.XD (enc a) k)))) λc1 h1=>bnd (f ob (.dup (.fld (enc a) c1))) λb h=>Md ⟨_,Bn h0 ho h1 h⟩
 |_=>Mr
noncomputable def Dk(k:T):(ts:List OO)->C1 (cm X ts k)
 |[]=>Md ⟨_,GJ⟩
 |t::ts=>bnd (Dk k ts) λc1 h1=>bnd (S t c1) λa h=>Md ⟨_,GZ h1 h⟩
noncomputable def H6(hg:ax X z v/\dn z)(hv:v=.type "range")(hy:Loc? X y)(yp gp pos fp:Qw)(body:List OO)(kb k:T)(hb:cm X body .Wz kb):(as:List MY)->C1 (iU X (.For (.Name y yp) (.Call (.Name z gp) as [] fp) body [] pos) k)
 |[a]=>bnd (qr f (.WA (.rng Mh) (.st (enc y) kb) k) [a]) λc H=>Md ⟨_,By (hv▸hg) hy.1 hy.2 hb H⟩
 |[a,b]=>bnd (qr f (.WA (.rng Mh) (.st (enc y) kb) k) [a,b]) λc H=>Md ⟨_,BD (hv▸hg) hy.1 hy.2 hb H⟩
 |[a,b,d]=>bnd (Iw d) λu hu=>bnd (It u.2.1) λw hw=>c8 (u.1=.USub) λe1=>c8 (w.1=.int 1) λe2=>c8 (Xl a=Mh) λha=>c8 (Xl b=Mh) λhb'=>bnd (f b (.WA (.rng Mj) (.st (enc y) kb) k)) λc1 h1=>bnd (f a c1) λc h=>Md ⟨_,Bd (kd:=w.2.1) (cp:=w.2.2) (up:=u.2.2) (by rw[hu,e1,hw,e2]) (hv▸hg) hy.1 hy.2 hb ha hb' h1 h⟩
 |_=>Mr
noncomputable def HS(hg:ax X z v/\dn z)(hv:v=.type "zip")(gp pos fp:Qw)(body:List OO)(kb k:T)(hb:cm X body .Wz kb)(as:List MY):(t:MY)->C1 (iU X (.For t (.Call (.Name z gp) as [] fp) body [] pos) k)
 |.Tuple es _ _=>c8 (as.length=2∨as.length=3) λh23=>c8 (es.length=as.length) λhl=>bnd (FZ kb es) λkb' hA=>bnd (qr f (.WA (.zip as.length) kb' k) as) λa hE=>Md ⟨_,A7 (hv▸hg) h23 hl hA hb hE⟩
 |_=>Mr
noncomputable def Ik(gp pos fp:Qw)(body:List OO)(kb k:T)(hb:cm X body .Wz kb)(as:List MY)(t:MY)(v:Me)(hg:ax X z v/\dn z):C1 (iU X (.For t (.Call (.Name z gp) as [] fp) body [] pos) k):=
 if hv:v=.type "zip" then HS f hg hv gp pos fp body kb k hb as t else if hv:v=.type "range" then match t with
  |.Name y yp=>c8 (Loc? X y) λhy=>H6 f hg hv hy yp gp pos fp body kb k hb as
  |_=>Mr
 else Mr
noncomputable def Gy(t:MY)(body:List OO)(pos:Qw)(kb k:T)(hb:cm X body .Wz kb):(i:MY)->C1 (iU X (.For t i body [] pos) k)
 |.Call (.Name z gp) as [] fp=>bnd (gl X z) λv hg=>Ik f gp pos fp body kb k hb as t v hg
 |.Attribute o a ap=>if a="learnt" then bnd (gA f kb t) λkb' hA=>bnd (f (.Attribute o a ap) (.WA .keys kb' k)) λb hi=>Md ⟨_,C6 rfl hA hb hi⟩ else bnd (gA f kb t) λkb' hA=>bnd (f (.Attribute o a ap) (.WA .seq kb' k)) λb hi=>Md ⟨_,AD rfl hA hb hi⟩
 |i=>c8 (YD i=Mh) λhs=>bnd (gA f kb t) λkb' hA=>bnd (f i (.WA .seq kb' k)) λb hi=>Md ⟨_,AD hs hA hb hi⟩
noncomputable def gS(k:T):(t:OO)->C1 (iU X t k)
 |.Pass _=>Md ⟨_,Bl⟩
 |.Break _=>Md ⟨_,zB⟩
 |.Continue _=>Md ⟨_,sU⟩
 |.Return Mr _=>Md ⟨_,Dd⟩
 |.Return (Md e) _=>bnd (f e .ret) λc h=>Md ⟨_,Fh h⟩
 |.Expr e pos=>HL (UN e Mr pos.line (Xs X)) λhs=>bnd (f e (.pop k)) λc h=>Md ⟨_,Bu hs h⟩
 |.Assign [t] v pos=>GM f t v pos k
 |.AugAssign t op v pos=>Hg f op v pos k t
 |.If t a b _=>bnd (Dk S .Wz a) λc1 h1=>bnd (Dk S .Wz b) λc2 h2=>bnd (g t c1 c2) λc h=>Md ⟨_,Fo h h1 h2⟩
 |.While t b [] _=>bnd (Dk S .Wz b) λkb hb=>bnd (g t kb .brk) λc h=>Md ⟨_,yP hb h⟩
 |.For t i b [] pos=>bnd (Dk S .Wz b) λkb hb=>Gy f t b pos kb k hb i
 |.Raise _ _ _=>Md ⟨_,zG⟩
 |_=>Mr
end
noncomputable def cs(X:CX)(n:Nat):Ct X:=Nat.rec (motive:=λa=>Ct X) (λa a=>Mr) (λa S t k=>gS ((cr 60).e X) ((cr 60).t X) S k t) n
noncomputable def cFn(X:CX)(body:List OO):C1 (cm X body (.cst .none .ret)):=Dk (cs X 60) (.cst .none .ret) body
end Wc
variable{binds:List (Np×Me)}
namespace Wc
section
variable{R:Pj->Mn->Prop}
set_option backward.match.sparseCases true in theorem ZC{body}(h:Wj (Mk prog w) (A.deeper env) (Qc body env) (λf s'=>R (.ok (.ret (match f with|.ret v=>v|_=>.none))) s') (λe s'=>Wj (Mk prog w) (A.deeper env) (UP env e) (λa s''=>R (.error e) s'') (λe' s''=>R (.error e') s'') s') s):Wx (Mk prog w) A (.func body env) R s:=by refine WC rfl ?_;show Wj _ (A.deeper env) (do point;match <-(Qc body env).onRaise (UP env) with|.ret v=>ret v|_=>ret .none) _ _ s;refine Wi (Xm (Wi (Xj (Wn h (λf s' h'=>?_) λa a h'=>h'))));cases f<;>exact wpAny_pure h'
set_option backward.match.sparseCases true in theorem Zz{args:Args}(hroom:A.depth<O5)(ho:s.heap.get? a=Md o)(hdata:o.data=.func fd)(hcd:s.heap.CodeRec fd.code fd.qualname)(hbody:fd.body=.stmts body)(hbind:V0 s fd args binds)(hco:fd.scope.isCoroutine=Mh)(hgen:fd.scope.isGenerator=Mh)(h:My (Mk prog w) A.in1 (newFunctionEnv fd.scope fd.globals fd.closure binds (fd.qualname++OX ".<locals>.") (Md a) fd.code Mr fd.builtins) (λenv s'=>s'.heap.NoLimit/\Wx (Mk prog w) A (.func body env) R s') (λe s'=>R (.error e) s') s):Wx (Mk prog w) A (.call (.ref a) args) R s:=by refine WC rfl ?_;show Wj _ A.in1 (load a>>=_) _ _ s;refine Wi (of (QG ho ?_));refine ae hcd λc z13=>?_;refine ae z13 λoc z14=>?_;refine ae z14 λvs z15=>?_;refine ae z15 λtq z16=>?_;have hc:=z16.1;have hoc:=z16.2.1;have hdc:=z16.2.2.1;have hq:=z16.2.2.2;rw[hdata];show Wj _ A.in1 (callFunction a fd args) _ _ s;unfold callFunction;rw[hc] at h ⊢;refine Wi (m:=field (.ref c) 1) (of (Tg hoc hdc hq (Wi (wpAny_pure ?_))));refine Wi (of (hbind _ _ _ _ (Wi (of (NN h (λenv s' z=>Wi (of (wpAny_enterFrame z.1 hroom ?_))) λb b z=>z)))));rw[hgen,hco,hbody];exact wpAny_pure ⟨rfl,z.2⟩
set_option backward.match.sparseCases true in theorem YZ{args:Args}(hroom:A.depth<O5)(ho:s.heap.get? a=Md o)(hdata:o.data=.func fd)(hlim:s.heap.NoLimit)(hcd:s.heap.CodeRec fd.code fd.qualname)(hbody:fd.body=.stmts body)(hbind:V0 s fd args binds)(hcell:∀x∈fd.scope.names,x.2≠.cell)(hloc:∀x∈binds,fd.scope.names.lookup x.1=Md .local)(h:∀h₀,h₀.Ns s.heap.objs.size (λx=>binds.reverse.lookup x)->(∀b o,s.heap.get? b=Md o->h₀.get? b=Md o)-> Wj (Mk prog w) (A.deeper (Sl fd s.heap.objs.size a)) (Qc body (Sl fd s.heap.objs.size a)) (λf s'=>R (.ok (.ret (match f with|.ret v=>v|_=>.none))) s') (λe s'=>Wj (Mk prog w) (A.deeper (Sl fd s.heap.objs.size a)) (UP (Sl fd s.heap.objs.size a) e) (λc s''=>R (.error e) s'') (λe' s''=>R (.error e') s'') s') {s with heap:=h₀,toks:=s.toks+binds.length})(hco:fd.scope.isCoroutine=Mh)(hgen:fd.scope.isGenerator=Mh)(hk:fd.scope.kind=.function):Wx (Mk prog w) A (.call (.ref a) args) R s:=by refine Zz hroom ho hdata hcd hbody hbind hco hgen (wpAny_newFunctionEnv hcell hloc (λh₀ hns₀ hsb₀=>⟨hlim.fresh _ hsb₀,ZC ?_⟩) hk);exact h h₀ hns₀ λb o e=>hsb₀.extBut b o (Nf (NA e)) (ME _ e)
end
end Wc
noncomputable def dq(Kg K:PQ)(f:Ml):Option T:=(aM K f).bind λx=>(Wc.cFn ⟨Kg,x.1⟩ x.2).map UA
inductive xa(Z:Sys)(Kg:PQ)(f:Ml)(ns:List Nat)(ds:List Me)(c:T):Prop where
 |mk (ok:∃K,bG K Z.base/\kQ K f ns ds=Mj/\dq Kg K f=Md c)
noncomputable def bv.with(Φ:bv)(L:Ml):bv:=⟨Φ.o,λb=>b=L∨Φ.fr b⟩
theorem Inv.XO(I:Inv Φ J g h)(hf:g L=.free)(hL:∃o,h'.get? L=Md o)(k:∀b o,h.get? b=Md o->h'.get? b=Md o):Inv (Φ.with L) J (ic g L .loc) h':=by
 refine I.tr (·=L) (λb q=>⟨cZ q,rfl,⟨λz=>z.resolve_left q,.inr⟩,rfl⟩) (λb o a=>k b o) (λb d q e=>by rw[q,hf] at e;cases e) (λb o q e=>?_) (λb q a=>.inr (by rw[q];exact bg)) (λb c q e=>?_) λb q a=>q▸hL;·exact cns ((I.nO (q▸hf)).symm.trans e)
 ·exact cns ((I.nC (q▸hf)).symm.trans e)
theorem Inv.leave(h0:Φ.o L=Mr)(I:Inv (Φ.with L) J g h):Inv Φ J g h:=
 I.tr (·=L) (λa q=>⟨rfl,rfl,⟨.inr,λz=>z.resolve_left q⟩,rfl⟩) (λa a a e=>e) (λb d q e=>by rcases I.2 b (.inl q) with z|z<;>rw[z] at e<;>cases e) (λb o q e=>by rw[q,h0] at e;cases e) (λb a e=>I.2 b (.inr e)) (λb c a e=>I.3 b c e) λb a e=>I.4 b e
theorem o8.XO(h:o8 (n+1) A Φ)(hk:env.scope.kind=.function)(hL:env.frame=Md L):cS n (A.deeper env) (Φ.with L) L:=by
 refine ae h.2.2.2 λl z12=>?_;refine⟨by show A.depth+1+20*n+10<=900;have:=h.1;exact af 0x1080004f8411423a022413b5a1f08285501122099eed7eb53 [] [_,_] this,by show A.units+3+60*n+30<=9000;have:=h.2.1;lia,h.2.2.1,env::l,by show A.frames.map _=_;rw[z12.1];rfl,λe he=>?_⟩;refine Pl (MT.mp he) (λzz=>?_) (λhe=>?_);rw[zz];·exact⟨hk,L,hL,.inl rfl,.inl rfl⟩
 ·obtain z10:=z12.2 e he;refine ae z10.2 λL z11=>?_;exact⟨z10.1,L,z11.1,.inr z11.2.1,z11.2.2.elim (λz=>z.elim) .inr⟩
variable{ns:List Nat}
section
variable{d:Me}
theorem BH(hK:K.In s.heap)(h:wf K d ds=Mj):∃dv:List Me,dv.map er=ds/\∀(M:RX)(A:O9)(E:Me->Mn->Prop)(Q:Option (Array Me)->Mn->Prop),(∀x:Option (Array Me),(x.getD #[]).toList=dv->Q x s)->My M A (seqItems? d) Q E s:=by
 unfold wf at h;induction d with
 |none=>exact⟨[],by rw[Qn] at h;rw[h];rfl,λM A E Q hq=>MC (hq _ rfl)⟩
 |ref a=>refine ae (Qx h) λo z1=>?_;refine ae (Qx z1.2) λv z2=>?_;exact⟨v.1.toList,beq_iff_eq.mp z2.2,λM A E Q hq=>SP (hK _ _ z1.1) (s8 z2.1) (hq _ rfl)⟩
 |_=>cases h
inductive Ig(p:VF)(ns:List Nat)(sc:O2)(names:List Np):Prop where
 |mk(plain:aaO p names)
  (enc:names.map enc=ns)
  (nd:ns.Nodup)
  (nz:∀x∈names,Internal.enc x≠0)
  (loc:∀x∈names,sc.names.lookup x=Md .local)
theorem yE{p:VF}(h:Zw p ns sc=Mj):Ig p ns sc (p.args.map (·.arg)):=by
 unfold Zw at h;simp only[Of,beq_iff_eq,decide_eq_true_eq,Qn,Pa] at h;obtain⟨⟨⟨⟨⟨⟨⟨p1,p2⟩,p3⟩,p4⟩,p5⟩,p6⟩,p7⟩,p8⟩:=h;have e:(p.args.map (·.arg)).map enc=ns:=by rw[OY];exact p5
 refine⟨⟨p1,rfl,p2,p3,p4⟩,e,p6,λx hx=>?_,λx hx=>?_⟩;·have:=NU.mp p7 _ (e▸NB hx);exact bne_iff_ne.mp this
 ·refine ae (NF.mp hx) λa z9=>?_;obtain⟨ha,rfl⟩:=z9;exact beq_iff_eq.mp (NU.mp p8 a ha)
end
inductive Ent(Z:Sys)(K:PQ)(Φ:bv)(J:Sg)(A:O9)(f:Ml)(vals:List Me)(ρ:Loc)(s:Mn):Prop
 |mk (o:P9) (fd:Su) (body:List OO) (binds:List (Np×Me)):s.heap.get? f=Md o->o.data=.func fd->s.heap.NoLimit->s.heap.CodeRec fd.code fd.qualname->fd.body=.stmts body->V0 s fd ⟨vals,[]⟩ binds->
   (∀x∈fd.scope.names,x.2≠.cell)->(∀x∈binds,fd.scope.names.lookup x.1=Md .local)->fd.scope.isCoroutine=Mh->fd.scope.isGenerator=Mh->fd.scope.kind=.function->aM K f=Md (fd.scope,body)->Φ.o s.heap.objs.size=Mr->
   kH (Sl fd s.heap.objs.size f) fd.scope s.heap.objs.size->WJ Z (Φ.with s.heap.objs.size)->
   (∀h₀:Oy,h₀.Ns s.heap.objs.size (λx=>binds.reverse.lookup x)->(∀b o,s.heap.get? b=Md o->h₀.get? b=Md o)->St Z (Φ.with s.heap.objs.size) J s.heap.objs.size ρ {s with heap:=h₀,toks:=s.toks+binds.length})->Ent Z K Φ J A f vals ρ s
variable{f:Ml}
theorem ent(hlim:∀h:Oy,(∀a o,Z.base a=Md o->h.get? a=Md o)->h.NoLimit)(hK:bG K Z.base)(F:kQ K f ns ds=Mj){vals:List Me}(h1:args.length<=ns.length)(h2:ns.length<=args.length+ds.length)(I:Inv Φ J g s.heap)(hb:WJ Z Φ)(hg:s.gens=#[])(ho:s.os=Z.os)(hv:vals.map er=args):Ent Z K Φ J A f vals (ns.zip (args++ds.drop (args.length+ds.length-ns.length))) s:=by
 have zqi:_:=wc F;induction zqi with
 |mk o fd body ho' hdat hbd hbi FH=>
 have N:=yE FH.1;have base:∀a o,Z.base a=Md o->s.heap.get? a=Md o:=λa o e=>(I.1 a o (hb a o e).1).1.at (hb a o e).2;have X:K.In s.heap:=λa o e=>base a o (hK a o e);generalize fd.params.args.map (·.arg)=names at N;have hlen:names.length=ns.length:=by rw[<-N.2,Mu]
 have hargs:vals.length=args.length:=by rw[<-hv,Mu]
 have hnd:names.Nodup:=jJ (N.2▸N.3);refine ae (BH X FH.2.2.2.2.2.2.2.2.2.1) λdv z8=>?_;have hdl':dv.length=ds.length:=by rw[<-z8.1,Mu]
 have F0:=I.fresh (MD _);have hkind:(Sl fd s.heap.objs.size f).scope.kind=.function:=FH.2.2.2.2.2.2.1;have nc:∀x∈fd.scope.names,x.2≠.cell:=λx hx=>bne_iff_ne.mp (NU.mp FH.2.2.2.2.2.2.2.1 x hx);refine⟨o,fd,body,_,X _ _ ho',hdat,hlim _ base,codeRec_of X FH.2.2.2.2.2.2.2.2.1,hbd,rO (ns:=names) (vals:=vals) (ds:=dv) N.1 hnd z8.2 (aS 0x108e114200029941510d50944b521589d4130f [] [_,_,_,_] h1 hlen hargs) (aS 0x108e114200029941510d50944b521589d4130f [] [_,_,_,_] FH.2.2.2.2.2.2.2.2.2.2 hlen hdl') (iX 0x42684908610001a552168a4542513d41510aa219e856472a11c131d [] [_,_,_,_,_,_] h2 hlen hargs hdl'),nc,λx hx=>N.5 _ (Uk hx).1,FH.2.2.2.2.1,FH.2.2.2.2.2.1,FH.2.2.2.2.2.2.1,hbi,F0.2.1,⟨rfl,FH.2.2.2.2.2.2.1,rfl,FH.2.1,FH.2.2.1⟩,λa o e=>⟨(hb a o e).1,λq=>q.elim (λq=>by have:=(hb a o e).1;rw[q,F0.2.1] at this;cases this) (hb a o e).2⟩,λh₀ hns hk=>?_⟩;refine⟨ic g s.heap.objs.size .loc,_,I.XO F0.2.2 (by refine ae hns λo z5=>?_;refine ae z5 λb z6=>?_;refine ae z6 λb z7=>?_;obtain⟨q,_⟩:=z7;exact⟨o,q⟩) hk,bg,hns,λx=>?_,hg,ho⟩;rw[mB (by rw[Rg (by rw[MI,Po];exact HG (by rw[hlen,hargs,hdl'];exact h2))];exact hnd),wV (N.2▸N.3) N.4,N.2,Od,hv,Tz,z8.1,hargs,hdl',hlen]
set_option backward.match.sparseCases true in theorem XO(B:aN Z Kg){vals:List Me}(hr:o8 (n+1) A Φ)(En:Ent Z K Φ J A f vals ρ s){R:Pj->Mn->Prop}(h:∀(sc:O2)(body:List OO)(W:Cn ⟨Kg,sc⟩)(s':Mn),aM K f=Md (sc,body)->W.Z=Z->W.n=n->W.Φ=Φ.with W.L->W.A=A.deeper W.env->W.env.frame=Md W.L->Φ.o W.L=Mr->W.St J ρ s'-> Wc.Wj (Mk Z.prog Z.w) W.A (Qc body W.env) (λfl s'=>R (.ok (.ret (match fl with|.ret v=>v|_=>.none))) s') (λe s'=>Wc.Wj (Mk Z.prog Z.w) W.A (UP W.env e) (λa s''=>R (.error e) s'') (λe' s''=>R (.error e') s'') s') s'):Wc.Wx (Mk Z.prog Z.w) A (.call (.ref f) ⟨vals,[]⟩) R s:=by
 induction En with
 |mk o fd body binds a1 a2 a3 a4 a5 a6 a7 a8 a9 b1 b2 b3 b4 b5 b6 b7=>
 exact Wc.YZ (by have:=hr.1;unfold O5;exact af 0x142c61000117082284740448276b43fa041418 [] [_,_] this) a1 a2 a3 a4 a5 a6 a7 a8 (λh₀ hns hk=>h fd.scope body ⟨Z,Φ.with s.heap.objs.size,s.heap.objs.size,A.deeper (Sl fd s.heap.objs.size f),n,Sl fd s.heap.objs.size f,B,b6,b5,hr.XO b2 rfl,λx hx=>absurd rfl (a7 _ (Xi hx))⟩ _ b3 rfl rfl rfl rfl rfl b4 (b7 h₀ hns hk)) a9 b1 b2
variable{Q:Me->Sg->Prop}
set_option backward.match.sparseCases true in theorem aaW(B:aN Z Kg)(hlim:∀h:Oy,(∀a o,Z.base a=Md o->h.get? a=Md o)->h.NoLimit){c:T}(F:xa Z Kg f ns ds c)(h1:args.length<=ns.length)(h2:ns.length<=args.length+ds.length)(h:exec Z n c [] (ns.zip (args++ds.drop (args.length+ds.length-ns.length))) J (bV Q)):ac Z (n+1) (.ref f) args J Q:=λΦ g s A vals I hb hr hg ho hv=>by refine ae F.1 λK z4=>?_;have hc:=z4.2.2;refine XO B hr (ent hlim z4.1 z4.2.1 h1 h2 I hb hg ho hv) λsc body W s' hbi hZ hn hΦ b b h0 x=>?_;unfold dq at hc;rw[hbi,NI] at hc;refine ae (MQ.mp hc) λz2 z3=>?_;have c':=z2.1;have ok:=z2.2;obtain rfl:=z3.2;subst hZ hn;refine Wc.Wn (ok W _ J s' (bV Q) x h) (λfl s' hfl=>?_) λb b y=>y.elim;exact qB (r:=λf=>.ok (.ret (match f with|.ret v=>v|_=>.none))) rfl (λI=>Inv.leave h0 (hΦ▸I)) hfl (λb=>rfl) rfl
variable{d:Drawn}{g:Array GenState}
namespace Wc
section
variable{M:RX}{Q:α->Mn->Prop}
theorem aaZ{p:Option Me}{k:P9->RW α}(ho:s.heap.get? a=Md o)(h:Wj M A (k o) Q E s):Wj M A (.load a p k) Q E s:=λΓ q hΓ b c=>⟨o,ho,h Γ q hΓ b c⟩
end
section
variable{R:Pj->Mn->Prop}{os:O6}
theorem Xw{args:Args}{b:Builtin}(hq:(Vo id args).quiet=Mj)(hb:Qa TB id=Md b)(hd:Yi id=Mh)(h:Wj (Mk prog w) A.in1 (NS id args) (λa s₁=>Wj (Mk prog w) (A.under (.builtin id args)) (b args) (λfin s'=>match fin with|.done f=>R (.ok f) s'|.again c'=>c'.quiet=Mj/\Wx (Mk prog w) A c' R s') (λe s'=>R (.error e) s') s₁) (λe s'=>R (.error e) s') s):Wx (Mk prog w) A (.call (.builtin id) args) R s:=by refine WC rfl ?_;show Wj _ A.in1 (do NS id args;VS (.builtin id args)) _ _ s;refine Wi (Wn h (λa s₁ h₁=>wpAny_pure (An.intro hq (WC hd ?_))) λa a h'=>h');show Wj _ _ (match Qa TB id with|some b=>b args|none=>Uw ((withoutEnding? id "#data").getD id)) _ _ s₁;rw[hb];exact h₁
theorem aar{init:Me}(Y:Makes (Mk prog w) h C)(hi:V8 (Mk prog w) h (Qe (.ref C) "__init__") (Md init))(hb:∀self,V8 (Mk prog w) h (bindSpecial init self) (init,[self]))(hne:(Md init !=Md (Value.builtin "object.__init__"))=Mj)(hq:Wx (Mk prog w) (A.under (.builtin "type.__call__" ⟨.ref C::rest,[]⟩)) (.call init ⟨.ref (h.objs.size+1)::rest,[]⟩) (InitBack (h.objs.size+1) R) ⟨(h.push Rq).push (Sm C h.objs.size),g,d,t,os⟩):Wx (Mk prog w) A (.call (.ref C) ⟨rest,[]⟩) R ⟨h,g,d,t,os⟩:=by
 have Y':=Y;obtain⟨⟨oc,od,cd,sl,hC,e1,e2,e4⟩,made,base,self,top,call,typ⟩:=Y;refine WC rfl ?_;show Wj _ _ (callAny (.ref C) _) _ _ _;refine aaZ hC ?_;show Wj _ _ (Vv (.ref C) _) _ _ _;unfold Vv;refine Wi (of (call.at ?_));dsimp only;rw[tc_bind];refine Wi (wpAny_pure (Wi (wpAny_pure ?_)));refine wpAny_pure (a:=Fin.again (.call (.builtin "type.__call__") ⟨.ref C::rest,[]⟩)) (An.intro rfl ?_);refine Xw (QH _ (by decide +kernel)) entry_typeCall (by decide +kernel) (of (check_slot tc_kind tc_split typ (tc_args _ _ _) ?_));have hm:V8 (Mk prog w) h (mroOf (.ref C)) cd.mro:=((Looks.ld (part:=Mr) hC).andThen .now).andThen .now;have hcmp:((MK C)==TY "type")=false:=rfl;show Wj _ _ (mroOf (.ref C)>>=_) _ _ _;refine Wi (of (hm.at ?_));simp only[e4,QI,if_false];refine Wi (of (made.at ?_));refine Wi (wpAny_pure (Wi (Wo (WO (aam (new_K Y' hi (.inl hne) ?_))))));have k:∀b o,h.get? b=Md o->((h.push Rq).push (Sm C h.objs.size)).get? b=Md o:=λb o e=>ME _ (ME _ e);have hx:((h.push Rq).push (Sm C h.objs.size)).get? (h.objs.size+1)=Md (Sm C h.objs.size):=by heap_get
 have t1:V8 (Mk prog w) ((h.push Rq).push (Sm C h.objs.size)) (Ve (.ref (h.objs.size+1))) (.ref C):=(Looks.ld hx).andThen .now;have s1:=self.keeps k;have i1:=hi.keeps k;have b1:=(hb (.ref (h.objs.size+1))).keeps k;refine Wi (of (Mg (t1.at (s1.at ?_))));refine Wi (Wo (Wi (of (Mg (t1.at (i1.at ?_))))));refine Wo (Wi (of (b1.at ?_)));refine Wi (WO (WR hq λr s' z=>?_));rcases r with e|(v|_|_|_)<;>first|exact z|exact z.elim|skip
 obtain rfl:=z.1;have z:=z.2;exact wpAny_pure (wpAny_pure z)
end
end Wc
theorem HU(a:Args):(Vo "type.__call__" a).cUnits=1:=by kernel_rfl
theorem Inv.Wv{Φ:bv}{J:Sg}{g:Ml->Own}{h:Oy}{C:Ml}(I:Inv Φ J g h):Inv Φ (upd J (h.objs.size+1) (.Wv C [])) (ic (ic g h.objs.size (.part (h.objs.size+1))) (h.objs.size+1) .obj) ((h.push Rq).push (Sm C h.objs.size)):=by
 have F:=I.fresh (MD _);have F1:=I.fresh (Qf h.objs.size);have hd:((h.push Rq).push (Sm C h.objs.size)).get? h.objs.size=Md emptyDict:=by heap_get
 have hx:((h.push Rq).push (Sm C h.objs.size)).get? (h.objs.size+1)=Md (Sm C h.objs.size):=by heap_get
 have hne:h.objs.size≠h.objs.size+1:=Nf (Na _);have I1:=((I.Wy Rq).Wy (Sm C h.objs.size)).Zb (x:=.part (h.objs.size+1)) F.2.2 ⟨_,hd⟩;have I2:=I1.Zb (a:=h.objs.size+1) (x:=.obj) ((cZ hne.symm).trans F1.2.2) ⟨_,hx⟩;exact I2.cell bg F1.1 ⟨h.objs.size,λb=>Mr,#[],0,hx,(cZ hne).trans bg,(Heap.Ns.new h (.type "dict")).keeps λb o e=>ME _ e,hd,λx=>rfl,(λx v e=>nomatch e),MD _,Nc _,(λc e=>nomatch e)⟩
theorem aay(B:aN Z Kg)(hf:mt C (enc ("__init__":Np))=Md f)(h:∀x,J x=Mr->ac Z n (.ref f) (.ref x::args) (upd J x (.Wv C [])) (λv J'=>v=.none/\Q (.ref x) J')):ac Z (n+1) (.ref C) args J Q:=by
 intro Φ g s A vals I hb hr hg ho hv;have zqi:_:=(B.3 C (jo hf)).Ym;induction zqi with
 |mk K hK F=>
 have X:K.In s.heap:=λa o e=>(I.1 a o (hb a o (hK a o e)).1).1.at (hb a o (hK a o e)).2;have m:=F.10 _ f (by decide) hf;obtain⟨hh,gg,d,t,os⟩:=s;refine Wc.aar (makes_of X F.5) (PH X m.1) (λself=>bind_fn X self (beq_iff_eq.mp m.2.1)) rfl ?_;have hx:=(I.fresh (Qf hh.objs.size)).1;refine Wc.WR (h _ hx Φ _ _ _ (.ref (hh.objs.size+1)::vals) I.Wv hb ⟨by have:=hr.1;show A.depth+1+_<=_;exact af 0x1080004f8411423a022413b5a1f082a8089104cf76b43 [] [_,_] this,?_,hr.2.2⟩ hg ho (by rw[Nn,hv];rfl)) λr s' z=>?_;·show A.units+(Vo "type.__call__" ⟨.ref C::vals,[]⟩).cUnits+60*n<=9000;rw[HU];have:=hr.2.1;exact af 0x42000138ca04508fc04c82773488ca0578099104cf77348 [] [_,_] this
 ·refine ga z λv J' g' z1=>?_;rw[z1.1];rw[pe z1.2.2.2.2.1];exact⟨rfl,.ref (hh.objs.size+1),J',g',rfl,z1.2.1,z1.2.2.1,z1.2.2.2.1,z1.2.2.2.2.2⟩
section
open T renaming ld→F,fld→k',meth→l',XM→d',ite→f',call→i',XD→A',pop→j',seq→n',ret→a',Wz→e',idx→p',eqv→q',cmp→s',cst→U,Xa→v',Xz→y',bin→C',yld→w',rai→x'
open T
noncomputable abbrev G(z:Int):=T.cst (.int z 0)
noncomputable abbrev Y(z:Nat):=T.cst (.ref z)
noncomputable abbrev O(z:Nat)(y:T):T:=.ld JM (.fld z y)
noncomputable abbrev m'(z:Nat)(y:T):T:=.ld JM (.XD z y)
noncomputable abbrev r'(z:Nat)(y:T):T:=.ld JM (.meth z y)
noncomputable abbrev o':=T.bin .add
noncomputable abbrev u':=T.bin .sub
noncomputable abbrev z':=T.bin .mul
noncomputable abbrev B':=T.bin .shl
noncomputable abbrev D':=T.bin .Zc
noncomputable abbrev E':=T.bin .shr
noncomputable abbrev jB:T:=F I9<|m' I9<|YO<|m' Ly<|U .none<|a'
noncomputable abbrev j5:T:=O I9<|a'
noncomputable abbrev gN:T:=n' (G 0<|F JN<|XK .le<|f' (O I9<|s' .lt<|f' (e')<|x')<|j'<|x')<|O Ly<|bm 6776180<|F JN<|G 1024<|cb 2<|a'
noncomputable abbrev gP:T:=n' (G 0<|F JN<|XK .le<|f' (O I9<|s' .lt<|f' (e')<|x')<|j'<|x')<|F JO<|O Ly<|F JN<|XF<|U .none<|a'
noncomputable abbrev yi:T:=blk (F I9<|G 64<|s' .le<|f' (G 1024<|v' 1<|F I9<|z'<|w')<|Y 159<|F I9<|i' 1<|w')<|a'
noncomputable abbrev jE:T:=F 27747<|G 8<|y' 2<|F 27760<|G 4<|y' 2<|F 28770<|G 4<|y' 2<|y' 3<|WA .seq (unp 2<|st JP<|st Ju<|n' (F JP<|isi (.type "int")<|f' (G 0<|F JP<|XK .le<|f' (F Ju<|s' .le<|f' (e')<|x')<|j'<|x')<|x')<|e')<|F 27747<|m' 27747<|F 27760<|m' 27760<|F 28770<|m' 28770<|U .none<|a'
noncomputable abbrev jC:T:=G 768<|O 27747<|O 27760<|o'<|B'<|a'
noncomputable abbrev i5:T:=F Jv<|G 1<|O 28770<|B'<|G 1<|u'<|D'<|a'
noncomputable abbrev j9:T:=n' (F Jx<|G 4<|s' .lt<|f' (G 0<|a')<|e')<|blk (F Jx<|G 10<|s' .lt<|f' (F Jx<|G 3<|u'<|w')<|F Jx<|G 6<|u'<|w')<|a'
noncomputable abbrev lV:T:=blk (F Jx<|G 7<|s' .lt<|f' (G 7<|w')<|G 10<|w')<|a'
noncomputable abbrev pT:T:=blk (F Jx<|G 7<|s' .lt<|f' (G 8<|w')<|G 11<|w')<|a'
noncomputable abbrev lO:T:=blk (F Jx<|G 7<|s' .lt<|f' (G 9<|w')<|G 11<|w')<|a'
noncomputable abbrev ia:T:=F Jx<|G 7<|s' .lt<|a'
noncomputable abbrev kR:T:=F JQ<|G 2<|u'<|G 4<|G 1<|u'<|YT<|a'
noncomputable abbrev pB:T:=n' (F JR<|G 4<|s' .lt<|f' (G 0<|F JR<|y' 2<|a')<|e')<|F JR<|G 1<|E'<|G 1<|u'<|st JS<|F JS<|G 2<|F JR<|G 1<|D'<|C' .bor<|F JS<|B'<|y' 2<|a'
noncomputable abbrev sZ:T:=F JT<|G 1<|u'<|st JP<|n' (F JP<|G 4<|s' .lt<|f' (F JP<|G 0<|F JP<|y' 3<|a')<|e')<|F JP<|bm JL<|cb 0<|G 1<|u'<|st Lu<|G 2<|F Lu<|z'<|F JP<|F Lu<|G 1<|u'<|E'<|G 1<|D'<|o'<|st JR<|Y 262<|F JR<|i' 1<|unp 2<|st JS<|st JU<|F JR<|F JS<|F JU<|y' 3<|a'
noncomputable abbrev d4:T:=F LX<|m' LX<|v' 0<|m' LF<|v' 0<|m' LD<|v' 0<|m' 7170404<|v' 0<|m' Lu<|r' IG<|d' 0<|j'<|U .none<|a'
noncomputable abbrev f5:T:=Y 170<|G 2<|i' 1<|m' LF<|Y 170<|G 8<|O LX<|z'<|i' 1<|m' LD<|Y 170<|G 8<|O LX<|z'<|i' 1<|m' 7170404<|Y 170<|G 256<|i' 1<|m' Lu<|U .none<|a'
noncomputable abbrev iP:T:=F Jn<|m' Jn<|v' 0<|m' LV<|v' 0<|m' Jh<|v' 0<|m' Ji<|v' 0<|m' Jk<|v' 0<|m' Jl<|v' 0<|m' Jj<|v' 0<|m' Jp<|v' 0<|m' Jq<|v' 0<|m' Mc<|v' 0<|m' ID<|Y 293<|G 1<|F Jn<|k' 28770<|B'<|i' 1<|m' Jm<|Y 293<|G 1<|F Jn<|k' 28770<|B'<|i' 1<|m' Jo<|r' IG<|d' 0<|j'<|U .none<|a'
noncomputable abbrev kS:T:=Y 170<|G 12<|G 16<|z'<|i' 1<|m' LV<|Y 170<|G 12<|i' 1<|m' Jh<|Y 170<|G 12<|i' 1<|m' Ji<|Y 170<|G 12<|i' 1<|m' Jk<|Y 170<|G 12<|i' 1<|m' Jl<|Y 170<|G 12<|G 16<|z'<|i' 1<|m' Jj<|Y 170<|G 4<|G 64<|z'<|i' 1<|m' Jp<|Y 170<|G 1<|G 128<|o'<|G 14<|u'<|i' 1<|m' Jq<|Y 170<|G 1<|G 4<|B'<|i' 1<|m' Mc<|Y 170<|O Jn<|l' ID<|d' 0<|i' 1<|m' ID<|O Jm<|l' IG<|d' 0<|j'<|O Jo<|l' IG<|d' 0<|j'<|U .none<|a'
noncomputable abbrev mU:T:=F Jx<|G 16<|z'<|O Jn<|l' IF<|F Jv<|d' 1<|o'<|a'
noncomputable abbrev gu:T:=G 64<|Y 255<|F JQ<|i' 1<|z'<|a'
noncomputable abbrev eE:T:=Y 262<|F JR<|i' 1<|unp 2<|st JS<|st JU<|F JU<|F JR<|u'<|a'
noncomputable abbrev eK:T:=F Jv<|G 1<|O Jn<|k' 27760<|B'<|G 1<|u'<|D'<|O Jn<|k' 27747<|B'<|st Lu<|G 768<|F Lu<|F JV<|G 8<|O Jn<|k' 27747<|u'<|E'<|o'<|z'<|a'
noncomputable abbrev jT:T:=F Jr<|Yj<|m' Jr<|U .none<|a'
noncomputable abbrev nh:T:=O Jr<|G 0<|p'<|a'
noncomputable abbrev qg:T:=O Jr<|F JN<|p'<|st JT<|F JT<|v' 1<|O Jr<|U .none<|F JN<|sli<|o'<|O Jr<|F JN<|G 1<|o'<|U .none<|sli<|o'<|m' Jr<|F JT<|a'
noncomputable abbrev rh:T:=F JT<|v' 1<|O Jr<|U .none<|G 3<|sli<|o'<|m' Jr<|U .none<|a'
noncomputable abbrev mJ:T:=n' (F JW<|l' I4<|F Jt<|k' LF<|G 0<|d' 2<|G 0<|q' Mh<|f' (G 2<|F JW<|l' I5<|F Jt<|k' LD<|G 8<|F 7368563<|z'<|G 3<|d' 3<|o'<|a')<|e')<|n' (F JW<|l' I4<|F Jt<|k' LF<|G 1<|d' 2<|G 0<|q' Mh<|f' (G 2<|G 8<|o'<|F JW<|l' I5<|F Jt<|k' 7170404<|G 8<|F 7368563<|z'<|G 3<|d' 3<|o'<|a')<|e')<|G 2<|G 2<|G 8<|z'<|o'<|F JW<|l' I5<|F Jt<|k' Lu<|G 0<|G 8<|d' 3<|o'<|a'
noncomputable abbrev j4:T:=F JW<|l' I5<|F Jt<|k' Jp<|F Jt<|l' IJ<|F JQ<|d' 1<|G 6<|d' 3<|st JR<|n' (F JR<|G 4<|s' .lt<|f' (F JR<|G 1<|o'<|a')<|e')<|Y 262<|F JR<|i' 1<|unp 2<|st JS<|st JU<|n' (F JR<|G 14<|s' .lt<|f' (F JU<|F JW<|l' I6<|F Jt<|k' Jq<|F Jt<|l' IK<|F JR<|d' 1<|F JS<|d' 3<|o'<|G 1<|o'<|a')<|e')<|F JW<|l' 110404053590900<|F JS<|G 4<|u'<|d' 1<|st Lu<|F JU<|F Lu<|G 4<|B'<|o'<|F JW<|l' I6<|F Jt<|k' Mc<|G 0<|G 4<|d' 3<|o'<|G 1<|o'<|a'
noncomputable abbrev kK:T:=G 1<|st JX<|whl (F JX<|G 256<|s' .lt<|f' (F JX<|G 1<|B'<|F JW<|l' I4<|F ID<|F JF<|F JX<|o'<|d' 2<|C' .bor<|st JX<|e')<|brk)<|F JX<|G 256<|u'<|a'
noncomputable abbrev kM:T:=G 1<|F 108187867505765<|y' 2<|unp 2<|st JX<|st JY<|whl (F JX<|G 256<|s' .lt<|f' (F JY<|G 7<|E'<|G 1<|D'<|st JZ<|F JY<|G 1<|B'<|st JY<|F JW<|l' I4<|F ID<|F JF<|G 1<|F JZ<|o'<|G 8<|B'<|o'<|F JX<|o'<|d' 2<|st I4<|F JX<|G 1<|B'<|F I4<|C' .bor<|st JX<|n' (F I4<|F JZ<|q' Mj<|f' (brk)<|e')<|e')<|brk)<|whl (F JX<|G 256<|s' .lt<|f' (F JX<|G 1<|B'<|F JW<|l' I4<|F ID<|F JF<|F JX<|o'<|d' 2<|C' .bor<|st JX<|e')<|brk)<|F JX<|G 256<|u'<|a'
noncomputable abbrev pI:T:=n' (F Lh<|G 0<|p'<|inn Mh [(.str "match" 0),(.str "rep" 0)]<|f' (F Lh<|G 2<|p'<|a')<|e')<|blk (F Lh<|G 0<|p'<|U (.str "end" 0)<|q' Mh<|f' (G 0<|w')<|G 1<|w')<|a'
noncomputable abbrev dY:T:=F Jt<|m' Jt<|F Jy<|m' Jy<|F Ju<|m' Ju<|G 0<|m' Jv<|G 0<|m' Jx<|Y 407<|i' 0<|m' Jw<|U (.bool Mh)<|m' Js<|U .none<|a'
noncomputable abbrev di:T:=n' (F JT<|O Jy<|prop 1751217765<|s' .gt<|f' (x')<|e')<|U .none<|a'
noncomputable abbrev dW:T:=n' (O Ju<|isn Mj<|f' (O Jv<|F JQ<|o'<|O Ju<|s' .gt<|f' (x')<|e')<|e')<|U .none<|a'
noncomputable abbrev cO:T:=blk (O Jv<|G 0<|s' .gt<|f' (O Jy<|prop 1751217765<|G 0<|s' .gt<|f' (O Jy<|l' IX<|G 1<|d' 1<|w')<|G 0<|w')<|G 0<|w')<|st JV<|O Jt<|l' IL<|O Jv<|F JV<|d' 2<|st JF<|n' (Y 248<|O Jx<|i' 1<|f' (Y 432<|F JW<|O Jt<|k' ID<|F JF<|i' 3<|st IC<|e')<|r' IN<|O Jw<|l' IM<|d' 0<|d' 1<|j'<|Y 439<|F JW<|O Jt<|k' ID<|F JF<|O Jy<|l' IX<|O Jw<|l' IM<|d' 0<|d' 1<|i' 4<|st IC<|e')<|Y 220<|O Jx<|i' 1<|m' Jx<|U (.str "lit" 0)<|F IC<|y' 2<|a'
noncomputable abbrev dk:T:=Y 418<|F JW<|O Jt<|k' Jm<|O Jt<|k' Jn<|l' IF<|O Jv<|d' 1<|i' 3<|st JQ<|Y 425<|F JW<|O Jt<|F JQ<|i' 3<|st JT<|Y 227<|O Jx<|i' 1<|m' Jx<|n' (F JT<|G 4294967296<|q' Mh<|f' (U (.str "end" 0)<|y' 1<|a')<|e')<|r' IN<|F JT<|d' 1<|j'<|O Jw<|l' 7370100<|F JT<|d' 1<|j'<|U (.str "match" 0)<|F JT<|F JQ<|y' 3<|a'
noncomputable abbrev dH:T:=n' (F JW<|l' I4<|O Jt<|k' Jk<|O Jx<|d' 2<|G 0<|q' Mh<|f' (G 1<|a')<|e')<|G 2<|F JW<|l' I4<|O Jt<|k' Jl<|O Jx<|d' 2<|o'<|a'
noncomputable abbrev d6:T:=G 0<|st JN<|n' (F JW<|l' I4<|O Jt<|k' Ji<|O Jx<|d' 2<|G 1<|q' Mh<|f' (r' 2110238271504539477368<|F JW<|d' 1<|st JN<|e')<|n' (F JW<|l' I4<|O Jt<|k' Jj<|O Jt<|l' II<|O Jx<|O Jv<|d' 2<|d' 2<|G 0<|q' Mh<|f' (r' IN<|O Jw<|l' IM<|d' 0<|d' 1<|j'<|Y 241<|O Jx<|i' 1<|m' Jx<|U (.str "short" 0)<|y' 1<|a')<|e')<|e')<|r' IN<|O Jw<|l' 7697253<|F JN<|d' 1<|d' 1<|j'<|Y 418<|F JW<|O Jt<|k' Jo<|O Jt<|k' Jn<|l' IF<|O Jv<|d' 1<|i' 3<|st JQ<|Y 234<|O Jx<|i' 1<|m' Jx<|U (.str "rep" 0)<|F JN<|F JQ<|y' 3<|a'
noncomputable abbrev dC:T:=n' (F JW<|l' I4<|O Jt<|k' LV<|O Jt<|l' II<|O Jx<|O Jv<|d' 2<|d' 2<|G 0<|q' Mh<|f' (r' 33551867937639955759409423728<|F JW<|d' 1<|a')<|e')<|n' (F JW<|l' I4<|O Jt<|k' Jh<|O Jx<|d' 2<|G 0<|q' Mh<|f' (r' 516535667469631416984944<|F JW<|d' 1<|a')<|e')<|r' 8243118248232772976<|F JW<|d' 1<|a'
noncomputable abbrev gM:T:=n' (F Lh<|G 0<|p'<|U (.str "end" 0)<|q' Mh<|f' (U (.bytes #[] 0)<|a')<|e')<|Y 446<|F Lh<|i' 1<|st JQ<|r' 7887337266063239540<|F JQ<|d' 1<|j'<|O Jv<|F JQ<|o'<|m' Jv<|n' (F Lh<|G 0<|p'<|U (.str "lit" 0)<|q' Mh<|f' (O Jy<|l' 7370100<|F Lh<|G 1<|p'<|d' 1<|j'<|F Lh<|G 1<|p'<|v' 1<|Xb<|a')<|e')<|O Jy<|l' 1668247673<|O Jw<|l' IM<|d' 0<|F JQ<|d' 2<|a'
noncomputable abbrev nA:T:=n' (F JP<|isi (.type "int")<|f' (F JP<|isi (.type "bool")<|f' (x')<|e')<|x')<|U .none<|a'
noncomputable abbrev mz:T:=Y 588<|F JP<|F 2003792484<|i' 2<|j'<|n' (F JP<|F 465557353332<|s' .lt<|f' (x')<|F Ju<|isn Mj<|f' (F JP<|F Ju<|s' .gt<|f' (x')<|e')<|e')<|U .none<|a'
noncomputable abbrev mi:T:=n' (F Lh<|isi (.type "tuple")<|f' (F Lh<|len<|G 0<|q' Mh<|f' (x')<|F Lh<|G 0<|p'<|inn Mj [(.str "lit" 0),(.str "match" 0),(.str "rep" 0),(.str "short" 0)]<|f' (x')<|e')<|x')<|n' (F Lh<|G 0<|p'<|inn Mh [(.str "lit" 0),(.str "short" 0)]<|f' (n' (F Lh<|len<|G 1<|q' Mj<|f' (x')<|e')<|G 1<|a')<|e')<|n' (F Lh<|len<|G 3<|q' Mj<|f' (x')<|e')<|Y 588<|F Lh<|G 1<|p'<|U (.str "step" 0)<|i' 2<|j'<|Y 595<|F Lh<|G 2<|p'<|G 2<|G 273<|U (.str "step" 0)<|i' 4<|j'<|F Lh<|G 2<|p'<|a'
noncomputable abbrev rW:T:=n' (G 1<|F JT<|XK .le<|f' (F IX<|s' .le<|f' (F IX<|F JQ<|o'<|F IY<|len<|s' .gt<|f' (U (.bool Mh)<|a')<|e')<|U (.bool Mh)<|a')<|j'<|U (.bool Mh)<|a')<|F IX<|F IX<|F JQ<|o'<|WA (.rng Mh) (st 1751478885<|n' (F IY<|F 1751478885<|p'<|F IY<|F 1751478885<|F JT<|u'<|p'<|q' Mj<|f' (U (.bool Mh)<|a')<|e')<|e')<|U (.bool Mj)<|a'
noncomputable abbrev kV:T:=n' (F JT<|F IX<|s' .gt<|f' (x')<|e')<|F IY<|F IX<|F JT<|u'<|p'<|a'
noncomputable abbrev fZ:T:=F Jt<|m' Jt<|F Jz<|m' Jz<|U .none<|a'
noncomputable abbrev dX:T:=O Jz<|l' I4<|O Jt<|k' LV<|O Jt<|l' II<|F Jx<|F Jv<|d' 2<|G 0<|d' 3<|j'<|O Jt<|l' IL<|F Jv<|F JV<|d' 2<|st JF<|n' (Y 248<|F Jx<|i' 1<|f' (r' IP<|F JF<|G 1<|F IC<|G 8<|d' 4<|j'<|e')<|r' IQ<|F JF<|F IC<|F Ka<|d' 3<|j'<|e')<|U .none<|a'
noncomputable abbrev fm:T:=F I9<|G 1<|u'<|G 1<|neg<|WA (.rng Mj) (st I7<|F IC<|F I7<|E'<|G 1<|D'<|st I4<|O Jz<|l' I4<|O Jt<|k' ID<|F JF<|F Kb<|o'<|F I4<|d' 3<|j'<|G 2<|F Kb<|z'<|F I4<|o'<|st Kb<|e')<|U .none<|a'
noncomputable abbrev eM:T:=G 1<|st Kb<|G 7<|G 1<|neg<|WA (.rng Mj) (st I7<|F Ka<|F I7<|E'<|G 1<|D'<|st 7381244094354254948<|F IC<|F I7<|E'<|G 1<|D'<|st I4<|O Jz<|l' I4<|O Jt<|k' ID<|F JF<|G 1<|F 7381244094354254948<|o'<|G 8<|B'<|o'<|F Kb<|o'<|F I4<|d' 3<|j'<|G 2<|F Kb<|z'<|F I4<|o'<|st Kb<|n' (F I4<|F 7381244094354254948<|q' Mj<|f' (r' IP<|F JF<|F Kb<|F IC<|F I7<|d' 4<|j'<|U .none<|a')<|e')<|e')<|U .none<|a'
noncomputable abbrev eV:T:=F JQ<|G 2<|u'<|st JP<|G 8<|O Jt<|k' Jn<|l' IF<|F Jv<|d' 1<|z'<|st Jr<|n' (F JP<|G 8<|s' .lt<|f' (O Jz<|l' I4<|F Jm<|k' LF<|G 0<|G 0<|d' 3<|j'<|O Jz<|l' I5<|F Jm<|k' LD<|F Jr<|G 3<|F JP<|d' 4<|j'<|U .none<|a')<|e')<|O Jz<|l' I4<|F Jm<|k' LF<|G 0<|G 1<|d' 3<|j'<|n' (F JP<|G 16<|s' .lt<|f' (O Jz<|l' I4<|F Jm<|k' LF<|G 1<|G 0<|d' 3<|j'<|O Jz<|l' I5<|F Jm<|k' 7170404<|F Jr<|G 3<|F JP<|G 8<|u'<|d' 4<|j'<|U .none<|a')<|e')<|O Jz<|l' I4<|F Jm<|k' LF<|G 1<|G 1<|d' 3<|j'<|O Jz<|l' I5<|F Jm<|k' Lu<|G 0<|G 8<|F JP<|G 16<|u'<|d' 4<|j'<|U .none<|a'
noncomputable abbrev dG:T:=Y 269<|F JT<|i' 1<|unp 3<|st JR<|st JS<|st JU<|O Jz<|l' I5<|O Jt<|k' Jp<|O Jt<|l' IJ<|F JQ<|d' 1<|G 6<|F JR<|d' 4<|j'<|n' (F JS<|G 0<|q' Mh<|f' (U .none<|a')<|e')<|F JT<|G 1<|u'<|F JU<|u'<|st JY<|n' (F JR<|G 14<|s' .lt<|f' (O Jz<|l' I6<|O Jt<|k' Jq<|O Jt<|l' IK<|F JR<|d' 1<|F JS<|F JY<|d' 4<|j'<|U .none<|a')<|e')<|O Jz<|l' 110404053590900<|F JS<|G 4<|u'<|F JY<|G 4<|E'<|d' 2<|j'<|O Jz<|l' I6<|O Jt<|k' Mc<|G 0<|G 4<|F JY<|G 1<|G 4<|B'<|G 1<|u'<|D'<|d' 4<|j'<|U .none<|a'
noncomputable abbrev fi:T:=O Jz<|l' I4<|O Jt<|k' LV<|O Jt<|l' II<|F Jx<|F Jv<|d' 2<|G 1<|d' 3<|j'<|O Jz<|l' I4<|O Jt<|k' Jh<|F Jx<|G 0<|d' 3<|j'<|r' IR<|O Jt<|k' Jm<|F Jv<|F JQ<|d' 3<|j'<|r' IS<|F JT<|F JQ<|d' 2<|j'<|U .none<|a'
noncomputable abbrev fv:T:=n' (F JN<|G 0<|q' Mh<|f' (O Jz<|l' I4<|O Jt<|k' Ji<|F Jx<|G 0<|d' 3<|j'<|O Jz<|l' I4<|O Jt<|k' Jj<|O Jt<|l' II<|F Jx<|F Jv<|d' 2<|G 1<|d' 3<|j'<|U .none<|a')<|e')<|O Jz<|l' I4<|O Jt<|k' Ji<|F Jx<|G 1<|d' 3<|j'<|n' (F JN<|G 1<|q' Mh<|f' (O Jz<|l' I4<|O Jt<|k' Jk<|F Jx<|G 0<|d' 3<|j'<|U .none<|a')<|e')<|O Jz<|l' I4<|O Jt<|k' Jk<|F Jx<|G 1<|d' 3<|j'<|O Jz<|l' I4<|O Jt<|k' Jl<|F Jx<|F JN<|G 2<|u'<|d' 3<|j'<|U .none<|a'
noncomputable abbrev gU:T:=Y 595<|F JN<|G 0<|G 3<|U (.str "index" 0)<|i' 4<|j'<|O Jz<|l' I4<|O Jt<|k' LV<|O Jt<|l' II<|F Jx<|F Jv<|d' 2<|G 1<|d' 3<|j'<|O Jz<|l' I4<|O Jt<|k' Jh<|F Jx<|G 1<|d' 3<|j'<|r' 2074498830761634063736<|F Jx<|F Jv<|F JN<|d' 3<|j'<|r' IR<|O Jt<|k' Jo<|F Jv<|F JQ<|d' 3<|j'<|U .none<|a'
noncomputable abbrev fA:T:=O Jz<|l' I4<|O Jt<|k' LV<|O Jt<|l' II<|F Jx<|F Jv<|d' 2<|G 1<|d' 3<|j'<|O Jz<|l' I4<|O Jt<|k' Jh<|F Jx<|G 1<|d' 3<|j'<|O Jz<|l' I4<|O Jt<|k' Ji<|F Jx<|G 0<|d' 3<|j'<|O Jz<|l' I4<|O Jt<|k' Jj<|O Jt<|l' II<|F Jx<|F Jv<|d' 2<|G 0<|d' 3<|j'<|U .none<|a'
noncomputable abbrev fM:T:=Y 630<|F JM<|F Jt<|F Jz<|i' 3<|j'<|G 0<|m' Jv<|G 0<|m' Jx<|Y 407<|i' 0<|m' Jw<|U .none<|a'
noncomputable abbrev ei:T:=Y 588<|F JT<|U (.str "distance" 0)<|i' 2<|j'<|n' (G 1<|F JT<|XK .le<|f' (O Jv<|s' .le<|f' (e')<|x')<|j'<|x')<|U .none<|a'
noncomputable abbrev dw:T:=Y 595<|F JQ<|G 2<|G 273<|U (.str "length" 0)<|i' 4<|j'<|U .none<|a'
noncomputable abbrev fY:T:=F IC<|F JV<|F Ka<|y' 3<|WA .seq (st JP<|Y 595<|F JP<|G 0<|G 255<|U (.str "octet" 0)<|i' 4<|j'<|e')<|r' IO<|O Jx<|O Jv<|F JV<|F IC<|F Ka<|d' 5<|j'<|Y 220<|O Jx<|i' 1<|m' Jx<|F JM<|dup<|k' Jv<|G 1<|iop .add<|W8<|A' Jv<|U .none<|a'
noncomputable abbrev iq:T:=r' IU<|F JT<|d' 1<|j'<|r' IV<|F JQ<|d' 1<|j'<|r' IT<|O Jx<|O Jv<|F JT<|F JQ<|d' 4<|j'<|O Jw<|l' 7370100<|F JT<|d' 1<|j'<|Y 227<|O Jx<|i' 1<|m' Jx<|F JM<|dup<|k' Jv<|F JQ<|iop .add<|W8<|A' Jv<|U .none<|a'
noncomputable abbrev jw:T:=Y 595<|F JN<|G 0<|G 3<|U (.str "index" 0)<|i' 4<|j'<|r' IU<|O Jw<|k' Jr<|F JN<|p'<|d' 1<|j'<|r' IV<|F JQ<|d' 1<|j'<|r' 31654340069582192<|O Jx<|O Jv<|F JN<|F JQ<|d' 4<|j'<|O Jw<|l' 7697253<|F JN<|d' 1<|j'<|Y 234<|O Jx<|i' 1<|m' Jx<|F JM<|dup<|k' Jv<|F JQ<|iop .add<|W8<|A' Jv<|U .none<|a'
noncomputable abbrev ij:T:=r' IU<|O Jw<|l' IM<|d' 0<|d' 1<|j'<|r' 2074498830804483797620<|O Jx<|O Jv<|d' 2<|j'<|Y 241<|O Jx<|i' 1<|m' Jx<|F JM<|dup<|k' Jv<|G 1<|iop .add<|W8<|A' Jv<|U .none<|a'
noncomputable abbrev fF:T:=r' IT<|O Jx<|O Jv<|G 4294967296<|G 2<|d' 4<|j'<|Y 227<|O Jx<|i' 1<|m' Jx<|U .none<|a'
noncomputable abbrev cY:T:=blk (Y 248<|O Jx<|i' 1<|f' (G 0<|w')<|Y 616<|F IY<|F IX<|O Jw<|l' IM<|d' 0<|i' 3<|w')<|a'
noncomputable abbrev dD:T:=n' (F Lh<|G 0<|p'<|U (.str "match" 0)<|q' Mh<|f' (F Lh<|G 1<|p'<|a')<|e')<|n' (F Lh<|G 0<|p'<|U (.str "rep" 0)<|q' Mh<|f' (Y 595<|F Lh<|G 1<|p'<|G 0<|G 3<|U (.str "index" 0)<|i' 4<|j'<|O Jw<|k' Jr<|F Lh<|G 1<|p'<|p'<|a')<|e')<|O Jw<|l' IM<|d' 0<|a'
noncomputable abbrev dV:T:=Y 602<|F Lh<|i' 1<|st JQ<|n' (F IX<|F JQ<|o'<|F IY<|len<|s' .gt<|f' (x')<|e')<|n' (F Lh<|G 0<|p'<|U (.str "lit" 0)<|q' Mh<|f' (blk (O Jv<|G 0<|s' .gt<|f' (Y 616<|F IY<|F IX<|G 1<|i' 3<|w')<|G 0<|w')<|st JV<|r' 30515246123868524<|F IY<|F IX<|p'<|F JV<|r' IW<|F IY<|F IX<|d' 2<|d' 3<|j'<|F IX<|G 1<|o'<|a')<|e')<|r' 121390560203838061138636646<|F Lh<|d' 1<|st JT<|r' IU<|F JT<|d' 1<|j'<|n' (Y 609<|F IY<|F IX<|F JT<|F JQ<|i' 4<|f' (e')<|x')<|n' (F Lh<|G 0<|p'<|U (.str "match" 0)<|q' Mh<|f' (r' 469786452840<|F JT<|F JQ<|d' 2<|j'<|e')<|n' (F Lh<|G 0<|p'<|U (.str "rep" 0)<|q' Mh<|f' (r' 7497072<|F Lh<|G 1<|p'<|F JQ<|d' 2<|j'<|e')<|r' 495673373300<|d' 0<|j'<|e')<|e')<|F IX<|F JQ<|o'<|a'
noncomputable abbrev dI:T:=F JF<|st IX<|F Kc<|WA .seq (st Lh<|r' 564072139095822583489904<|F Lh<|F IY<|F IX<|d' 3<|st IX<|e')<|F IX<|a'
noncomputable abbrev iF:T:=n' (F I8<|G 1<|s' .lt<|f' (x')<|e')<|F I8<|m' I8<|G 0<|m' 500086104428<|r' 427020345714<|d' 0<|j'<|U .none<|a'
noncomputable abbrev k7:T:=YC<|m' JA<|G 0<|m' JB<|U .none<|a'
noncomputable abbrev lJ:T:=O JA<|len<|a'
noncomputable abbrev nS:T:=n' (O JA<|len<|O I8<|s' .lt<|f' (O JA<|bm JK<|F IC<|cb 1<|j'<|e')<|F IC<|O JA<|O JB<|XF<|e')<|F JM<|dup<|k' JB<|G 1<|iop .add<|W8<|A' JB<|n' (O JB<|O I8<|q' Mh<|f' (G 0<|m' JB<|e')<|e')<|F JM<|dup<|k' 500086104428<|G 1<|iop .add<|W8<|A' 500086104428<|U .none<|a'
noncomputable abbrev lT:T:=n' (F JT<|G 1<|s' .lt<|f' (x')<|F JT<|F JM<|prop 1751217765<|s' .gt<|f' (x')<|e')<|U .none<|a'
noncomputable abbrev pU:T:=r' 1852138852<|F JT<|d' 1<|j'<|O JB<|F JT<|u'<|st Jv<|O JA<|blk (F Jv<|G 0<|s' .ge<|f' (F Jv<|w')<|F Jv<|O JA<|len<|o'<|w')<|p'<|a'
noncomputable abbrev mw:T:=r' 1852138852<|F JT<|d' 1<|j'<|YC<|st 1953459300<|G 0<|F JQ<|WA (.rng Mh) (st 1953854062<|r' IX<|F JT<|d' 1<|st IC<|r' 7370100<|F IC<|d' 1<|j'<|F 1953459300<|bm JK<|F IC<|cb 1<|j'<|e')<|F 1953459300<|Xb<|a'
noncomputable abbrev nu:T:=n' (F I4<|G 0<|q' Mh<|f' (F JO<|G 2048<|F JO<|u'<|G 5<|E'<|o'<|a')<|e')<|F JO<|F JO<|G 5<|E'<|u'<|a'
noncomputable abbrev rM:T:=n' (F I4<|inn Mj [(.int 0 0),(.int 1 0)]<|f' (x')<|e')<|U .none<|a'
noncomputable abbrev nQ:T:=n' (F I9<|G 0<|s' .lt<|f' (x')<|G 0<|F Kd<|XK .le<|f' (G 1<|F I9<|B'<|s' .lt<|f' (e')<|x')<|j'<|x')<|U .none<|a'
noncomputable abbrev eQ:T:=F IY<|Xb<|m' JD<|blk (F 6647396<|isn Mh<|f' (O JD<|len<|w')<|F 6647396<|w')<|m' 1937010544<|n' (G 0<|F JF<|XK .le<|f' (O 1937010544<|XK .le<|f' (O JD<|len<|s' .le<|f' (e')<|x')<|j'<|x')<|j'<|x')<|F JF<|m' JF<|F JF<|m' Jv<|G 4294967295<|m' JE<|G 0<|m' JC<|n' (r' IC<|d' 0<|G 0<|q' Mj<|f' (x')<|e')<|G 0<|G 5<|G 1<|u'<|WA (.rng Mh) (st 1953854062<|O JC<|G 8<|B'<|r' IC<|d' 0<|C' .bor<|m' JC<|e')<|n' (O JC<|O JE<|q' Mh<|f' (x')<|e')<|U .none<|a'
noncomputable abbrev gh:T:=n' (O Jv<|O 1937010544<|s' .ge<|f' (x')<|e')<|F JM<|dup<|k' Jv<|G 1<|iop .add<|W8<|A' Jv<|O JD<|O Jv<|G 1<|u'<|p'<|a'
noncomputable abbrev ii:T:=O 1937010544<|O Jv<|u'<|a'
noncomputable abbrev gv:T:=O JC<|G 0<|q' Mh<|a'
noncomputable abbrev ik:T:=n' (O JE<|G 16777216<|s' .lt<|f' (F JM<|dup<|k' JE<|G 8<|iop .shl<|W8<|A' JE<|O JC<|G 8<|B'<|r' IC<|d' 0<|C' .bor<|m' JC<|e')<|e')<|U .none<|a'
noncomputable abbrev iI:T:=F Jt<|F JN<|p'<|st JO<|O JE<|G 11<|E'<|F JO<|z'<|st Ke<|O JC<|F Ke<|s' .ge<|Xr<|st JX<|n' (F JX<|G 0<|q' Mh<|f' (F Ke<|m' JE<|e')<|F JM<|dup<|k' JE<|F Ke<|iop .sub<|W8<|A' JE<|F JM<|dup<|k' JC<|F Ke<|iop .sub<|W8<|A' JC<|e')<|Y 916<|F JO<|F JX<|i' 2<|F Jt<|F JN<|XF<|r' IZ<|d' 0<|j'<|F JX<|a'
noncomputable abbrev f6:T:=G 0<|st Kd<|G 0<|F I9<|WA (.rng Mh) (st 1953854062<|F JM<|dup<|k' JE<|G 1<|iop .shr<|W8<|A' JE<|O JC<|O JE<|s' .ge<|Xr<|st JX<|n' (F JX<|G 1<|q' Mh<|f' (F JM<|dup<|k' JC<|O JE<|iop .sub<|W8<|A' JC<|n' (O JC<|O JE<|s' .ge<|f' (x')<|e')<|e')<|e')<|F Kd<|G 1<|B'<|F JX<|C' .bor<|st Kd<|r' IZ<|d' 0<|j'<|e')<|F Kd<|a'
noncomputable abbrev il:T:=G 1<|st Kb<|G 0<|F I9<|WA (.rng Mh) (st 1953854062<|F Kb<|G 1<|B'<|r' I4<|F Jt<|F JF<|F Kb<|o'<|d' 2<|C' .bor<|st Kb<|e')<|F Kb<|G 1<|F I9<|B'<|u'<|a'
noncomputable abbrev fC:T:=G 1<|G 0<|y' 2<|unp 2<|st Kb<|st Kd<|G 0<|F I9<|WA (.rng Mh) (st Jv<|r' I4<|F Jt<|F JF<|F Kb<|o'<|d' 2<|st JX<|F Kb<|G 1<|B'<|F JX<|C' .bor<|st Kb<|F Kd<|F JX<|F Jv<|B'<|iop .bor<|st Kd<|e')<|F Kd<|a'
noncomputable abbrev fa:T:=YC<|m' JJ<|G 0<|m' LD<|G 4294967295<|m' JE<|G 0<|m' JG<|G 1<|m' JI<|U (.bool Mh)<|m' JH<|U .none<|a'
noncomputable abbrev gb:T:=n' (O LD<|G 4278190080<|s' .lt<|f' (O LD<|G 32<|E'<|st 426836652665<|O JJ<|bm JK<|O JG<|F 426836652665<|o'<|G 255<|D'<|cb 1<|j'<|O JJ<|bm 111568023285348<|G 255<|F 426836652665<|o'<|G 255<|D'<|v' 1<|Xb<|O JI<|G 1<|u'<|z'<|cb 1<|j'<|O LD<|G 24<|E'<|G 255<|D'<|m' JG<|G 0<|m' JI<|e')<|O LD<|G 4294967296<|s' .ge<|f' (O LD<|G 32<|E'<|st 426836652665<|O JJ<|bm JK<|O JG<|F 426836652665<|o'<|G 255<|D'<|cb 1<|j'<|O JJ<|bm 111568023285348<|G 255<|F 426836652665<|o'<|G 255<|D'<|v' 1<|Xb<|O JI<|G 1<|u'<|z'<|cb 1<|j'<|O LD<|G 24<|E'<|G 255<|D'<|m' JG<|G 0<|m' JI<|e')<|e')<|F JM<|dup<|k' JI<|G 1<|iop .add<|W8<|A' JI<|O LD<|G 16777216<|G 1<|u'<|D'<|G 8<|B'<|m' LD<|U .none<|a'
noncomputable abbrev ib:T:=n' (O JE<|G 16777216<|s' .lt<|f' (F JM<|dup<|k' JE<|G 8<|iop .shl<|W8<|A' JE<|r' I7<|d' 0<|j'<|e')<|e')<|U .none<|a'
noncomputable abbrev ej:T:=n' (O JH<|f' (x')<|e')<|U .none<|a'
noncomputable abbrev iR:T:=Y 923<|F I4<|i' 1<|j'<|r' 2036448204439583483246<|d' 0<|j'<|F Jt<|F JN<|p'<|st JO<|O JE<|G 11<|E'<|F JO<|z'<|st Ke<|n' (F I4<|G 0<|q' Mh<|f' (F Ke<|m' JE<|e')<|F JM<|dup<|k' LD<|F Ke<|iop .add<|W8<|A' LD<|F JM<|dup<|k' JE<|F Ke<|iop .sub<|W8<|A' JE<|e')<|Y 916<|F JO<|F I4<|i' 2<|F Jt<|F JN<|XF<|r' IZ<|d' 0<|j'<|U .none<|a'
noncomputable abbrev f9:T:=Y 930<|F Kd<|F I9<|i' 2<|j'<|r' 2036448204439583483246<|d' 0<|j'<|F I9<|G 1<|u'<|G 1<|neg<|WA (.rng Mj) (st Jv<|F JM<|dup<|k' JE<|G 1<|iop .shr<|W8<|A' JE<|n' (F Kd<|F Jv<|E'<|G 1<|D'<|G 1<|q' Mh<|f' (F JM<|dup<|k' LD<|O JE<|iop .add<|W8<|A' LD<|e')<|e')<|r' IZ<|d' 0<|j'<|e')<|U .none<|a'
noncomputable abbrev im:T:=Y 930<|F Kd<|F I9<|i' 2<|j'<|G 1<|st Kb<|F I9<|G 1<|u'<|G 1<|neg<|WA (.rng Mj) (st Jv<|F Kd<|F Jv<|E'<|G 1<|D'<|st I4<|r' I4<|F Jt<|F JF<|F Kb<|o'<|F I4<|d' 3<|j'<|F Kb<|G 1<|B'<|F I4<|C' .bor<|st Kb<|e')<|U .none<|a'
noncomputable abbrev ft:T:=Y 930<|F Kd<|F I9<|i' 2<|j'<|G 1<|st Kb<|G 0<|F I9<|WA (.rng Mh) (st Jv<|F Kd<|F Jv<|E'<|G 1<|D'<|st I4<|r' I4<|F Jt<|F JF<|F Kb<|o'<|F I4<|d' 3<|j'<|F Kb<|G 1<|B'<|F I4<|C' .bor<|st Kb<|e')<|U .none<|a'
noncomputable abbrev ig:T:=n' (O JH<|f' (e')<|G 0<|G 5<|WA (.rng Mh) (st 1953854062<|r' I7<|d' 0<|j'<|e')<|U (.bool Mj)<|m' JH<|e')<|O JJ<|Xb<|a'
noncomputable abbrev sw:T:=G 0<|G 25<|y' 2<|unp 2<|st 444300878196<|st 469920933220<|F Kh<|U .none<|G 24<|sli<|WA .seq (st II<|n' (F II<|abs<|G 10<|G 18<|C' .pow<|s' .ge<|f' (F 444300878196<|G 10<|G 40<|C' .pow<|z'<|F II<|abs<|G 10<|G 18<|C' .pow<|u'<|G 10<|G 40<|C' .pow<|C' .X6<|o'<|st 444300878196<|e')<|F 469920933220<|G 31<|z'<|G 2<|F II<|abs<|z'<|o'<|F II<|G 0<|s' .lt<|Xr<|o'<|G 9973<|C' .X6<|st 469920933220<|e')<|e')<|F 444300878196<|F 469920933220<|G 0<|v' 3<|a'
noncomputable abbrev qw:T:=F Ki<|G 2<|p'<|G 1<|o'<|F Ki<|G 2<|XF<|n' (F Ki<|G 0<|p'<|G 0<|s' .gt<|f' (F Ki<|G 0<|p'<|F 1835101817<|C' .X6<|st 431265114484<|F Ki<|G 0<|p'<|F 1835101817<|C' .Yh<|F Ki<|G 0<|XF<|F 431265114484<|a')<|e')<|F Ki<|G 1<|p'<|G 2<|F Ki<|G 2<|p'<|z'<|G 5<|o'<|z'<|G 13<|F Ki<|G 2<|p'<|z'<|F Ki<|G 2<|p'<|z'<|o'<|G 1<|o'<|G 9949<|C' .X6<|G 3<|C' .Yh<|F 1835101817<|C' .X6<|a'
noncomputable abbrev pQ:T:=v' 0<|v' 0<|v' 0<|G 1<|G 1<|G 1<|G 1<|v' 4<|y' 4<|unp 4<|st Kj<|st Kc<|st JZ<|st Kk<|G 0<|F 1835101817<|WA (.rng Mh) (st 1953854062<|U (.str "lit" 0)<|U (.str "match" 0)<|U (.str "rep" 0)<|U (.str "short" 0)<|U (.str "lit" 0)<|v' 5<|Y 1113<|F Ki<|G 5<|i' 2<|p'<|st Kl<|n' (F Kl<|U (.str "lit" 0)<|q' Mh<|f' (F Kj<|bm JK<|Y 1113<|F Ki<|G 256<|i' 2<|cb 1<|j'<|F Kc<|bm JK<|U (.str "lit" 0)<|y' 1<|cb 1<|j'<|F JZ<|bm JK<|U (.str "lit" 0)<|F Kj<|G 1<|neg<|p'<|y' 2<|cb 1<|j'<|WZ)<|F Kj<|v' 0<|q' Mh<|f' (F Kj<|bm JK<|Y 1113<|F Ki<|G 256<|i' 2<|cb 1<|j'<|F Kc<|bm JK<|U (.str "lit" 0)<|y' 1<|cb 1<|j'<|F JZ<|bm JK<|U (.str "lit" 0)<|F Kj<|G 1<|neg<|p'<|y' 2<|cb 1<|j'<|WZ)<|e')<|G 0<|G 1<|y' 2<|unp 2<|st JB<|st I8<|n' (F Kl<|U (.str "match" 0)<|q' Mh<|f' (G 1<|Y 1113<|F Ki<|F Kj<|len<|i' 2<|o'<|v' 1<|F Kk<|U .none<|G 3<|sli<|o'<|st Kk<|e')<|n' (F Kl<|U (.str "rep" 0)<|q' Mh<|f' (Y 1113<|F Ki<|G 4<|i' 2<|st JB<|F Kk<|F JB<|p'<|v' 1<|F Kk<|U .none<|F JB<|sli<|o'<|F Kk<|F JB<|G 1<|o'<|U .none<|sli<|o'<|st Kk<|e')<|e')<|e')<|n' (F Kl<|U (.str "short" 0)<|q' Mj<|f' (G 2<|G 10<|G 18<|v' 3<|Y 1113<|F Ki<|G 3<|i' 2<|p'<|Y 1113<|F Ki<|G 8<|i' 2<|o'<|st I8<|e')<|e')<|G 0<|F I8<|WA (.rng Mh) (st 1668247673<|F Kj<|bm JK<|F Kj<|F Kk<|G 0<|p'<|neg<|p'<|cb 1<|j'<|e')<|F Kc<|bm JK<|U (.str "match" 0)<|F Kk<|G 0<|p'<|F I8<|y' 3<|U (.str "rep" 0)<|F JB<|F I8<|y' 3<|U (.str "short" 0)<|y' 1<|F Kl<|sel [(.str "match" 0),(.str "rep" 0),(.str "short" 0)]<|cb 1<|j'<|F JZ<|bm JK<|F Kc<|G 1<|neg<|p'<|cb 1<|j'<|e')<|F Kc<|F Kj<|Xb<|F JZ<|y' 3<|a'
noncomputable abbrev ry:T:=F Jt<|k' LV<|F Jt<|k' Jh<|F Jt<|k' Ji<|F Jt<|k' Jk<|F Jt<|k' Jl<|F Jt<|k' Jj<|v' 6<|st JX<|F JX<|F Jt<|k' Jp<|F Jt<|k' Jq<|F Jt<|k' Mc<|F Jt<|k' ID<|v' 4<|o'<|st JX<|F Jt<|k' Jm<|F Jt<|k' Jo<|y' 2<|WA .seq (st Km<|F JX<|F Km<|k' LF<|F Km<|k' LD<|F Km<|k' 7170404<|F Km<|k' Lu<|v' 4<|o'<|st JX<|e')<|F JX<|a'
noncomputable abbrev pp:T:=blk (F Jr<|isi (.ref 159)<|f' (G 1024<|v' 1<|F Jr<|len<|z'<|w')<|Y 159<|F Jr<|len<|i' 1<|w')<|a'
noncomputable abbrev j3:T:=Y 1134<|F Jt<|k' LV<|i' 1<|F Jt<|A' LV<|Y 1134<|F Jt<|k' Jh<|i' 1<|F Jt<|A' Jh<|Y 1134<|F Jt<|k' Ji<|i' 1<|F Jt<|A' Ji<|Y 1134<|F Jt<|k' Jk<|i' 1<|F Jt<|A' Jk<|Y 1134<|F Jt<|k' Jl<|i' 1<|F Jt<|A' Jl<|Y 1134<|F Jt<|k' Jj<|i' 1<|F Jt<|A' Jj<|Y 1134<|F Jt<|k' Jp<|i' 1<|F Jt<|A' Jp<|Y 1134<|F Jt<|k' Jq<|i' 1<|F Jt<|A' Jq<|Y 1134<|F Jt<|k' Mc<|i' 1<|F Jt<|A' Mc<|Y 1134<|F Jt<|k' ID<|i' 1<|F Jt<|A' ID<|F Jt<|k' Jm<|F Jt<|k' Jo<|y' 2<|WA .seq (st Km<|Y 1134<|F Km<|k' LF<|i' 1<|F Km<|A' LF<|Y 1134<|F Km<|k' LD<|i' 1<|F Km<|A' LD<|Y 1134<|F Km<|k' 7170404<|i' 1<|F Km<|A' 7170404<|Y 1134<|F Km<|k' Lu<|i' 1<|F Km<|A' Lu<|e')<|F Jt<|a'
noncomputable abbrev rD:T:=n' (F Jr<|isi (.ref 159)<|f' (e')<|F Jr<|Yj<|a')<|G 1024<|v' 1<|F Jr<|len<|z'<|st JX<|F Jr<|k' Ly<|WA .keys (st JB<|F Jr<|F JB<|p'<|F JX<|F JB<|XF<|e')<|F JX<|a'
noncomputable abbrev kO:T:=Y 1127<|F Jt<|i' 1<|Xo Mh Jr (Y 1148<|F Jr<|i' 1<|w')<|a'
noncomputable abbrev my:T:=Y 822<|F Jt<|Y 1095<|i' 0<|i' 2<|st 469785863538<|n' (F 469785863538<|l' 144402467608530581373415539<|F Kc<|F Kn<|G 0<|d' 3<|F Kn<|len<|q' Mj<|f' (U .none<|a')<|e')<|n' (F Js<|f' (F 469785863538<|l' 7308889606288667243<|d' 0<|j'<|e')<|e')<|F 469785863538<|k' Jz<|l' 1685024357<|d' 0<|a'
noncomputable abbrev jl:T:=Y 576<|F Jt<|Y 905<|G 256<|i' 1<|i' 2<|Y 1011<|F JD<|i' 1<|U (.bytes #[] 0)<|y' 3<|unp 3<|st Ko<|st 427070612850<|st JJ<|F JZ<|WA .seq (st 2002873972<|F Ko<|l' 2036453570056394401136<|F 427070612850<|d' 1<|st Lh<|n' (F Lh<|F 2002873972<|q' Mj<|f' (U (.bool Mh)<|a')<|e')<|F JJ<|F Ko<|l' 1886151033<|F Lh<|d' 1<|o'<|st JJ<|e')<|blk (F JJ<|F Kn<|q' Mh<|dup<|f' (j'<|F 427070612850<|l' 435643770212<|d' 0<|dup<|f' (j'<|F 427070612850<|l' 1818584692<|d' 0<|G 0<|q' Mh<|w')<|w')<|w')<|a'
noncomputable abbrev bJ:T:=ldc Jr<|k' Ly<|len<|st 1801810036<|n' (F Kq<|F Kq<|G 8<|o'<|ldc Jr<|len<|YT<|Xo Mj JB (ldc Jr<|F JB<|p'<|w')<|F Kr<|F Kq<|F Kq<|G 8<|o'<|sli<|q' Mj<|f' (U (.bool Mh)<|a')<|e')<|n' (Y 1174<|ldc Jr<|G 1<|neg<|F 6709618<|u'<|i' 2<|f' (Y 1174<|ldc Jr<|ldc Jr<|len<|F 6709618<|o'<|i' 2<|f' (e')<|U (.bool Mh)<|a')<|U (.bool Mh)<|a')<|blk (ldc Jr<|k' Ly<|len<|F 1801810036<|q' Mh<|dup<|f' (j'<|Y 1148<|ldc Jr<|i' 1<|F Kr<|q' Mh<|w')<|w')<|a'
noncomputable abbrev iM:T:=Y 1127<|F Jt<|i' 1<|st JI<|F Jt<|l' IG<|d' 0<|j'<|n' (F JI<|Xo Mh Jr (Y 1148<|F Jr<|i' 1<|w')<|F Kr<|q' Mj<|f' (U (.bool Mh)<|a')<|Y 1153<|F Jt<|i' 1<|F Kr<|Xo Mh Jr (G 1024<|v' 1<|F Jr<|len<|z'<|w')<|q' Mj<|f' (U (.bool Mh)<|a')<|e')<|n' (Y 1160<|F Jt<|F Kc<|F Kn<|F Js<|i' 4<|F JD<|q' Mj<|f' (U (.bool Mh)<|a')<|Y 1153<|F Jt<|i' 1<|F Kr<|q' Mj<|f' (U (.bool Mh)<|a')<|e')<|n' (F JI<|Xo Mh Jr (Y 1148<|F Jr<|i' 1<|w')<|F Kr<|q' Mj<|f' (U (.bool Mh)<|a')<|e')<|F JI<|Y 1127<|F Jt<|i' 1<|F Kr<|WA (.zip 3) (st 7302244<|st Jr<|st JZ<|G 31<|F 7302244<|F JZ<|len<|G 1<|u'<|XF<|n' (F Jr<|F JZ<|len<|G 1<|u'<|p'<|F JZ<|G 1<|neg<|p'<|q' Mj<|f' (U (.bool Mh)<|a')<|e')<|e')<|U (.bool Mj)<|a'
noncomputable abbrev CQ:T:=Y 1106<|F Kh<|i' 1<|F Kh<|Xo Mh II (F II<|G 0<|q' Mj<|f' (F II<|w')<|e')<|v' 0<|q' Mj<|y' 2<|unp 2<|st Ki<|st Ks<|G 0<|G 0<|y' 2<|G 1<|G 0<|y' 2<|G 0<|G 1<|y' 2<|v' 3<|Y 1113<|F Ki<|G 3<|i' 2<|p'<|unp 2<|st 27747<|st 27760<|Y 209<|F 27747<|F 27760<|Y 1113<|F Ki<|G 5<|i' 2<|i' 3<|st Jn<|blk (F Ks<|dup<|f' (j'<|Y 1113<|F Ki<|G 2<|i' 2<|G 1<|q' Mh<|w')<|w')<|st Js<|Y 1120<|F Ki<|blk (F Ks<|f' (G 1<|Y 1113<|F Ki<|G 4<|i' 2<|o'<|w')<|G 1<|w')<|i' 2<|unp 3<|st Kc<|st Kn<|st JZ<|Y 349<|F Jn<|i' 1<|Y 1141<|Y 349<|F Jn<|i' 1<|i' 1<|Y 349<|F Jn<|i' 1<|Y 1141<|Y 349<|F Jn<|i' 1<|i' 1<|v' 4<|st Ku<|Y 1160<|F Ku<|G 0<|p'<|F Kc<|F Kn<|F Js<|i' 4<|st JD<|n' (F JD<|isn Mh<|f' (U (.bool Mh)<|a')<|Y 1160<|F Ku<|G 1<|p'<|F Kc<|F Kn<|F Js<|i' 4<|F JD<|q' Mj<|f' (U (.bool Mh)<|a')<|e')<|F Ku<|G 2<|U .none<|sli<|WA .seq (st Jt<|n' (Y 1167<|F Jt<|F JD<|F Kn<|F JZ<|U (.str "end" 0)<|y' 1<|v' 1<|F Js<|Xr<|z'<|o'<|i' 4<|f' (e')<|U (.bool Mh)<|a')<|e')<|Y 1153<|F Ku<|G 0<|p'<|i' 1<|st Kr<|n' (F Ku<|G 1<|U .none<|sli<|Xo Mh Jt (Y 1153<|F Jt<|i' 1<|w')<|F Kr<|v' 1<|G 3<|z'<|q' Mj<|f' (U (.bool Mh)<|a')<|e')<|G 0<|G 1<|Y 1113<|F Ki<|G 10<|G 20<|C' .pow<|i' 2<|v' 3<|Y 1113<|F Ki<|G 3<|i' 2<|p'<|st 6709618<|F Ku<|U .none<|G 1<|F Ks<|Xr<|o'<|sli<|WA .seq (st Jt<|Y 1127<|F Jt<|i' 1<|F Kr<|WA (.zip 2) (st Jr<|st 1953459300<|n' (F Jr<|isi (.ref 159)<|f' (Y 1179<|F Jr<|F 1953459300<|Y 1113<|F Ki<|F Jr<|len<|i' 2<|F 6709618<|i' 4<|f' (e')<|U (.bool Mh)<|a')<|e')<|e')<|e')<|Y 1184<|F Ku<|Y 1113<|F Ki<|G 2<|i' 2<|p'<|F Kr<|F JD<|F Kc<|F Kn<|F Js<|i' 6<|a'
end
noncomputable def iW:List (Nat×List Nat×List Me×T):=[(135,[JM,I9],[],jB),
 (142,[JM],[],j5),
 (149,[JM,JN],[],gN),
 (156,[JM,JN,JO],[],gP),
 (170,[I9],[],yi),
 (185,[JM,27747,27760,28770],[(.int 3 0),(.int 0 0),(.int 2 0)],jE),
 (199,[JM],[],jC),
 (206,[JM,Jv],[],i5),
 (220,[Jx],[],j9),
 (227,[Jx],[],lV),
 (234,[Jx],[],pT),
 (241,[Jx],[],lO),
 (248,[Jx],[],ia),
 (255,[JQ],[],kR),
 (262,[JR],[],pB),
 (269,[JT],[],sZ),
 (283,[JM,LX],[],d4),
 (290,[JM],[],f5),
 (311,[JM,Jn],[],iP),
 (318,[JM],[],kS),
 (325,[JM,Jx,Jv],[],mU),
 (332,[JM,JQ],[],gu),
 (339,[JM,JR],[],eE),
 (346,[JM,Jv,JV],[],eK),
 (369,[JM,Jr],[(.ref 361)],jT),
 (383,[JM],[],nh),
 (390,[JM,JN],[],qg),
 (397,[JM,JT],[],rh),
 (418,[JW,Jt,7368563],[],mJ),
 (425,[JW,Jt,JQ],[],j4),
 (432,[JW,ID,JF],[],kK),
 (439,[JW,ID,JF,108187867505765],[],kM),
 (446,[Lh],[],pI),
 (461,[JM,Jt,Jy,Ju],[.none],dY),
 (503,[JM,JT],[],di),
 (510,[JM,JQ],[],dW),
 (517,[JM,JW],[],cO),
 (524,[JM,JW],[],dk),
 (531,[JM,JW],[],dH),
 (538,[JM,JW],[],d6),
 (545,[JM,JW],[],dC),
 (552,[JM,Lh],[],gM),
 (588,[JP,2003792484],[],nA),
 (595,[JP,465557353332,Ju,2003792484],[],mz),
 (602,[Lh],[],mi),
 (609,[IY,IX,JT,JQ],[],rW),
 (616,[IY,IX,JT],[],kV),
 (630,[JM,Jt,Jz],[],fZ),
 (637,[JM,Jx,Jv,JV,IC,Ka],[],dX),
 (644,[JM,JF,Kb,IC,I9],[],fm),
 (651,[JM,JF,IC,Ka],[],eM),
 (658,[JM,Jm,Jv,JQ],[],eV),
 (665,[JM,JT,JQ],[],dG),
 (672,[JM,Jx,Jv,JT,JQ],[],fi),
 (679,[JM,Jx,Jv,JN],[],fv),
 (686,[JM,Jx,Jv,JN,JQ],[],gU),
 (693,[JM,Jx,Jv],[],fA),
 (714,[JM,Jt,Jz],[],fM),
 (742,[JM,JT],[],ei),
 (749,[JM,JQ],[],dw),
 (756,[JM,IC,JV,Ka],[],fY),
 (763,[JM,JT,JQ],[],iq),
 (770,[JM,JN,JQ],[],jw),
 (777,[JM],[],ij),
 (784,[JM],[],fF),
 (791,[JM,IY,IX],[],cY),
 (798,[JM,Lh],[],dD),
 (805,[JM,Lh,IY,IX],[],dV),
 (812,[JM,Kc,IY,JF],[],dI),
 (838,[JM,I8],[],iF),
 (845,[JM],[],k7),
 (852,[JM],[],lJ),
 (860,[JM,IC],[],nS),
 (874,[JM,JT],[],lT),
 (881,[JM,JT],[],pU),
 (888,[JM,JT,JQ],[],mw),
 (916,[JO,I4],[],nu),
 (923,[I4],[],rM),
 (930,[Kd,I9],[],nQ),
 (945,[JM,IY,JF,6647396],[(.int 0 0),.none],eQ),
 (952,[JM],[],gh),
 (966,[JM],[],ii),
 (973,[JM],[],gv),
 (980,[JM],[],ik),
 (987,[JM,Jt,JN],[],iI),
 (994,[JM,I9],[],f6),
 (1001,[JM,Jt,JF,I9],[],il),
 (1008,[JM,Jt,JF,I9],[],fC),
 (1029,[JM],[],fa),
 (1036,[JM],[],gb),
 (1043,[JM],[],ib),
 (1050,[JM],[],ej),
 (1057,[JM,Jt,JN,I4],[],iR),
 (1064,[JM,I9,Kd],[],f9),
 (1071,[JM,Jt,JF,I9,Kd],[],im),
 (1078,[JM,Jt,JF,I9,Kd],[],ft),
 (1092,[JM],[],ig),
 (1106,[Kh],[],sw),
 (1113,[Ki,1835101817],[],qw),
 (1120,[Ki,1835101817],[],pQ),
 (1127,[Jt],[],ry),
 (1134,[Jr],[],pp),
 (1141,[Jt],[],j3),
 (1148,[Jr],[],rD),
 (1153,[Jt],[],kO),
 (1160,[Jt,Kc,Kn,Js],[],my),
 (1167,[Jt,JD,Kn,JZ],[],jl),
 (1184,[Jt,Kr,JD,Kc,Kn,Js],[],iM),
 (1189,[Kh],[],CQ)]
structure Good(Z:Sys)(Kg:PQ):Prop where
 base:aN Z Kg
 lim:∀h:Oy,(∀a o,Z.base a=Md o->h.get? a=Md o)->h.NoLimit
 fn:∀(i:Nat)(f:Ml)(ns:List Nat)(ds:List Me)(c:T),iW[i]?=Md (f,ns,ds,c)->xa Z Kg f ns ds c
theorem Good.run(G:Good Z Kg)(i:Nat){c:T}(h:iW[i]?=Md (f,ns,ds,c))(hn:0<n)(h1:args.length<=ns.length)(h2:ns.length<=args.length+ds.length)(q:exec Z (n-1) c [] (ns.zip (args++ds.drop (args.length+ds.length-ns.length))) J (bV Q)):ac Z n (.ref f) args J Q:=by obtain⟨m,rfl⟩:∃m,n=m+1:=⟨n-1,af Ky [] [_,_] (Mf (af 0x2100009c060650230f [] [_] hn))⟩;exact aaW G.base G.lim (G.fn i f ns ds c h) h1 h2 q
inductive ml(bm:List Me):Prop where
 |mk (v:bm.contains (.type "ValueError")=Mj)
  (b:bm.contains (.type "BaseException")=Mj)
  (a:bm.contains (.type "AttributeError")=Mh)
  (n:bm.contains (.type "NameError")=Mh)
variable{e:Ml}{bs:List Me}{hdct ab:Bool}{sn:List Np}{col:Option Bool}{dd:Option Ml}
section
variable{M:RX}{os:O6}
variable{nm q:Np}{N:Ml}{bm:List Me}{sub:List Me}{k0 k1 k2 k3 k5:Option Me}
theorem rU(F:ml bm){Q:Unit->Mn->Prop}(hC:h.get? C=Md (Pg nm q C N bs bm hdct sn sub ab col dd k0 k1 k2 k3 k5 "ValueError.__new__"))(hq:Q () ⟨h,g,d,t,os⟩):My M A (NS "ValueError.__new__" ⟨.ref C::rest,[]⟩) Q E ⟨h,g,d,t,os⟩:=wpAny_check_new_subU M4 F.1 .base hC hq
theorem qT{V:Me}(hC:h.get? C=Md (Pg nm q C N bs bm hdct sn sub ab col dd k0 k1 k2 k3 k5 "ValueError.__new__"))(he:h.get? e=Md o)(hc:o.cls=.ref C)(hV:(MK C::bm).contains V=Mj):V8 M h (Rl (.ref e) V) true:=λA Q E s k x=>by
 obtain⟨h',g',d',t',os'⟩:=s;unfold Rl;repeat (first|(with_reducible refine N9 (k _ _ he) ?_;rw[hc])|(with_reducible refine Qu (k _ _ hC) ?_;rw[hV])|wp_step)
 exact x
end
variable{Q:Me->Mn->Prop}{fI:Ml}
section
variable{R:Pj->Mn->Prop}{os:O6}
variable{nm q:Np}{N:Ml}{bm:List Me}{sub:List Me}{k0 k1 k2 k3 k5:Option Me}
theorem uF(F:ml bm)(hC:h.get? C=Md (Pg nm q C N bs bm hdct sn sub ab col dd k0 k1 k2 k3 k5 "ValueError.__new__"))(hq:R (.ok (.ret (.ref (h.objs.size+1)))) ⟨(h.push {cls:=.type "tuple",data:=.seq rest.toArray}).push {cls:=.ref C,data:=.fields #[.ref h.objs.size,.none,.none,.none,.bool Mh,.none]},g,d,t,os⟩)(hrest:rest.length<=Sw):VR (Mk prog w) A (.builtin "ValueError.__new__" ⟨.ref C::rest,[]⟩) R ⟨h,g,d,t,os⟩:=by
 have hends:=M4.ends;have hcB:(MK C::bm).contains (.type "ValueError")=true:=by rw[OK,F.1,Q3]
 have hcA:(MK C::bm).contains (.type "AttributeError")=false:=by rw[OK,F.3];rfl
 have hcN:(MK C::bm).contains (.type "NameError")=false:=by rw[OK,F.4];rfl
 refine codeAny_builtinAt M4.entry ?_;unfold Builtin.«BaseException.__new__»;refine PySem.wpAt_bind ?_;show PySem.wpAt _ _ _ (stack>>=_) _ _ _;refine PySem.wpAt_bind (PySem.wpAt_stack λp below=>U2 ?_);wp_walk;refine U2 ?_;rw[M4.owner];repeat (first|with_reducible refine wpAny_madeHere_exc M4.canon hC ?_|with_reducible refine N9 hC ?_|(with_reducible refine Qu hC ?_;first|simp only[hcB]|simp only[hcA]|simp only[hcN])|wp_step)
 show R _ _;rw[OC];exact hq
theorem vn(F:ml bm){oI:P9}(hC:h.get? C=Md (Pg nm q C N bs bm hdct sn sub ab col dd k0 k1 k2 k3 k5 "ValueError.__new__"))(hi:∀h':Oy,(∀b o,h.get? b=Md o->h'.get? b=Md o)->V8 (Mk prog w) h' (Qe (.ref C) "__init__") (Md (.ref fI)))(hfI:h.get? fI=Md oI)(hfc:oI.cls=.type "function")(hq:∀h' e,Heap.MadeExcOf h h' e (.ref C) rest-> My (Mk prog w) (A.under (.builtin "type.__call__" ⟨.ref C::rest,[]⟩)) (OH (.ref fI) (.ref e::rest)) (λr s'=>r=.none/\Q (.ref e) s') E ⟨h',g,d,t,os⟩)(hrest:rest.length<=Sw):My (Mk prog w) A (OH (.ref C) rest) Q E ⟨h,g,d,t,os⟩:=by
 have f1:=tc_lookup;have f2:=tc_bind (.ref C);have hT:(⟨h,g,d,t,os⟩:Mn).TypeIs (.ref C) "type":=⟨_,hC,rfl⟩;refine wpAny_call (codeAny_of_tree ?_);show My _ _ (callAny (.ref C) _) _ _ _;repeat (any_goals (first|assumption|with_reducible refine N9 hC ?_|wp_step))
 refine⟨rfl,?_⟩;refine codeAny_call_builtin_at (QH _ (by decide +kernel)) entry_typeCall (wpAny_check_type_call_sub hC ?_);repeat (first|with_reducible refine N9 hC ?_|with_reducible refine wpAny_madeBy_exc hC ?_|wp_step)
 refine codeAny_call_builtin_code (QH _ M4.quiet) (rU F hC ?_);refine uF F hC ?_ hrest;show My _ _ _ _ _ _;have hC₁:=ME {cls:=.ref C,data:=.fields #[.ref h.objs.size,.none,.none,.none,.bool Mh,.none]}
  (ME {cls:=.type "tuple",data:=.seq rest.toArray} hC)
 have hfI₁:=ME {cls:=.ref C,data:=.fields #[.ref h.objs.size,.none,.none,.none,.bool Mh,.none]}
  (ME {cls:=.type "tuple",data:=.seq rest.toArray} hfI)
 have hget:((h.push {cls:=.type "tuple",data:=.seq rest.toArray}).push
   {cls:=.ref C,data:=.fields #[.ref h.objs.size,.none,.none,.none,.bool Mh,.none]}).get? (h.objs.size+1)=Md
   {cls:=.ref C,data:=.fields #[.ref h.objs.size,.none,.none,.none,.bool Mh,.none]}:=by heap_get
 have hcC:(MK C::bm).contains (.ref C)=true:=by simp
 refine Mg ((qT hC₁ hget rfl hcC).here ?_);repeat wp_step
 show My _ _ (Qe (.ref C) _) _ _ _;refine(hi _ λb o e=>ME _ (ME _ e)).at ?_;refine Oz (Mg ?_);unfold bindSpecial;refine Mg (Vs (T:="function") ⟨_,hfI₁,hfc⟩ ?_);rw[if_pos (by decide)];refine MC (Mg (NN (hq _ (h.objs.size+1) ⟨λb o hb=>ME _ (ME _ hb),UK (Qf _),h.objs.size,hget,UK (MD _),?_⟩) (λr s' hr=>?_) λa a x=>x));·exact ME _ (Vw rfl rfl)
 ·rw[hr.1];wp_walk;exact hr.2
end
section
open Builtin Builtin.ObjectAttr
section
variable{os:O6}
variable{nm q:Np}{N:Ml}{bm:List Me}{sub:List Me}{k0 k1 k2 k3 k5:Option Me}
theorem pq(F:ml bm)(hC:h.get? C=Md (Pg nm q C N bs bm hdct sn sub ab col dd k0 k1 k2 k3 k5 "ValueError.__new__"))(he:h.get? e=Md o)(hc:o.cls=.ref C)(hd:o.data=.fields vs)(h1:1<vs.size)(hq:∀h',(∀b ob,b≠e->h.get? b=Md ob->h'.get? b=Md ob)->h'.get? e=Md {o with data:=.fields (vs.setIfInBounds 0 (.ref h.objs.size))}->Q .none ⟨h',g,d,t,os⟩):My (Mk prog w) A (OH (.builtin "ValueError.__init__") [.ref e,v]) Q E ⟨h,g,d,t,os⟩:=by
 have hcB:(MK C::bm).contains (.type "ValueError")=true:=by rw[OK,F.1,Q3]
 have hshort:=M4.noStar;refine wpAny_call (Pt M4.init.plain M4.initEntry ?_);simp only[NS,M4.initKind,M4.initSplit,M4.initRow];repeat (first|(with_reducible refine N9 he ?_;rw[hc])|with_reducible refine N9 hC ?_|(with_reducible refine Qu hC ?_;rw[hcB])|wp_step)
 have he₁:=ME (h:=h) {cls:=.type "tuple",data:=.seq #[v]} he;rw[hd];refine MC ?_;rw[show vs[0]?=Md vs[0] from by simp[show 0<vs.size from Nq h1]];refine MC (Mg (wpAny_setField he₁ hd (Nq h1) ?_));have hs:e≠h.objs.size:=Nf (NA he);have fin:Q .none ⟨(h.push {cls:=.type "tuple",data:=.seq #[v]}).update e (Obj.mapFields (·.setIfInBounds 0 (MK h.objs.size))),g,d,t,os⟩:=by refine hq _ (λb ob hb hob=>(OT _ _ _ _ hb).trans (ME _ hob)) ?_;rw[Ng _ he₁ (Obj.isFreed_of_fields (Obj.data_mapFields hd _))];obtain⟨a,b,c,d⟩:=o;obtain rfl:c=.fields vs:=hd;rfl
 split;·exact UE (MC fin)
 ·exact MC (MC fin)
end
end
section
open Builtin Builtin.ObjectAttr
section
variable{os:O6}
variable{nm q:Np}{N P:Ml}{sub:List Me}{k0 k1 k2 k3 k5:Option Me}
noncomputable abbrev m4:List Value:=[.type "ValueError",.type "Exception",.type "BaseException",.type "object"]
theorem ui{M:RX}{nameV:Me}{Q:Unit->Mn->Prop}(hC:h.get? C=Md (Pg nm q C N bs (.ref P::m4) Mj sn sub ab col dd k0 k1 k2 k3 k5 "ValueError.__new__"))(hx:h.get? e=Md o)(hc:o.cls=.ref C)(hq:Q () ⟨h,g,d,t,os⟩):My M A (NS "object.__setattr__" ⟨[.ref e,nameV,v],[]⟩) Q E ⟨h,g,d,t,os⟩:=by have SF:=OL;have hi:V8 M h (Rl (.ref e) (.type "object")) true:=qT hC hx hc (by rw[OK,OK,SF.hasOwner,Q3,Q3]);exact check_slot (i:="object.__setattr__") (owner:="object") (n:="__setattr__") (self:=.ref e) (rest:=[nameV,v]) (kw:=[]) SF.kind SF.split hi (SF.args _ _ _) hq
theorem uN{tk:Ug}{Q:Fin->Mn->Prop}(X:K.In h)(hC:h.get? C=Md (Pg nm q C N bs (.ref P::m4) Mj sn sub ab col dd k0 k1 k2 k3 k5 "ValueError.__new__"))(hn:Ov K (.ref C) name=Md Mr)(he:h.get? e=Md o)(hc:o.cls=.ref C)(hd:o.data=.fields vs)(hdn:o.dict=Mr)(hq:∀h' tk' dx,(∀b ob,b≠e->h.get? b=Md ob->h'.get? b=Md ob)->h'.get? e=Md {o with dict:=Md dx}->Q (.done (.ret .none)) ⟨h',g,d,tk',os⟩):My (Mk prog w) A (Builtin.«object.__setattr__» ⟨[.ref e,.str name tk,v],[]⟩) Q E ⟨h,g,d,t,os⟩:=by
 have hpass:=OL.passes (.ref e);have LN:=PH (M:=Mk prog w) X hn;unfold Builtin.«object.__setattr__»;repeat (first|rw[refuse_eq]|(rw[refuseLoop_ref,refuseLoop_ref,hpass])|(with_reducible refine N9 he ?_;rw[hc])|with_reducible refine wpAny_mroOf_exc hC ?_|with_reducible refine LN.at ?_|wp_step)
 rw[hdn,if_neg (by simp[typeHasDict])];split;·rename_i hcd;cases hcd
 split;·rename_i c hcd;rw[hd] at hcd;cases hcd
 ·have hx₁:(h.push {cls:=.type "dict",data:=.dict #[]}).get? e=Md o:=ME _ he;have hxs:e≠h.objs.size:=Nf (NA he);refine Mg (wpAny_alloc' ?_);refine Mg (wpAny_update' hx₁ ?_);refine MC ?_;have hgd:((h.push {cls:=.type "dict",data:=.dict #[]}).update e λo=>{cls:=o.cls,dict:=Md h.objs.size,data:=o.data,slots:=o.slots}).get? h.objs.size
    = Md {cls:=.type "dict",data:=.dict #[]}:=
   (OT _ _ _ _ hxs.symm).trans (Vw rfl rfl)
  have hnd:((h.push {cls:=.type "dict",data:=.dict #[]}).update e λo=>{cls:=o.cls,dict:=Md h.objs.size,data:=o.data,slots:=o.slots}).Ns h.objs.size (λa=>Mr):=
   ⟨_,#[],_,hgd,rfl,λe he=>absurd he (by simp),λa=>rfl⟩
  show My _ _ (storeInDict h.objs.size (.str name tk) name v) _ _ _;unfold storeInDict newKeyGuard;refine Mg (MC (Mg (wpAny_nsSet1 (Heap.Ns1.of_empty hnd) λh' hn' hs=>?_)));refine ae (hn'.count (Within.cons name v Within.nil)) λoD z1=>?_;refine ae z1 λesD z2=>?_;refine ae z2 λepD z3=>?_;have hoD:=z3.1;have hdD:=z3.2.1;have hcD:=z3.2.2;refine Mg (TF hoD (by rw[hdD];exact pastItsLine_dict (Nk hcD (by rw[MW,Pd,NL];exact Ms _ _))) ?_);wp_walk;refine hq h' _ h.objs.size (λb ob hbx hb=>?_) ?_;·exact(hs.2 b (Nf (NA hb))).trans ((OT _ _ _ _ hbx).trans (ME _ hb))
  ·refine(hs.2 e hxs).trans (Ng _ hx₁ ?_);obtain⟨oc,od,odt,osl⟩:=o;obtain rfl:odt=.fields vs:=hd;rfl
theorem uY(X:K.In h)(hC:h.get? C=Md (Pg nm q C N bs (.ref P::m4) Mj sn sub ab col dd k0 k1 k2 k3 k5 "ValueError.__new__"))(ha:Ov K (.ref C) "__setattr__"=Md (Md (.builtin "object.__setattr__")))(hn:Ov K (.ref C) name=Md Mr)(he:h.get? e=Md o)(hc:o.cls=.ref C)(hd:o.data=.fields vs)(hdn:o.dict=Mr){Q:Unit->Mn->Prop}(hq:∀h' tk' dx,(∀b ob,b≠e->h.get? b=Md ob->h'.get? b=Md ob)->h'.get? e=Md {o with dict:=Md dx}->Q () ⟨h',g,d,tk',os⟩):My (Mk prog w) A (Vq (.ref e) name v) Q E ⟨h,g,d,t,os⟩:=by
 have f3:=OL.slot.bind (.ref e);have LA:=PH (M:=Mk prog w) X ha;unfold Vq Sj specialOf;repeat (any_goals (first|assumption|(with_reducible refine N9 he ?_;rw[hc])|(with_reducible refine LA.at ?_)|wp_step))
 refine Pt OL.slot.plain OL.entry (ui hC he hc (uN X hC hn he hc hd hdn λh' tk' dx a b=>?_));repeat (any_goals (first|assumption|wp_step))
 exact hq h' tk' dx a b
end
end
namespace Wc
section
variable{R:Pj->Mn->Prop}
set_option backward.match.sparseCases true in theorem Y1{args:Args}(hroom:A.depth<O5)(ho:s.heap.get? a=Md o)(hdata:o.data=.func fd)(hlim:s.heap.NoLimit)(hcd:s.heap.CodeRec fd.code fd.qualname)(hbody:fd.body=.stmts body)(hbind:V0 s fd args binds)(hclo:fd.closure=[])(hkind:∀x∈binds,fd.scope.names.lookup x.1=Md .local∨(fd.scope.names.lookup x.1=Md .cell/\((UT (s.heap.objs.size+1) fd.scope.names []).lookup x.1).isSome=Mj))(h:∀s₁,InCallC s (Pu fd s.heap.objs.size a).locals (bindL (Pu fd s.heap.objs.size a).kindOf binds λb=>Mr) (Pu fd s.heap.objs.size a).cells (bindC (Pu fd s.heap.objs.size a).kindOf binds λb=>Mr) s₁-> Wj (Mk prog w) (A.deeper (Pu fd s.heap.objs.size a)) (Qc body (Pu fd s.heap.objs.size a)) (λf s'=>R (.ok (.ret (match f with|.ret v=>v|_=>.none))) s') N0 s₁)(hco:fd.scope.isCoroutine=Mh)(hgen:fd.scope.isGenerator=Mh)(hk:fd.scope.kind=.function):Wx (Mk prog w) A (.call (.ref a) args) R s:=by refine Zz hroom ho hdata hcd hbody hbind hco hgen ?_;rw[hclo];refine wpAny_newFunctionEnv_cells hk (λx m=>(hkind x m).imp_right An.and) λenv he s' x=>?_;have ee:env=Pu fd s.heap.objs.size a:=he;subst ee;exact⟨hlim.keeps x.toInCall.keep,ZI (h s' x)⟩
end
end Wc
inductive More(Z Z':Sys):Prop where
 |mk (prog:Z'.prog=Z.prog)
  (w:Z'.w=Z.w)
  (os:Z'.os=Z.os)
  (kl:Z'.kl=Z.kl)
  (kt:Z'.kt=Z.kt)
  (base:∀a o,Z.base a=Md o->Z'.base a=Md o)
theorem More.frag(h:More Z Z')(x:bG K Z.base):bG K Z'.base:=λa o e=>h.6 a o (x a o e)
theorem aN.Xn(B:aN Z Kg)(h:More Z Z'):aN Z' Kg:=by
 refine⟨?_,?_,?_,?_,?_,?_,?_⟩;·exact h.frag B.1
 ·refine bI B.2 λmg mb z13=>?_;exact⟨mg,mb,λhp k=>z13.1 hp λa o e=>k a o (h.6 a o e),z13.2⟩
 ·intro C hC;exact⟨(B.3 C hC).1.elim λK q=>⟨K,h.frag q.1,q.2⟩⟩
 ·refine ae B.4 λo e=>?_;exact⟨o,h.6 _ _ e⟩
 ·intro a ha;refine ae (B.5 a ha) λK z12=>?_;exact⟨K,h.frag z12.1,z12.2⟩
 ·intro a xs e;rw[h.4] at e;refine bI (B.6 a xs e) λys n z11=>?_;exact⟨ys,n,h.6 _ _ z11.1,z11.2⟩
 ·intro a xs e;rw[h.5] at e;refine bI (B.7 a xs e) λys n z10=>?_;exact⟨ys,n,h.6 _ _ z10.1,z10.2⟩
theorem xa.Xn{c:T}(F:xa Z Kg f ns ds c)(h:More Z Z'):xa Z' Kg f ns ds c:=
 ⟨F.1.elim λK q=>⟨K,h.frag q.1,q.2⟩⟩
theorem gj:∀(names:List (Np×RM))(n:Nat)(acc:List (Np×Ml)),names.filter (λx=>x.2==.cell)=[]->UT n names acc=acc
 |[],_,_,_=>rfl
 |(x,k)::r,n,acc,h=>by
  unfold UT;rw[List.filter_cons] at h;dsimp only at h;split at h;·cases h
  ·rename_i hk;rw[if_neg hk];exact gj r n acc h
theorem iv{cn:Np}:∀(names:List (Np×RM))(n:Nat),names.filter (λx=>x.2==.cell)=[(cn,.cell)]->UT n names []=[(cn,n)]
 |[],_,h=>by cases h
 |(x,k)::r,n,h=>by
  unfold UT;rw[List.filter_cons] at h;dsimp only at h;split at h
  ·rename_i hk;rw[if_pos hk];injection h with h1 h2
   injection h1 with h1 h3
   subst h1;exact gj r _ _ h2
  ·rename_i hk;rw[if_neg hk];exact iv r n h
theorem oK{kind:Np->Option RM}:∀(l:List (Np×Me))(m:Np->Option Me),(∀x∈l,kind x.1=Md .local)->bindL kind l m=λy=>match l.reverse.lookup y with|some v=>Md v|none=>m y
 |[],_,_=>rfl
 |(n,v)::r,m,h=>by
  unfold bindL;rw[if_pos (h (n,v) (MU ..)),oK r _ λx hx=>h x (MV _ hx)];funext y;rw[P5,PI];cases r.reverse.lookup y with
  |some u=>rfl
  |none=>
   simp only[Ox,List.lookup_nil,Option.none_or];by_cases hy:y=n;·subst hy;simp
   ·have:(y==n)=false:=beq_eq_false_iff_ne.mpr hy;simp only[if_neg hy,this]
theorem oJ{kind:Np->Option RM}:∀(l:List (Np×Me))(m:Np->Option Me),(∀x∈l,kind x.1=Md .local)->bindC kind l m=m
 |[],_,_=>rfl
 |(n,v)::r,m,h=>by unfold bindC;rw[if_pos (h (n,v) (MU ..))];exact oJ r _ λx hx=>h x (MV _ hx)
theorem vc{v:Option Me}(h:o.data=.cell v):o.isFreed=false:=by obtain⟨a,b,c,d⟩:=o;cases h;rfl
abbrev Dv(K:PQ)(fd:Su)(cn:Np)(ns:List Nat):Prop:=(fd.params.posonlyargs.isEmpty&&fd.params.vararg.isNone&&fd.params.kwonlyargs.isEmpty&&fd.params.kwarg.isNone)=Mj/\(fd.params.args.map (·.arg)).head?=Md cn/\(fd.params.args.map (·.arg)).tail.map enc=ns/\
 (fd.params.args.map (·.arg)).tail.all (λy=>fd.scope.names.lookup y==Md .local)=Mj/\(enc cn::ns).Nodup/\(enc cn::ns).all (· != 0)=Mj/\fd.scope.names.lookup cn=Md .cell/\(fd.scope.names.filter (λx=>x.2==.cell)==[(cn,.cell)])=Mj/\
 fd.globals=Nz/\fd.builtins=Qd/\fd.closure.isEmpty=Mj/\fd.scope.isCoroutine=Mh/\fd.scope.isGenerator=Mh/\fd.scope.kind=.function/\codeIn K fd.code fd.qualname=Mj/\(fd.defaults==.none)=Mj
noncomputable def te(K:PQ)(f:Ml)(cn:Np)(ns:List Nat):Bool:=match cP K f with
 |some fd=>(letI:∀{a b:Prop}[Decidable a][Decidable b],Decidable (An a b):=Ea;M3 (Dv K fd cn ns))&&(lg fd.body).isSome
 |none=>Mh
inductive Fg(K:PQ)(f:Ml)(cn:Np)(ns:List Nat):Prop
 |mk (o:P9) (fd:Su) (b:List OO):K.lookup f=Md o->o.data=.func fd->fd.body=.stmts b->aM K f=Md (fd.scope,b)->Dv K fd cn ns->Fg K f cn ns
theorem um{cn:Np}(h:te K f cn ns=Mj):Fg K f cn ns:=by
 unfold te at h;cases hf:cP K f with
 |none=>rw[hf] at h;cases h
 |some fd=>
  rw[hf] at h;obtain⟨h1,h2⟩:=MR.mp h;have zqi:_:=qY hf h2;induction zqi with
  |mk o b a1 a2 a3 a4=>exact⟨o,fd,b,a1,a2,a3,a4,odt h1⟩
inductive A5(Z:Sys)(Kg:PQ)(f:Ml)(cn:Np)(ns:List Nat)(c:T):Prop where
 |mk (ok:∃K,bG K Z.base/\te K f cn ns=Mj/\dq Kg K f=Md c)
section
variable{g:Ml->Own}
theorem Inv.add(I:Inv Φ J g h)(hf:g a=.free)(ha:h.get? a=Md o):Inv (Φ.add a o) J (ic (ic g a .W7) a .W7) h:=
 (I.Zb (x:=.W7) hf ⟨o,ha⟩).Zf (.inr bg) ⟨o,ha⟩ (λb q=>⟨bv.YX q,Pm⟩) (λo' e=>⟨rfl,ha.trans (bv.XU.symm.trans e)⟩) λb=>.inl rfl
theorem Inv.abf(h0:Φ.o a=Mr)(I:Inv (Φ.add a o) J g h):Inv Φ J g h:=
 I.tr (·=a) (λb q=>⟨rfl,(bv.YX q).symm,Pm,rfl⟩) (λf f f e=>e) (λb d q e=>by rw[(I.1 b o (q▸bv.XU)).2] at e;cases e) (λb o q e=>by rw[q,h0] at e;cases e) (λb f e=>I.2 b e) (λb c f e=>I.3 b c e) λb f e=>I.4 b e
end
theorem cS.add(h:cS n A Φ L)(h0:Φ.o a=Mr):cS n A (Φ.add a o) L:=by refine ae h.2.2.2 λl z9=>?_;exact⟨h.1,h.2.1,h.2.2.1,l,z9.1,z9.2.Wr (λb q=>q) (λb o e=>bv.Zt h0 e) λb q=>.inl q⟩
noncomputable def Sys.cell(Z:Sys)(a:Ml)(o:P9)(cv:Loc):Sys:={Z with base:=λb=>if b=a then Md o else Z.base b,cv:=cv}
theorem Sys.aag{cv:Loc}(h0:Z.base a=Mr):More Z (Z.cell a o cv):=⟨rfl,rfl,rfl,rfl,rfl,λb o' e=>(if_neg λq=>by rw[q,h0] at e;cases e).trans e⟩
set_option backward.match.sparseCases true in theorem aaG(hlim:∀h:Oy,(∀a o,Z.base a=Md o->h.get? a=Md o)->h.NoLimit)(B:aN Z Kg){cn:Np}{c:T}(F:A5 Z Kg f cn ns c){v0:Me}{Q:Me->Sg->Prop}(h1:args.length=ns.length)(h:∀Z',More Z Z'->Z'.cv=[(enc cn,v0)]->exec Z' n c [] (ns.zip args) J (bV Q)):ac Z (n+1) (.ref f) (v0::args) J Q:=by
 intro Φ g s A vals I hb hr hg ho hv;refine ae F.1 λK z8=>?_;have F:=z8.2.1;have hc:=z8.2.2;have zqi:_:=um F;induction zqi with
 |mk o fd body ho' hdat hbd hbi FH=>
 have p0:=FH.1;have ph:=FH.2.1;have e5:=FH.2.2.1;have hl:=FH.2.2.2.1;have p9:=FH.2.2.2.2.2.2.2.1;have F2:=FH.2.2.2.2.2.2.2.2.1;have F3:=FH.2.2.2.2.2.2.2.2.2.1;have F7:=FH.2.2.2.2.2.2.2.2.2.2.2.2.2.1;simp only[Of,Qn,Pa] at p0;obtain⟨⟨⟨p1,p2⟩,p3⟩,p4⟩:=p0;have base:∀a o,Z.base a=Md o->s.heap.get? a=Md o:=λa o e=>(I.1 a o (hb a o e).1).1.at (hb a o e).2;have X:K.In s.heap:=λa o e=>base a o (z8.1 a o e);induction vals with
 |nil=>cases hv
 |cons w0 vals'=>
 obtain⟨hv0,hva⟩:=Wh hv;obtain⟨names,hnames⟩:∃names,fd.params.args.map (·.arg)=cn::names:=by
  cases q:fd.params.args.map (·.arg) with
  |nil=>rw[q] at ph;cases ph
  |cons x r=>rw[q] at ph;cases ph;exact⟨r,rfl⟩
 rw[hnames] at e5 hl;have e5:names.map enc=ns:=e5;have hlen:names.length=ns.length:=by rw[<-e5,Mu]
 have hargs:vals'.length=args.length:=by rw[<-hva,Mu]
 have hnd:(cn::names).Nodup:=jJ (by rw[Nn,e5];exact FH.2.2.2.2.1);have hloc:∀x∈names.zip vals',fd.scope.names.lookup x.1=Md .local:=λx hx=>beq_iff_eq.mp (NU.mp hl _ (Uk hx).1);have h0:∀x∈names,enc x≠0:=λx hx=>bne_iff_ne.mp (NU.mp FH.2.2.2.2.2.1 _ (MV _ (e5▸NB hx)));have hbind:=rO (s:=s) (fd:=fd) (ns:=cn::names) (vals:=w0::vals') (ds:=[]) ⟨p1,hnames,p2,p3,p4⟩ hnd (λM A E Q hq=>by rw[beq_iff_eq.mp FH.2.2.2.2.2.2.2.2.2.2.2.2.2.2.2];exact MC (hq _ rfl)) (by simp;exact aS 0x109211c200029941510d50944b521689d4130f [] [_,_,_,_] h1 hlen hargs) (by simp) (by simp;exact aS 0x1096114210029950944b505443521689d4130f [] [_,_,_,_] h1 hlen hargs);rw[Pd,show(cn::names).zip (w0::vals'++([]:List Me).drop ((w0::vals').length+0-(cn::names).length))=(cn,w0)::names.zip vals' by simp] at hbind;have p9:=beq_iff_eq.mp p9;have hcs:=iv fd.scope.names (s.heap.objs.size+1) p9;refine Wc.Y1 (by have:=hr.1;unfold O5;exact af 0x142c61000117082284740448276b43fa041418 [] [_,_] this) (X _ _ ho') hdat (hlim _ base) (codeRec_of X FH.2.2.2.2.2.2.2.2.2.2.2.2.2.2.1) hbd hbind (Qn.mp FH.2.2.2.2.2.2.2.2.2.2.1) (λx hx=>?_) (λs₁ S=>?_) FH.2.2.2.2.2.2.2.2.2.2.2.1 FH.2.2.2.2.2.2.2.2.2.2.2.2.1 F7
 ·refine Pl (MT.mp hx) (λzz=>?_) (λhx=>?_);rw[zz];·exact .inr ⟨FH.2.2.2.2.2.2.1,by rw[hcs];simp⟩
  ·exact .inl (hloc x hx)
 have hnl:¬fd.scope.names.lookup cn=Md .local:=by rw[FH.2.2.2.2.2.2.1];nofun
 rw[show(Pu fd s.heap.objs.size f).kindOf=λx=>fd.scope.names.lookup x from rfl,show(Pu fd s.heap.objs.size f).cells=[(cn,s.heap.objs.size+1)] from hcs,show(Pu fd s.heap.objs.size f).locals=s.heap.objs.size from rfl] at S;unfold bindL bindC at S;rw[if_neg hnl,if_neg hnl,oK _ _ hloc,oJ _ _ hloc] at S;obtain⟨⟨⟨h₁,tk,rfl⟩,hns,hk,_⟩,hcell,_,_⟩:=S;refine ae (hcell cn (s.heap.objs.size+1) (by simp)) λoc z7=>?_;obtain⟨hoc,hod⟩:=z7;rw[if_pos rfl] at hod;generalize hLL:s.heap.objs.size=L at*;have F0:=I.fresh (a:=L) (hLL▸MD _);have F1:=I.fresh (a:=L+1) (hLL▸Qf _);have hne:L+1≠L:=Nat.succ_ne_self L;have hz:Z.base (L+1)=none:=by
  cases q:Z.base (L+1) with
  |none=>rfl
  |some o=>have:=(hb _ _ q).1;rw[F1.2.1] at this;cases this
 have M:More Z (Z.cell (L+1) oc [(enc cn,v0)]):=Sys.aag hz;have nfr:¬(Φ.with L).fr (L+1):=λq=>q.elim hne (I.X1 (hLL▸Qf _));have hb':WJ (Z.cell (L+1) oc [(enc cn,v0)]) ((Φ.with L).add (L+1) oc):=λa o e=>by
  by_cases q:a=L+1;·subst q;exact⟨bv.XU.trans ((if_pos rfl).symm.trans e),nfr⟩
  ·have e:=(if_neg q).symm.trans e;refine⟨(bv.YX q).trans (hb a o e).1,λz=>z.elim (λz=>?_) (hb a o e).2⟩;have:=(hb a o e).1;rw[z,F0.2.1] at this;cases this
 unfold dq at hc;rw[hbi,NI] at hc;refine ae (MQ.mp hc) λz5 z6=>?_;have c':=z5.1;have ok:=z5.2;obtain rfl:=z6.2;have AQ:ss (Z.cell (L+1) oc [(enc cn,v0)]) fd.scope (Pu fd L f):=λx hx=>by have:(x,NameKind.cell)∈fd.scope.names.filter (λx=>x.2==.cell):=List.mem_filter.mpr ⟨Xi hx,rfl⟩;rw[p9] at this;have e:_:=congrArg RC (MN.mp this);replace e:x=cn:=e;subst e;exact⟨L+1,oc,w0,by rw[show(Pu fd L f).cells=[(x,L+1)] from hcs];simp,if_pos rfl,hod,vc hod,by rw[hv0];exact if_pos rfl⟩
 refine Wc.Wn (ok ⟨Z.cell (L+1) oc [(enc cn,v0)],(Φ.with L).add (L+1) oc,L,A.deeper (Pu fd L f),n,Pu fd L f,B.Xn M,hb',⟨rfl,F7,rfl,F2,F3⟩,(hr.XO (L:=L) F7 rfl).add F1.2.1,AQ⟩ (ns.zip args) J {s with heap:=h₁,toks:=tk} (bV Q) ?_ (h _ M rfl)) (λfl s' hfl=>?_) λb b y=>y.elim
 ·refine⟨_,_,(I.XO F0.2.2 (by refine ae hns λo z2=>?_;refine ae z2 λb z3=>?_;refine ae z3 λb z4=>?_;obtain⟨q,_⟩:=z4;exact⟨o,q⟩) hk).add ((cZ hne).trans F1.2.2) hoc,(cZ hne.symm).trans ((cZ hne.symm).trans bg),hns,λx=>?_,hg,ho⟩;have e1:(match(names.zip vals').reverse.lookup x with|some v=>Md v|none=>(Mr:Option Me))=(names.zip vals').lookup x:=by rw[mB (by rw[Rg (aS 0x1096114210029950944b505443521689d4130f [] [_,_,_,_] h1 hlen hargs)];exact(OF.mp hnd).2)];cases (names.zip vals').lookup x<;>rfl
  rw[e1,wV (by rw[e5];exact(OF.mp FH.2.2.2.2.1).2) h0,e5,hva]
 ·refine qB (Z':=Z.cell (L+1) oc [(enc cn,v0)]) (Φ':=(Φ.with L).add (L+1) oc) (L:=L) (r:=λf=>.ok (.ret (match f with|.ret v=>v|_=>.none))) rfl (λI=>Inv.leave F0.2.1 (Inv.abf F1.2.1 I)) hfl (λb=>rfl) rfl
noncomputable def aaR:Data->Option ClassData
 |.cls cd=>Md cd
 |_=>Mr
abbrev Ix(C P:Ml)(o:P9)(cd:ClassData):Prop:=o.cls=.type "type"/\(cd.mro==.ref C::.ref P::m4)=Mj/\cd.hasDict=Mj/\cd.hasDel=Mh/\o.slots.toList.length=6/\(o.slots[4]?==Md (Md (.builtin "ValueError.__new__")))=Mj
noncomputable def Bp(K:PQ)(C P:Ml):Bool:=match K.lookup C with
 |some o=>match aaR o.data with
  |some cd=>letI:∀{a b:Prop}[Decidable a][Decidable b],Decidable (An a b):=Ea;M3 (Ix C P o cd)
  |none=>Mh
 |none=>Mh
inductive vm(K:PQ)(C P:Ml):Prop
 |mk (nm q:Np) (N:Ml) (bs:List Me) (sn:List Np) (sub:List Me) (ab:Bool) (col:Option Bool) (dd:Option Ml) (k0 k1 k2 k3 k5:Option Me):K.lookup C=Md (Pg nm q C N bs (.ref P::m4) Mj sn sub ab col dd k0 k1 k2 k3 k5 "ValueError.__new__")->vm K C P
theorem jd{l:List α}(h:l.length=n+1):bM λa r=>l=a::r/\r.length=n:=by
 induction l with
 |nil=>cases h
 |cons a r=>exact⟨a,r,rfl,Sh h⟩
theorem zX{l:List α}(h:l.length=6):∃a b c d e f,l=[a,b,c,d,e,f]:=by refine bI (jd h) λa l1 z19=>?_;rw[z19.1];refine bI (jd z19.2) λb l2 z18=>?_;rw[z18.1];refine bI (jd z18.2) λc l3 z17=>?_;rw[z17.1];refine bI (jd z17.2) λd l4 z16=>?_;rw[z16.1];refine bI (dM z16.2) λe f z15=>?_;rw[z15];exact⟨a,b,c,d,e,f,rfl⟩
theorem Aj{P:Ml}(h:Bp K C P=Mj):vm K C P:=by
 unfold Bp at h;cases hl:K.lookup C with
 |none=>rw[hl] at h;cases h
 |some o=>
 rw[hl] at h;dsimp only at h;cases hc:aaR o.data with
 |none=>rw[hc] at h;cases h
 |some cd=>
 rw[hc] at h;obtain z14:=odt h;have hd:o.data=.cls cd:=by cases q:o.data<;>rw[q] at hc<;>cases hc;rfl
 obtain⟨oc,od,odt,⟨l⟩⟩:=o;refine ae (zX z14.2.2.2.2.1) λk0 z9=>?_;refine ae z9 λk1 z10=>?_;refine ae z10 λk2 z11=>?_;refine ae z11 λk3 z12=>?_;refine ae z12 λk4 z13=>?_;refine ae z13 λk5 e=>?_;obtain rfl:l=_:=e;obtain rfl:oc=_:=z14.1;obtain rfl:odt=_:=hd;obtain⟨a1,a2,a3,a4,a5,a6,a7,a8,a9,a10,a11⟩:=cd;obtain rfl:a3=_:=beq_iff_eq.mp z14.2.1;obtain rfl:a6=_:=z14.2.2.1;obtain rfl:a11=_:=z14.2.2.2.1;obtain rfl:k4=_:=MJ (beq_iff_eq.mp z14.2.2.2.2.2);exact⟨a1,a5,a4,a2,a7,a8,a9,a10,od,k0,k1,k2,k3,k5,hl⟩
theorem wX(P:Ml):ml (.ref P::m4):=⟨rfl,rfl,rfl,rfl⟩
inductive AN(X:CX):List OO->Prop
 |mk {p1 p2 p3 p4 p5 p6 p7 p8 p9 p10} (h1:ax X "ValueError" (.type "ValueError")/\dn "ValueError") (h2:X.scope.names.lookup ("self":Np)=Md .local) (h3:X.scope.names.lookup ("reason":Np)=Md .local) (h4:p2.endLine=p5.line) :
  AN X [.Expr (.Call (.Attribute (.Name "ValueError" p1) "__init__" p2) [.Name "self" p3,.Name "reason" p4] [] p5) p6,.Assign [.Attribute (.Name "self" p7) "reason" p8] (.Name "reason" p9) p10]
inductive xx(Z:Sys)(Kg:PQ)(fI:Ml):Prop where
 |mk (ok:∃K,bG K Z.base/\kQ K fI [enc ("self":Np),enc ("reason":Np)] [.str "" 0]=Mj/\∀sc b,aM K fI=Md (sc,b)->AN ⟨Kg,sc⟩ b)
noncomputable def Z0:Heap:=⟨#[],{}⟩
theorem Al(b:Ml):Z0.get? b=none:=by
 cases q:Z0.get? b with
 |none=>rfl
 |some o=>have:=NA q;simp[Z0] at this
theorem Ac:findCls [] (.type "ValueError") (.type "type") "__init__"=Md (.val (.builtin "ValueError.__init__")):=by kernel_rfl
theorem Ao:Ve (.type "ValueError")=NO (.type "type"):=by kernel_rfl
theorem uB:handedIn (.builtin "ValueError.__init__")=true:=by decide +kernel
theorem ta:(("self":Np)==("__debug__":Np))=false:=by decide +kernel
theorem oa:(("reason":Np)==("__debug__":Np))=false:=by decide +kernel
theorem zt:Manifest.isStub "ValueError"=false:=by decide +kernel
theorem yO{m:Np->Option Me}(hns:s.heap.Ns L m){Q:Me×List Me->Mn->Prop}(h:Q (.builtin "ValueError.__init__",[]) {s with toks:=s.toks+1}):My (Mk prog w) A (Rk (.type "ValueError") "__init__" pl) Q E s:=by
 have X₀:Frag.In ([]:PQ) Z0:=λa o q=>by cases q
 have F₀:Fr Z0 L s.heap m:=⟨hns,λb o q=>(by rw[Al] at q;cases q),Nc _⟩;exact(@method_type prog w A E s [] L Z0 m "__init__" (.builtin "ValueError.__init__") "ValueError" pl Q F₀ X₀ Ao zt) Ac uB h
theorem zi{X:CX}(hE:kH env X.scope L){m:Np->Option Me}(hns:s.heap.Ns L m){id:Np}(hk:X.scope.names.lookup id=Md .local)(hu:m id=Md u)(hd:dn id)(h:Q' u s):My (Mk Z.prog Z.w) A (NW (.Name id pos) env) Q' E s:=
 Vf (wpAny_loadName_local (by rw[hE.1];exact hE.2) (by unfold SH;rw[hE.1];exact hk) (by rw[hE.3];exact hns) hu h) hd
inductive yD(C e:Ml)(fresh:Bool)(h:Oy):Prop
 |mk (o:P9) (vs:Array Me):h.get? e=Md o->o.cls=.ref C->o.data=.fields vs->vs[1]?=Md .none->(fresh=Mj->o.dict=Mr)->(fresh=Mh->∃a0,vs[0]?=Md a0)->yD C e fresh h
inductive Dg(C e:Ml)(h:Oy):Prop
 |mk (o:P9) (vs:Array Me) (a0:Me):h.get? e=Md o->o.cls=.ref C->o.data=.fields vs->o.dict=Mr->vs[1]?=Md .none->vs[0]?=Md a0->Dg C e h
noncomputable def Z7(C e:Ml)(h:Oy):Prop:=nW λo vs a0=>h.get? e=Md o/\o.cls=.ref C/\o.data=.fields vs/\vs[1]?=Md .none/\vs[0]?=Md a0
section
variable{X:CX}{P:Ml}{os:O6}
theorem Cv(hC:vm K C P)(hK:K.In h)(x:yD C e Mj h)(k:∀h',(∀b ob,b≠e->h.get? b=Md ob->h'.get? b=Md ob)->Dg C e h'->Q .none ⟨h',g,d,t,os⟩):My (Mk Z.prog Z.w) A (OH (.builtin "ValueError.__init__") [.ref e,v]) Q E ⟨h,g,d,t,os⟩:=by
 induction hC with
 |mk nm q N bs sn sub ab col dd k0 k1 k2 k3 k5 hCl=>
 induction x with
 |mk o vs he hc hdat h1 hdn=>
 have hsz:=(O4.mp h1).1;exact pq (wX P) (hK _ _ hCl) he hc hdat hsz λh' x y=>k h' x ⟨_,_,.ref h.objs.size,y,hc,rfl,hdn rfl,(Array.getElem?_setIfInBounds_ne (by decide)).trans h1,by rw[RR,if_pos rfl,if_pos (Q0 Nat.zero_lt_one hsz)]⟩
theorem A8(hC:vm K C P)(hK:K.In h)(ha:Ov K (.ref C) "__setattr__"=Md (Md (.builtin "object.__setattr__")))(hn:Ov K (.ref C) "reason"=Md Mr)(x:Dg C e h){Q:Unit->Mn->Prop}(k:∀h' tk,(∀b ob,b≠e->h.get? b=Md ob->h'.get? b=Md ob)->Z7 C e h'->Q () ⟨h',g,d,tk,os⟩):My (Mk Z.prog Z.w) A (Vq (.ref e) "reason" v) Q E ⟨h,g,d,t,os⟩:=by
 induction hC with
 |mk nm q N bs sn sub ab col dd k0 k1 k2 k3 k5 hCl=>
 induction x with
 |mk o vs a0 y1 y2 y3 y4 y5 y6=>exact uY hK (hK _ _ hCl) ha hn y1 y2 y3 y4 λh₂ tk dx x1 x2=>k h₂ tk x1 ⟨_,vs,a0,x2,y2,y3,y5,y6⟩
theorem zb(B:aN Z X.K)(hE:kH env X.scope L){m:Np->Option Me}{p1 p2 p4 p5:Qw}{u2:Me}(here:∀a o,Z.base a=Md o->h.get? a=Md o)(hns:h.Ns L m)(hg:ax X "ValueError" (.type "ValueError")/\dn "ValueError")(t2:X.scope.names.lookup ("self":Np)=Md .local)(t3:X.scope.names.lookup ("reason":Np)=Md .local)(t4:p2.endLine=p5.line)(m1:m "self"=Md (.ref e))(m2:m "reason"=Md u2)(k:∀tk,My (Mk Z.prog Z.w) A (OH (.builtin "ValueError.__init__") [.ref e,u2]) Q E ⟨h,g,d,tk,os⟩):My (Mk Z.prog Z.w) A (NW (.Call (.Attribute (.Name "ValueError" p1) "__init__" p2) [.Name "self" p3,.Name "reason" p4] [] p5) env) Q E ⟨h,g,d,t,os⟩:=by
 rw[arm_eval_Call,km rfl];refine Mg (tW B hE here hg λu hu=>?_);rw[bK hu];refine Mg (QS ?_);unfold methodCall;have hpos:Ry Mj (.Name (OX "ValueError") p1) env p2 p5=NO p5:=by unfold Ry;simp[t4]
 show My _ _ (Pn [TY "ValueError"] (Rk (.type "ValueError") "__init__" _)>>=λx=>Ry Mj _ env p2 p5>>=λcp=>QU cp x.1 x.2 _ _) _ _ _;rw[hpos];refine Mg (Oz (yO (by exact hns) (Mg (MC ?_))));dsimp only;refine callWith_builtin rfl ?_;show My _ _ (Vp (.builtin "ValueError.__init__") Mj [(Mh,NW (.Name "self" p3) env),(Mh,NW (.Name "reason" p4) env)] []) _ _ _;exact evalArgs_plain (Vx (zi hE (by exact hns) t2 m1 ta (Vx (zi hE (by exact hns) t3 m2 oa (spliced_nil (k _))))))
end
variable{g:Ml->Own}
theorem su(B:aN Z Kg)(hlim:∀h:Oy,(∀a o,Z.base a=Md o->h.get? a=Md o)->h.NoLimit)(hK:bG K Z.base){P:Ml}(F:xx Z Kg fI)(hC:vm K C P)(ha:Ov K (.ref C) "__setattr__"=Md (Md (.builtin "object.__setattr__")))(hn:Ov K (.ref C) "reason"=Md Mr)(I:Inv Φ J g s.heap)(hb:WJ Z Φ)(hd:A.depth<O5)(hg:s.gens=#[])(ho:s.os=Z.os)(x:yD C e Mj s.heap)(hnew:Z.base e=Mr)(hq:∀h' tk,(∀b ob,b≠e->s.heap.get? b=Md ob->h'.get? b=Md ob)->Z7 C e h'->Q .none {s with heap:=h',toks:=tk}):My (Mk Z.prog Z.w) A (OH (.ref fI) [.ref e,v]) Q E s:=by
 refine ae F.1 λKf z8=>?_;have F2:=z8.2.2;have En:=ent (A:=A) (vals:=[.ref e,v]) (args:=[.ref e,er v]) hlim z8.1 z8.2.1 (by simp) (by simp) I hb hg ho rfl;induction En with
 |mk o fd body binds a1 a2 a3 a4 a5 a6 a7 a8 a9 b1 b2 b3 b4 b5 b6 b7=>
 refine wpAny_call (codeAny_call_def hd a1 a2 a3 a4 a5 a6 a7 a8 (λh₀ hns hk=>?_) a9 b1 b2);have y:=b7 h₀ hns hk;have here₀:=y.here b6;have hes:e≠s.heap.objs.size:=by induction x with|mk o vs he=>exact Nf (NA he)
 have zqi:_:=F2 _ _ b3;induction zqi with
 |mk t1 t2 t3 t4=>
 have hint:Tb (Sl fd s.heap.objs.size fI)=false:=by unfold Tb;rw[b5.1,b5.2];rfl
 generalize Sl fd s.heap.objs.size fI=env at*;induction y with
 |mk g' m I' hL hns' hm hg' ho'=>
 have hne:enc ("self":Np)≠enc ("reason":Np):=by decide +kernel
 refine ae (hm.get (n:="self") (u:=.ref e) (if_pos rfl)) λu1 z7=>?_;have m1:=z7.1;refine ae (hm.get (n:="reason") (u:=er v) ((if_neg hne).trans (if_pos rfl))) λu2 z6=>?_;rw[aq z7.2] at m1;have x₀:yD C e Mj h₀:=by induction x with|mk o vs he hc hd h1 h2 h3=>exact⟨o,vs,hk _ _ he,hc,hd,h1,h2,h3⟩
 refine Qv (wpAny_Expr (zb B b5 here₀ hns' t1 t2 t3 t4 m1 z6.1 λtk=>Cv hC (λa o q=>here₀ a o (hK a o q)) x₀ λh₁ w1 x₁=>?_) hint rfl);have here₁:∀a o,Z.base a=Md o->h₁.get? a=Md o:=λa o q=>w1 _ _ (λz=>by rw[z,hnew] at q;cases q) (here₀ a o q);have hns₁:h₁.Ns s.heap.objs.size m:=by refine ae hns' λoN z3=>?_;refine ae z3 λes z4=>?_;refine ae z4 λep z5=>?_;have z1:=z5.1;have z2:=z5.2;exact⟨oN,es,ep,w1 _ _ (Qj hes) z1,z2⟩
 exact Qv (plainObj_wpAny_Assign_Attribute (zi b5 hns₁ t3 z6.1 oa (zi b5 hns₁ t2 m1 ta (A8 hC (λa o q=>here₁ a o (hK a o q)) ha hn x₁ λh₂ tk v1 v2=>Qh (hq h₂ tk (λb ob hb hob=>v1 b ob hb (w1 b ob hb (hk b ob hob))) v2)))))
variable{Q:T8->Mn->Prop}
section
variable{M:RX}
variable{nm q:Np}{N:Ml}{bm:List Me}{sub:List Me}{k0 k1 k2 k3 k5:Option Me}{newId:String}
theorem nE{x:RW Me}(hbase:bm.contains (.type "BaseException")=Mj)(hh:A.handled=Mr)(h:My M A x (λv s₁=>bM λe oe=>v=.ref e/\s₁.heap.get? C=Md (Pg nm q C N bs bm hdct sn sub ab col dd k0 k1 k2 k3 k5 newId)/\ s₁.heap.get? e=Md oe/\oe.cls=.ref C/\(∃vs,oe.data=.fields vs/\vs[1]?=Md .none)/\E (.ref e) s₁) E s):My M A (raiseStmt env (Md x) Mr) Q E s:=by
 have hcB:(MK C::bm).contains (.type "BaseException")=true:=by rw[OK,hbase,Q3]
 unfold raiseStmt;refine Mg (NN h (λv s₁ h₁=>?_) λa a x=>x);refine bI h₁ λe oe z6=>?_;rw[z6.1];have hC:=z6.2.1;have he:=z6.2.2.1;have hc:=z6.2.2.2.1;refine ae z6.2.2.2.2.1 λvs z7=>?_;have hd:=z7.1;have hv:=z7.2;have hE:=z6.2.2.2.2.2;obtain⟨o1,o2,o3,o4⟩:=oe;dsimp only at hc hd;subst hc hd;obtain⟨hp,g,d,tk,os⟩:=s₁;repeat (first|with_reducible refine N9 he ?_|with_reducible refine N9 hC ?_|(with_reducible refine Qu hC ?_;rw[hcB])|wp_step)
 rw[hv];refine MC ?_;rw[if_neg (by decide)];exact MC (wpAny_raiseNew_none hh hE)
end
inductive cF(Z:Sys)(Kg:PQ)(C:Ml):Prop where
 |mk (lim:∀h:Oy,(∀a o,Z.base a=Md o->h.get? a=Md o)->h.NoLimit)
  (ok:nW λK P fI=>bG K Z.base/\vm K C P/\Ov K (.ref C) "__setattr__"=Md (Md (.builtin "object.__setattr__"))/\Ov K (.ref C) "reason"=Md Mr/\
  Ov K (.ref C) "__init__"=Md (Md (.ref fI))/\(K.lookup fI).any (λo=>o.cls==.type "function")=Mj/\xx Z Kg fI)
section
variable{X:CX}{W:Cn X}
inductive MadeX(W:Cn X)(J:Sg)(ρ:Loc)(C:Ml)(v:Me)(s:Mn):Prop
 |mk (s₁:Mn) (h':Oy) (tk:Nat) (e:Ml):v=.ref e->s={s₁ with heap:=h',toks:=tk}->W.St J ρ s₁->(∀b ob,s₁.heap.get? b=Md ob->h'.get? b=Md ob)->s₁.heap.get? e=Mr->Z7 C e h'->MadeX W J ρ C v s
theorem yA(F:cF W.Z X.K C)(x:W.St J ρ s):My (Mk W.Z.prog W.Z.w) W.A (OH (.ref C) [v]) (MadeX W J ρ C) E s:=by
 refine ga F.2 λK P fI z5=>?_;have hC:=z5.2.1;refine ae (Qx z5.2.2.2.2.2.1) λoI z4=>?_;have hfo:=z4.1;have hfc:=z4.2;have here:=x.here W.hb;obtain⟨hp,g,d,tk,os⟩:=s;have hX:∀h':Oy,(∀b o,hp.get? b=Md o->h'.get? b=Md o)->K.In h':=λh' k a o q=>k _ _ (here a o (z5.1 a o q));have zqi:_:=id hC;induction zqi with
 |mk nm q N bs sn sub ab col dd k0 k1 k2 k3 k5 hCl=>
 refine vn (wX P) (here _ _ (z5.1 _ _ hCl)) (λh' k=>PH (hX h' k) z5.2.2.2.2.1) (here _ _ (z5.1 _ _ hfo)) (beq_iff_eq.mp hfc) (λh' e hm=>?_) (by rw[NL];show 1<=_;exact Ms _ _);refine ae hm.there λt z3=>?_;have ht:=z3.1;have zqi:_:=id x;induction zqi with
 |mk gm m I hL hns hmm hg ho=>
 have hnew:W.Z.base e=none:=by
  cases q:W.Z.base e with
  |none=>rfl
  |some o=>have:=here _ _ q;rw[hm.new] at this;cases this
 refine su (s:=⟨h',g,d,tk,os⟩) W.B F.1 z5.1 z5.2.2.2.2.2.2 hC z5.2.2.1 z5.2.2.2.1 (I.keeps hm.keeps) W.hb (by show W.A.depth+1<O5;have:=W.hr.1;unfold O5;exact af 0x142c61000117082855011209c0f068df4088267c25 [] [_,_] this) hg ho ⟨_,_,ht,rfl,rfl,rfl,λc=>rfl,nofun⟩ hnew λh'' tk' w1 w2=>⟨rfl,?_⟩;exact⟨⟨hp,g,d,tk,os⟩,h'',tk',e,rfl,rfl,x,λb ob q=>w1 b ob (λz=>by rw[z,hm.new] at q;cases q) (hm.keeps b ob q),hm.new,w2⟩
theorem vh(F:cF W.Z X.K C)(x:W.St J ρ s){np kp cp:Qw}{c:Np}(hy:ax X y (.ref C)/\dn y)(hE:∀v s',MadeX W J ρ C v s'->E v s'):My (Mk W.Z.prog W.Z.w) W.A (P0 (.Raise (Md (.Call (.Name y np) [.Constant (.str c) kd kp] [] cp)) Mr pos) W.env) Q E s:=by
 refine ga F.2 λK P fI z2=>?_;have hC:=z2.2.1;induction hC with
 |mk nm q N bs sn sub ab col dd k0 k1 k2 k3 k5 hCl=>
 rw[arm_exec_Raise];refine Mg (QS (nE (C:=C) (nm:=nm) (q:=q) (N:=N) (bs:=bs) (bm:=.ref P::m4) (hdct:=Mj) (sn:=sn) (sub:=sub) (ab:=ab) (col:=col) (dd:=dd) (k0:=k0) (k1:=k1) (k2:=k2) (k3:=k3) (k5:=k5) (newId:="ValueError.__new__") rfl W.hr.2.2.1 ?_));refine Mg (NN (wpAny_Call_ofName (tW W.B W.hE (x.here W.hb) hy λu hu=>?_)) (λv s₃ h₃=>Mg (QS (MC h₃))) λd d x=>x);rw[aq hu];unfold QU;show My _ _ (Pn [MK C] (Vp (.ref C) Mj [(Mh,NW (.Constant (.str c) kd kp) W.env)] [])>>=_) _ _ _;refine Mg (Oz (evalArgs_plain (Vx (SK (spliced_nil ?_)))));refine Mg (QS (Mg (wpAny_keeperOf_exc ((x.here W.hb) _ _ (z2.1 _ _ hCl)) (Mg (NN (yA F (x.tk _)) (λv s' h=>?_) λd d z=>z)))));refine Mg (Oz (U7 (MC ?_)));have zqi:_:=id h;induction zqi with
 |mk s₁ h' tk e a b x₁ k nw ex=>
 subst a b;refine ga ex λo' vs' a0 z1=>?_;exact⟨e,o',rfl,k _ _ ((x₁.here W.hb) _ _ (z2.1 _ _ hCl)),z1.1,z1.2.1,⟨vs',z1.2.2.1,z1.2.2.2.1⟩,hE _ _ h⟩
end
theorem Inv.abi{frs:List Ml}(I:Inv Φ J g h)(hfr:∀a∈frs,Φ.fr a/\∃o,h.get? a=Md o/\∀vs,o.data≠.fields vs)(st:(V6 h frs).StaysIn h')(up:h.UpToSlots h'):Inv Φ J g h':=by
 refine I.tr (·∈frs) (λb q=>⟨rfl,rfl,Pm,rfl⟩) (λb o q e=>st b o (hideAll_get _ e q)) (λb d q e=>?_) (λb o q e=>?_) (λb f e=>I.2 b e) (λb c q e=>?_) λb q f=>?_;·rcases I.2 b (hfr b q).1 with z|z<;>rw[z] at e<;>cases e
 ·obtain z22:=I.1 b o e;refine ae z22.1 λsl z23=>?_;obtain z20:=hfr b q;refine ae z20.2 λo' z21=>?_;have f2:=z21.1;rw[z23.1] at f2;cases f2;refine ae (up b _ z23.1 z21.2) λsl' u=>?_;exact⟨⟨sl',u,λz=>absurd z20.1 z⟩,z22.2⟩
 ·have:=(I.3 b c e).1;rcases I.2 b (hfr b q).1 with z|z<;>rw[z] at this<;>cases this
 ·obtain z18:=hfr b q;refine ae z18.2 λo' z19=>?_;refine ae (up b _ z19.1 z19.2) λsl' u=>?_;exact⟨_,u⟩
noncomputable def ri(l:List VD):List Addr:=l.filterMap (·.frame)
theorem iw{h h':Oy}{frs:List Ml}(k:∀b o,h.get? b=Md o->h'.get? b=Md o):∀{l:List VD},(∀env∈l,env.scope.kind=.function/\∃L,env.frame=Md L/\L∈frs/\∃o,h.get? L=Md o/\∀vs,o.data≠.fields vs)-> h'.FunFrames (V6 h frs) l
 |[],_=>trivial
 |env::r,hl=>by obtain z15:=hl env (.head _);refine ae z15.2 λL z16=>?_;refine ae z16.2.2 λo z17=>?_;exact⟨by rw[z15.1];nofun,⟨L,o,z16.1,hideAll_none _ z16.2.1,k _ _ z17.1,z17.2⟩,iw k λx hx=>hl x (.tail _ hx)⟩
noncomputable def yb(Φ:bv)(J:Sg)(l:List VD)(C e:Ml)(h:Oy):Prop:=
 bM λB a0=>Heap.FlyingW B l e (.ref C) a0 h/\∀h',B.StaysIn h'->h.UpToSlots h'->∃g,Inv Φ J g h'
variable{l:List VD}
theorem uG{X:CX}{W:Cn X}(x:W.St J ρ s)(fl:Bq W.Φ (λa=>a=W.L) l):∀env∈l,env.scope.kind=.function/\∃L',env.frame=Md L'/\W.Φ.fr L'/\∃o,s.heap.get? L'=Md o/\∀vs,o.data≠.fields vs:=λenv he=>by
 obtain z13:=fl env he;refine ae z13.2 λL' z14=>?_;have d:=z14.2.2;induction x with
 |mk g m I hL hns hm _ _=>
 refine⟨z13.1,L',z14.1,z14.2.1,?_⟩;rcases d with rfl|⟨o,d1,d2⟩
 ·refine ae hns λoN z10=>?_;refine ae z10 λes z11=>?_;refine ae z11 λep z12=>?_;obtain⟨q1,q2,_⟩:=z12;exact⟨oN,q1,λvs z=>by rw[q2] at z;cases z⟩
 ·obtain z8:=I.1 L' o d1;refine ae z8.1 λsl z9=>?_;exact⟨_,z9.1,d2⟩
theorem rf{X:CX}{W:Cn X}(hA:W.A=A.deeper W.env)(hf:W.env.frame=Md W.L)(hΦ:W.Φ=Φ.with W.L)(h0:Φ.o W.L=Mr)(hl:A.frames=Md l)(h:MadeX W J ρ C v s){Q:Unit->Mn->Prop}(hQ:∀e s',v=.ref e->yb Φ J l C e s'.heap->s'.gens=#[]->s'.os=W.Z.os->Q () s'):My (Mk W.Z.prog W.Z.w) W.A (UP W.env v) Q E s:=by
 induction h with
 |mk s₁ h' tk e a b x k hnew he=>
 subst a b;refine ga he λo vs a0 z7=>?_;refine ae W.hr.2.2.2 λl' z6=>?_;have hl':=z6.1;have hll:l'=W.env::l:=by
  have:(A.deeper W.env).frames=Md (W.env::l):=by show A.frames.map _=_;rw[hl];rfl
  rw[hA,this] at hl';exact(MJ hl').symm
 subst hll;have fr:=uG x z6.2;have hfr:∀a∈ri (W.env::l),W.Φ.fr a/\∃o,s₁.heap.get? a=Md o/\∀vs,o.data≠.fields vs:=λa ha=>by refine ae (SR.mp ha) λenv' z5=>?_;obtain⟨he',q⟩:=z5;obtain z3:=fr env' he';refine ae z3.2 λL' z4=>?_;obtain rfl:L'=a:=MJ (z4.1.symm.trans q);exact⟨z4.2.1,z4.2.2⟩
 have FF:=iw (h':=h') k (l:=W.env::l) (frs:=ri (W.env::l)) λenv' he'=>by obtain z1:=fr env' he';refine ae z1.2 λL' z2=>?_;exact⟨z1.1,L',z2.1,SR.mpr ⟨env',he',z2.1⟩,z2.2.2⟩
 have hen:(V6 s₁.heap (ri (W.env::l))).get? e=none:=by
  cases q:(V6 s₁.heap (ri (W.env::l))).get? e with
  |none=>rfl
  |some o=>have:=of_hideAll _ q;rw[hnew] at this;cases this
 refine wpAny_leaving_firstW (a0:=a0) (base:=V6 s₁.heap (ri (W.env::l))) hl' FF hf z7.1 (λb o q=>k _ _ (of_hideAll _ q)) hen z7.2.2.1 z7.2.2.2.1 z7.2.2.2.2 λh'' hL=>hQ e _ rfl ?_ x.gens x.os;have k1:=hL.1;have k2:=hL.2.1.2.2;have k3:=hL.2.2.1;have k4:=hL.2.2.2;refine⟨_,a0,⟨k1,hen,k2,by rw[<-z7.2.1];exact k3⟩,λh3 st up=>?_⟩;induction x with
 |mk g m I _ _ _ _ _=>exact⟨g,Inv.leave h0 (hΦ▸I.abi hfr st ((Heap.UpToSlots.of_keeps k).trans (Heap.UpToSlots.trans k4 up)))⟩
noncomputable def e7:T:=.cst (.int 0 0)<|.ld JN<|.XK .le<|.ite (.ld JM<|.fld I9<|.cmp .lt<|.ite .rai .Wz)<|.pop<|.Wz
def Ca(X:CX)(C:Ml)(b:List OO)(c:T):Prop:=∀(W:Cn X)(_:cF W.Z X.K C)(ρ:Loc)(J:Sg)(s:Mn)(E:Me->Mn->Prop)(Q:Out->Sg->Prop),W.St J ρ s->W.ex c [] ρ J Q->
 (∀J' v s',MadeX W J' ρ C v s'->Q (.next ρ) J'->E v s')->Wc.Wj (Mk W.Z.prog W.Z.w) W.A (Qc b W.env) (λa a=>False) E s
theorem GD{X:CX}{t:MY}{c':Np}{c:T}{p1 p2 p4 p5:Qw}{rest:List OO}(hy:ax X y (.ref C)/\dn y)(ht:rj X t .Wz .rai c):Ca X C (.If t [.Raise (Md (.Call (.Name y p1) [.Constant (.str c') kd p2] [] p3)) Mr p4] [] p5::rest) c:=λW F ρ J s E Q x e hE=>
 Wc.WL (Wc.ZP (Wc.Wn (ht W ρ J s [] Q x e) (λb s' h=>by
  induction h with
  |t J' x' e'=>exact Wc.WL (Wc.of (vh F x' hy λv s' hm=>hE J' v s' hm e'))
  |f J' x' e'=>exact e'.elim) λa a z=>z.elim))
inductive CK(Z:Sys)(Kg:PQ)(C f:Ml)(ns:List Nat)(c:T):Prop where
 |mk (ok:∃K,bG K Z.base/\kQ K f ns []=Mj/\∀sc b,aM K f=Md (sc,b)->Ca ⟨Kg,sc⟩ C b c)
noncomputable def cw(Z:Sys)(n:Nat)(f:Ml)(args:List Me)(J:Sg)(C:Ml):Prop:=
 ∀(Φ:bv)(g:Ml->Own)(s:Mn)(A:O9)(vals:List Me)(l:List VD),Inv Φ J g s.heap->WJ Z Φ->o8 n A Φ->A.frames=Md l->s.gens=#[]->s.os=Z.os->vals.map er=args->
  Wc.Wx (Mk Z.prog Z.w) A (.call (.ref f) ⟨vals,[]⟩) (λr s'=>∃e,r=.error (.ref e)/\yb Φ J l C e s'.heap/\s'.gens=#[]/\s'.os=Z.os) s
theorem ky(B:aN Z Kg)(X:cF Z Kg C){c:T}(F:CK Z Kg C f ns c)(h1:args.length=ns.length)(hx:exec Z n c [] (ns.zip args) J (λa J'=>J'=J)):cw Z (n+1) f args J C:=λΦ g s A vals l I hb hr hl hg ho hv=>by refine ae F.1 λK z1=>?_;have En:=ent (A:=A) X.1 z1.1 z1.2.1 (Ot h1) (by simp;exact af 0x1084004ea1287d4130f [] [_,_] h1) I hb hg ho hv;rw[List.drop_nil,NG] at En;refine XO B hr En λsc body W s' hbi hZ hn hΦ hA hf h0 x=>?_;subst hZ hn;exact Wc.Wn (z1.2.2 sc body hbi W X _ J s' (λv s'=>MadeX W J (ns.zip args) C v s') (λa J'=>J'=J) x hx λJ' v s' h e=>e▸h) (λa a z=>z.elim) λv s' h=>Wc.of (rf hA hf hΦ h0 hl h λe s'' hv R q1 q2=>⟨e,by rw[hv],R,q1,q2⟩)
variable{hs:List U9}{h₀:U9}
namespace Wc
theorem m7{body orelse:RW T8}(h:Wj (Mk prog w) A body (λf s₁=>match f with|.next=>Wj (Mk prog w) A orelse Q E s₁|f=>Q f s₁) (λe s₁=>Wj (Mk prog w) A (Rd e env) (λd s₂=>Wj (Mk prog w) A (setFlight e Mr) (λd s₃=>Wj (Mk prog w) A (handleBy e env (h₀::hs)) Q E s₃) E s₂) E s₁) s):Wj (Mk prog w) A (tryStmt Mh body (h₀::hs) orelse [] env) Q E s:=by
 show Wj _ _ (body.attempt>>=_) _ _ _;refine Wi ?_;intro Γ p a b c;rw[Sem.wp_attempt];refine RD _ Γ _ (λf p' s₁ h₁=>?_) (λe p' s₁ h₁=>?_) p s (h Γ p a b c);·cases f<;>first|exact h₁|exact wpAny_pure h₁
 ·exact Wi (Wn h₁ (λd d h₂=>Wi h₂) λd d x=>x)
theorem Ze{orelse:List OO}(h:Wj (Mk prog w) A (Qc body env) (λf s₁=>match f with|.next=>Wj (Mk prog w) A (Qc orelse env) Q E s₁|f=>Q f s₁) (λe s₁=>Wj (Mk prog w) A (Rd e env) (λa s₂=>Wj (Mk prog w) A (setFlight e Mr) (λa s₃=>Wj (Mk prog w) A (handleBy e env (h₀::hs)) Q E s₃) E s₂) E s₁) s):Wj (Mk prog w) A (P0 (.Try body (h₀::hs) orelse [] pos) env) Q E s:=by rw[arm_exec_Try];exact Wi (Wq (m7 h))
end Wc
variable{b₀:OO}{suite:List OO}
section
variable{X:CX}{W:Cn X}
inductive eJ(W:Cn X)(J:Sg)(ρ:Loc)(l:List VD)(C:Ml)(v:Me)(s:Mn):Prop
 |mk (e:Ml) (B:Oy) (a0:Me):v=.ref e->Heap.FlyingW B l e (.ref C) a0 s.heap->(∀h' tk,B.StaysIn h'->s.heap.UpToSlots h'->W.St J ρ {s with heap:=h',toks:=tk})->eJ W J ρ l C v s
theorem qu{vals:List Me}(hr:oM n A W.Φ W.L)(x:W.St J ρ s)(h:cw W.Z n f (vals.map er) J C)(hl:A.frames=Md l){Q:Me->Mn->Prop}:Wc.Wj (Mk W.Z.prog W.Z.w) A (OH (.ref f) vals) Q (eJ W J ρ l C) s:=by
 have zqi:_:=x.aae W.hb hr;induction zqi with
 |mk Φ' g I hb' hr' back=>exact Wc.WO (Wc.WR (h _ _ s A vals l I hb' hr' hl x.gens x.os rfl) λr s' ⟨e,q,⟨B,a0,fl,cl⟩,hg,ho⟩=>by rw[q];exact⟨e,B,a0,rfl,fl,λh' tk st up=>(cl h' st up).elim λg' I2=>back J g' _ I2 hg ho⟩)
abbrev xd(X:CX)(y:Np)(c:Nat):Prop:=And (X.scope.names.lookup y=Md .local) (And (dn y) (enc y=c))
theorem own{id:Np}{c:Nat}(x:W.St J ρ s)(h:xd X id c)(hl:gf ρ c=Md v)(q:∀u,er u=v->Q' u s):Wc.Wj (Mk W.Z.prog W.Z.w) W.A (NW (.Name id pos) W.env) Q' E s:=by obtain rfl:=h.2.2;exact Wc.of (Vf (NN (Cn.ld x h.1 hl q) (λa a z=>z) λa a z=>z.elim) h.2.1)
theorem aa3(F:cF W.Z X.K C)(hfr:W.A.frames=Md (W.env::l))(hf:W.env.frame=Md W.L)(R:eJ W J ρ (W.env::l) C v s){rest:List U9}(hy:ax X y (.ref C)/\dn y)(h:∀s' (E':Me->Mn->Prop),W.St J ρ s'->My (Mk W.Z.prog W.Z.w) (W.A.mark (Md v)) (Qc (b₀::suite) W.env) Q E' s'):My (Mk W.Z.prog W.Z.w) W.A (Rd v W.env) (λa s₂=>My (Mk W.Z.prog W.Z.w) W.A (setFlight v Mr) (λa s₃=> My (Mk W.Z.prog W.Z.w) W.A (handleBy v W.env (.ExceptHandler (Md (.Name y p)) Mr (b₀::suite) pos::rest)) Q E s₃) E s₂) E s:=by
 induction R with
 |mk e B a0 ev fl cl=>
 subst ev;refine wpAny_looks_onW hfr hf fl λh₄ held₄ sm₄=>?_;refine wpAny_landsW held₄ λh₅ fl₅ sm₅=>?_;have here:=(cl h₅ s.toks fl₅.1 (sm₄.trans sm₅)).here W.hb;refine ga F.2 λK P fI z2=>?_;have hC:=z2.2.1;induction hC with
 |mk nm q N bs sn sub ab col dd k0 k1 k2 k3 k5 hCl=>
 refine ae fl₅.there λob z1=>?_;have hob:=z1.1;have hobc:=z1.2;refine wpAny_handleBy_cons (codeAny_handlers_test (tW W.B W.hE here hy λu hu=>?_)) (by nofun);rw[aq hu];refine wpAny_excMatches_sub_self (here _ _ (z2.1 _ _ hCl)) hob hobc rfl ?_;exact codeAny_handlers_suite (lands_againW fl₅ λh₆ fl₆ sm₆=>h _ _ (cl h₆ s.toks fl₆.1 ((sm₄.trans sm₅).trans sm₆)))
theorem ma(F:cF W.Z X.K C)(hfr:W.A.frames=Md (W.env::l))(hf:W.env.frame=Md W.L){p8:Qw}{t:OO}{r1:List OO}(hy:ax X y (.ref C)/\dn y)(h1:Wc.Wj (Mk W.Z.prog W.Z.w) W.A (P0 t W.env) (λa a=>False) (eJ W J ρ (W.env::l) C) s)(h:∀v s' (E':Me->Mn->Prop),W.St J ρ s'->My (Mk W.Z.prog W.Z.w) (W.A.mark (Md v)) (Qc (b₀::suite) W.env) Q E' s'):Wc.Wj (Mk W.Z.prog W.Z.w) W.A (P0 (.Try (t::r1) [.ExceptHandler (Md (.Name y p)) Mr (b₀::suite) pos] [] [] p8) W.env) Q E s:=
 Wc.Ze (Wc.WL (Wc.Wn h1 (λa a z=>z.elim) λv s' R=>Wc.Wn (Wc.of (aa3 F hfr hf R hy (h v))) (λa a h₂=>Wc.Wn (Wc.of h₂) (λa a h₃=>Wc.of h₃) λa a z=>z) λa a z=>z))
end
noncomputable def fV(v:Me)(x:Option (Option Me)):Bool:=x.any λy=>y.any (·==v)
variable{x:Option (Option Me)}
theorem AG(h:fV v x=Mj):x=Md (Md v):=by refine ae (Qx h) λy z=>?_;refine ae (Qx z.2) λu q=>?_;rw[z.1,q.1,beq_iff_eq.mp q.2]
noncomputable def fB(n:String):Option (Option Me)->Bool:=fV (.builtin n)
noncomputable def fN(x:Option (Option Me)):Bool:=x.any (·.isNone)
noncomputable def fR(n:Nat):Option (Option Me)->Bool:=fV (.ref n)
theorem E9{n:String}(h:fB n x=Mj):x=Md (Md (.builtin n)):=AG h
theorem DX(h:fN x=Mj):x=Md none:=by refine ae (Qx h) λy z=>?_;rw[z.1,Pa.mp z.2]
theorem AU(h:fR n x=Mj):x=Md (Md (.ref n)):=AG h
noncomputable def AE(K:PQ):Bool:=(K.lookup 361).any λo=>(Ai o).any λv=>o.slots.size==0&&v.1.toList.map er==([1,1,1,1]:List Int).map λi=>.int i 0
abbrev Pk:=List Nat->PQ
noncomputable def BF:Me->List Nat
 |.ref a=>[a]
 |_=>[]
noncomputable def iA(P:Pk)(f:Nat):Frag:=(((P [f]).head?.bind λp=>aaa p.2.data).map λfd=>P (f::(BF fd.code++BF fd.defaults))).getD []
noncomputable def HV(P:Pk)(n:Nat):List Nat:=match P [n] with
 |[(_,⟨_,_,.dict es _,_⟩)]=>es.toList.flatMap λe=>BF e.val
 |_=>[]
noncomputable def Fs(P:Pk)(C:Nat):List Nat:=match P [C] with
 |[(_,⟨_,_,.cls cd,_⟩)]=>C::cd.ns::HV P cd.ns
 |_=>[]
noncomputable def Hj(P:Pk)(C:Nat):Frag:=P (2::3::(Fs P C++(match P4 C 822 with|true=>Fs P 696|false=>[])))
noncomputable def Dm(P:Pk):Frag:=P (Fs P 100++Fs P 39)
noncomputable def t8(P:Pk):Frag:=P [2,3,581]
noncomputable def sB(X:CX)(y:Np)(v:Me):Bool:=(gl X y).any λu=>u.1==v
theorem oY{X:CX}(h:sB X y v=Mj):ax X y v/\dn y:=by
 unfold sB at h;cases q:gl X y with
 |none=>rw[q] at h;cases h
 |some u=>rw[q] at h;have e:u.1=v:=beq_iff_eq.mp h;exact e▸u.2
noncomputable def cU(P:Pk)(l:List (Nat×List Nat×List Me×T)):Bool:=l.all λx=>kQ (iA P x.1) x.1 x.2.1 x.2.2.1
noncomputable def Xc(P:Pk)(l:List (Nat×List Nat×List Me×T)):List (Option T):=l.map λx=>dq (t8 P) (iA P x.1) x.1
noncomputable def ZH(P:Pk):Bool:=Cp.all (λx=>wC (Hj P x.1) x.1)
noncomputable def BV(P:Pk)(x:O2×List OO):Option T:=match x.2 with
 |s::_=>(match s with
  |.If t _ _ _=>((Wc.cr 60).t ⟨t8 P,x.1⟩ t .Wz .rai).map UA
  |_=>Mr)
 |[]=>Mr
inductive FA:List OO->Prop
 |mk {p1 p2 p3 p4 p5 p6 p7 p8 p9 p10} (h:p2.endLine=p5.line):FA [.Expr (.Call (.Attribute (.Name "ValueError" p1) "__init__" p2) [.Name "self" p3,.Name "reason" p4] [] p5) p6,.Assign [.Attribute (.Name "self" p7) "reason" p8] (.Name "reason" p9) p10]
inductive AP:List OO->Prop
 |mk{t p1 c kd p2 p3 p4 p5 rest}:AP (.If t [.Raise (Md (.Call (.Name "BadArgument" p1) [.Constant (.str c) kd p2] [] p3)) Mr p4] [] p5::rest)
inductive Fw:List OO->Prop
 |mk{p1 p2 p3 p4 r1 p5 p6 p7 p8 p9 p10 p11 ci kd p12 p13 r2 p14 kd' p15 p16 p17 Dp} :
  Fw [.Try (.Expr (.Subscript (.Name "row" p1) (.Name "spot" p2) p3) p4::r1) [.ExceptHandler (Md (.Name "BadArgument" p5)) Mr [.Pass p6] p7] [] [] p8,
   .Try (.Assign [.Subscript (.Name "row" p9) (.Name "spot" p10) p11] (.Constant (.int ci) kd p12) p13::r2) [.ExceptHandler (Md (.Name "BadArgument" p14)) Mr [.Return (Md (.Constant (.bool Mj) kd' p15)) p16] p17] [] [] Dp]
inductive Ip(P:Pk):Prop where
 |mk (i:∀sc b,aM (iA P 36) 36=Md (sc,b)->FA b)
  (g:∀sc b,aM (iA P 149) 149=Md (sc,b)->AP b)
  (s:∀sc b,aM (iA P 156) 156=Md (sc,b)->AP b)
  (l:∀sc b,aM (iA P 1174) 1174=Md (sc,b)->Fw b)
abbrev aaT(P:Pk):Prop:=tE.all (λa=>keepIn (P [a]) (.ref a))=Mj/\((P [Ua]).lookup Ua).isSome=Mj/\
 Bp (Dm P) 100 39=Mj/\fB "object.__setattr__" (Ov (Dm P) (.ref 100) "__setattr__")=Mj/\fN (Ov (Dm P) (.ref 100) "reason")=Mj/\fR 36 (Ov (Dm P) (.ref 100) "__init__")=Mj/\
 ((Dm P).lookup 36).any (λo=>o.cls==.type "function")=Mj/\kQ (iA P 36) 36 [enc ("self":Np),enc ("reason":Np)] [.str "" 0]=Mj/\
 (aM (iA P 36) 36).all (λx=>sB ⟨t8 P,x.1⟩ "ValueError" (.type "ValueError")&&x.1.names.lookup ("self":Np)==Md .local&&x.1.names.lookup ("reason":Np)==Md .local)=Mj/\
 kQ (iA P 149) 149 [JM,JN] []=Mj/\kQ (iA P 156) 156 [JM,JN,JO] []=Mj/\
 kQ (iA P 1174) 1174 [Jr,JB] []=Mj/\(aM (iA P 1174) 1174).all (λx=>M3 (xd ⟨t8 P,x.1⟩ "row" Jr)&&M3 (xd ⟨t8 P,x.1⟩ "spot" JB))=Mj/\
 (aM (iA P 149) 149).all (λx=>sB ⟨t8 P,x.1⟩ "BadArgument" (.ref 100))=Mj/\(aM (iA P 156) 156).all (λx=>sB ⟨t8 P,x.1⟩ "BadArgument" (.ref 100))=Mj/\(aM (iA P 1174) 1174).all (λx=>sB ⟨t8 P,x.1⟩ "BadArgument" (.ref 100))=Mj/\
 te (iA P 1179) 1179 "row" [Kr,Kq,6709618]=Mj/\AE (P [361])=Mj/\fR 1189 (nsIn (t8 P) Nz "law")=Mj
noncomputable def Z5(P:Pk):Bool:=letI:∀{a b:Prop}[Decidable a][Decidable b],Decidable (An a b):=Ea;M3 (aaT P)
noncomputable def rT(P:Pk):Option T×Option T×Option T:=((aM (iA P 149) 149).bind (BV P),(aM (iA P 156) 156).bind (BV P),dq (t8 P) (iA P 1179) 1179)
inductive ZE(P:Pk):Prop where
 |mk (g1:cU P iW=Mj)
  (cd:Xc P iW=iW.map λx=>Md x.2.2.2)
  (g2:ZH P=Mj)
  (g3:aaT P)
  (c3:rT P=(Md e7,Md e7,Md bJ))
  (shp:Ip P)
noncomputable def A9:UX->RW Fin:=PySem.W.Fast.tw11892475500146522536 PySem.W.Fast.tw14364793385576792824
theorem yL:VK Pw=A9:=by unfold A9;rw[<-PySem.W.Fast.te11892475500146522536,<-PySem.W.Fast.te14364793385576792824]
noncomputable def fW(p:R9)(w:O7):P7->RU->Option (P7×RU):=PySem.W.Fast.tw10156331382660048174 A9 p w
noncomputable def vx(n₀:Nat)(ann:Option Me):RU->Bool:=PySem.W.Fast.tw6613529449190102663 n₀ ann
theorem vM(p:R9)(w:O7):stepT (VK Pw) p w=fW p w:=by unfold fW;rw[yL,<-PySem.W.Fast.te10156331382660048174]
theorem BX(n₀:Nat)(ann:Option Me):stepOk n₀ ann=vx n₀ ann:=by unfold vx;rw[<-PySem.W.Fast.te6613529449190102663]
noncomputable def aK(s:P7)(as:List Nat):Frag:=as.filterMap λa=>(bif VY a s.n then(s.tree.get a).bind alive else Mr).map (a,·)
variable{s:P7}
theorem wE(as:List Nat):Frag.In (aK s as) s.abs.heap:=λa o e=>by
 have m:∃p∈aK s as,p=(a,o):=by
  revert e;show(aK s as).lookup a=Md o->_;generalize aK s as=l;intro e;induction l with
  |nil=>cases e
  |cons p r ih=>
   rw[Ox] at e;cases h:a==p.1 with
   |true=>rw[h] at e;exact⟨p,MU,We (beq_iff_eq.mp h).symm (MJ e)⟩
   |false=>rw[h] at e;exact(ih e).elim λq z=>⟨q,MV _ z.1,z.2⟩
 refine m.elim λp z=>?_;refine(SR.mp z.1).elim λb y=>?_;refine(MQ.mp (y.2.trans (congrArg Md z.2))).elim λx q=>?_;have e1:=(VV q.2).1;have e2:=(VV q.2).2;subst e1 e2;have q:=q.1;cases h:VY b s.n with
 |false=>rw[h] at q;cases q
 |true=>rw[h] at q;refine(Mz.mp q).elim λo' r=>?_;exact(abs_get (MG h) r.1).trans r.2
noncomputable def jA(stp:P7->RU->Option (P7×RU))(ok:RU->Bool)(N:Nat):P7->RU->Option SharedT:=
 N.rec (λa a=>Mr) λa ih s t=>bif through t then Md s else bif ok t then(stp s t).bind λr=>ih r.1 r.2 else Mr
noncomputable def os0(w:O7)(os:O6):SharedT:=⟨([boot_o_0 w.params,boot_o_1 w.params,boot_o_2 w.params,boot_o_3 w.params,boot_o_4 w.params,boot_o_5 w.params,boot_o_6 w.params,boot_o_7 w.params,boot_o_8 w.params,boot_o_9 w.params,boot_o_10 w.params].zipIdx).foldl (λt p=>t.ins p.2 p.1) .nil,11,{},#[],Rt,So,os⟩
theorem As(w:O7)(os:O6):(os0 w os).abs=⟨OP w.params,#[],Rt,So,os⟩:=by with_unfolding_all rfl
variable{stp:P7->RU->Option (P7×RU)}{ok:RU->Bool}
theorem uf{t:RU}:jA stp ok 0 s t=none:=rfl
theorem uA{t:RU}:jA stp ok (n+1) s t=bif through t then Md s else bif ok t then(stp s t).bind λr=>jA stp ok n r.1 r.2 else none:=rfl
variable{ann:Option Me}
theorem uv{p:R9}{n₀:Nat}(N:Nat):∀(s:P7)(t:RU)(e:P7),jA (stepT (VK Pw) p w) (stepOk n₀ ann) N s t=Md e->topRun Pw p w n₀ ann N s.abs t=Md e.abs:=by
 induction N with
 |zero=>exact λs t e h=>cns (uf.symm.trans h)
 |succ n ih=>
  intro s t e h;show(match through t with|true=>Md s.abs|false=>match stepOk n₀ ann t with|false=>Mr|true=>match step (VK Pw) p w s.abs t with|.go s' t'=>topRun Pw p w n₀ ann n s' t'|.halt _ _=>Mr)=_;replace h:=uA.symm.trans h;cases ht:through t with
  |true=>rw[ht] at h;exact congrArg (λx=>Md x.abs) (MJ h)
  |false=>
   rw[ht] at h;cases hk:stepOk n₀ ann t with
   |false=>rw[hk] at h;cases h
   |true=>rw[hk] at h;refine(Mz.mp h).elim λr z=>?_;have q:_:=stepT_spec (s':=r.1) (t':=r.2) z.1;generalize step (VK Pw) p w s.abs t=st at q ⊢;subst q;exact ih _ _ _ z.2
variable{P:Pk}
section
open PySem.Challenge
noncomputable def ym(w:O7)(e:P7):Bool:=staticsOk A4 (OP w.params) e.abs.heap&&namesBound M7 e.abs.heap&&gensDone e.abs&&laidKept (OP w.params) e.abs.heap
noncomputable def aah(P:Pk):=(aM (iA P 36) 36,aM (iA P 149) 149,aM (iA P 156) 156,aM (iA P 1174) 1174)
theorem oE{l:List (Nat×List Nat×List Me×T)}(h1:cU P (l.take n)=Mj)(h2:cU P (l.drop n)=Mj):cU P l=true:=by unfold cU at*;rw[<-Up n l,List.all_append,h1,h2];rfl
theorem oo{l:List (Nat×List Nat×List Me×T)}(h1:Xc P (l.take n)=(l.take n).map λx=>Md x.2.2.2)(h2:Xc P (l.drop n)=(l.drop n).map λx=>Md x.2.2.2):Xc P l=l.map λx=>Md x.2.2.2:=by unfold Xc at*;rw[<-Up n l,Od,Od,h1,h2]
theorem Au{o:Option P7}{l:List (Nat×List Nat×List Me×T)}{g:P7->Bool}(h1:o.map (λe=>(cU (aK e) (l.take n)&&g e,Xc (aK e) (l.take n)))=Md (Mj,(l.take n).map λx=>Md x.2.2.2))(h2:o.map (λe=>(cU (aK e) (l.drop n),Xc (aK e) (l.drop n)))=Md (Mj,(l.drop n).map λx=>Md x.2.2.2)):o.map (λe=>(cU (aK e) l&&g e,Xc (aK e) l))=Md (Mj,l.map λx=>Md x.2.2.2):=by
 cases o with
 |none=>cases h1
 |some e=>have h1:=MJ h1;have h2:=MJ h2;have a:=MR.mp (congrArg RC h1);refine congrArg Md (We ?_ (oo (congrArg Vn h1) (congrArg Vn h2)));exact MR.mpr ⟨oE a.1 (congrArg RC h2),a.2⟩
end
section
open PySem.Challenge
noncomputable def Zj(l:List OO)(i:Nat):Option (O2×List OO):=match l[i]? with
 |some s=>(match s with
  |.FunctionDef _ _ b _ _ _ sc _ _ _=>Md (sc,b)
  |_=>Mr)
 |none=>Mr
noncomputable def oW(l:List OO)(i:Nat):List Stmt:=match l[i]? with
 |some s=>(match s with
  |.ClassDef _ _ _ b _ _ _ _ _ _ _=>b
  |_=>[])
 |none=>[]
noncomputable def Hm:Option (O2×List OO):=Zj (oW M7.main.body 2) 0
noncomputable def EW:Option (O2×List OO):=Zj (oW M7.main.body 22) 2
noncomputable def Eh:Option (O2×List OO):=Zj (oW M7.main.body 22) 3
noncomputable def AT:Option (O2×List OO):=Zj M7.main.body 84
theorem iY{o:Option (O2×List OO)}{x:O2×List OO}{p:List OO->Prop}(h:o=Md x)(q:p x.2):∀sc b,o=Md (sc,b)->p b:=λsc b e=>by rw[h] at e;cases e;exact q
theorem GR:∀sc b,Hm=Md (sc,b)->FA b:=iY rfl (.mk rfl)
theorem Ee:∀sc b,EW=Md (sc,b)->AP b:=iY rfl .mk
theorem DE:∀sc b,Eh=Md (sc,b)->AP b:=iY rfl .mk
theorem Bz:∀sc b,AT=Md (sc,b)->Fw b:=iY rfl .mk
theorem Bx(w:O7)(os:O6):((jA (fW M7 w) (vx 11 (Md (.ref 6))) 9000 (os0 w os) (RA M7)).map λe=>(ym w e,openSeen qP sG A4 (λa=>Mj) Mj e.abs,rT (aK e),aah (aK e)))=Md (Mj,openGood qP sG,(Md e7,Md e7,Md bJ),Hm,EW,Eh,AT):=by kernel_rfl
end
section
open PySem.Challenge
theorem zc(w:O7)(os:O6):((jA (fW M7 w) (vx 11 (Md (.ref 6))) 9000 (os0 w os) (RA M7)).map λe=>(cU (aK e) ((iW.take 60).take 28)&&ZH (aK e),Xc (aK e) ((iW.take 60).take 28)))=Md (Mj,((iW.take 60).take 28).map λx=>Md x.2.2.2):=by kernel_rfl
theorem yB(w:O7)(os:O6):((jA (fW M7 w) (vx 11 (Md (.ref 6))) 9000 (os0 w os) (RA M7)).map λe=>(cU (aK e) ((iW.take 60).drop 28),Xc (aK e) ((iW.take 60).drop 28)))=Md (Mj,((iW.take 60).drop 28).map λx=>Md x.2.2.2):=by kernel_rfl
theorem Cd(w:O7)(os:O6):((jA (fW M7 w) (vx 11 (Md (.ref 6))) 9000 (os0 w os) (RA M7)).map λe=>(cU (aK e) (iW.take 60)&&ZH (aK e),Xc (aK e) (iW.take 60)))=Md (Mj,(iW.take 60).map λx=>Md x.2.2.2):=Au (zc w os) (yB w os)
end
section
open PySem.Challenge
theorem yM(w:O7)(os:O6):((jA (fW M7 w) (vx 11 (Md (.ref 6))) 9000 (os0 w os) (RA M7)).map λe=>(cU (aK e) ((iW.drop 60).take 24)&&Z5 (aK e),Xc (aK e) ((iW.drop 60).take 24)))=Md (Mj,((iW.drop 60).take 24).map λx=>Md x.2.2.2):=by kernel_rfl
theorem zJ(w:O7)(os:O6):((jA (fW M7 w) (vx 11 (Md (.ref 6))) 9000 (os0 w os) (RA M7)).map λe=>(cU (aK e) ((iW.drop 60).drop 24),Xc (aK e) ((iW.drop 60).drop 24)))=Md (Mj,((iW.drop 60).drop 24).map λx=>Md x.2.2.2):=by kernel_rfl
theorem BZ(w:O7)(os:O6):((jA (fW M7 w) (vx 11 (Md (.ref 6))) 9000 (os0 w os) (RA M7)).map λe=>(cU (aK e) (iW.drop 60)&&Z5 (aK e),Xc (aK e) (iW.drop 60)))=Md (Mj,(iW.drop 60).map λx=>Md x.2.2.2):=Au (yM w os) (zJ w os)
end
inductive E6(X:CX)(C:Ml)(c1 c2:Nat):List OO->Prop
 |mk{a p1 b' p2 p3 p4 r1 y p5 p6 p7 p8 a' p9 b'' p10 p11 ci kd p12 p13 r2 y' p14 kd' p15 p16 p17 Dp}(h1:xd X a c1)(h2:xd X b' c2)(h3:xd X a' c1)(h4:xd X b'' c2)(h5:ax X y (.ref C)/\dn y)(h6:ax X y' (.ref C)/\dn y') :
  E6 X C c1 c2 [.Try (.Expr (.Subscript (.Name a p1) (.Name b' p2) p3) p4::r1) [.ExceptHandler (Md (.Name y p5)) Mr [.Pass p6] p7] [] [] p8,
   .Try (.Assign [.Subscript (.Name a' p9) (.Name b'' p10) p11] (.Constant (.int ci) kd p12) p13::r2) [.ExceptHandler (Md (.Name y' p14)) Mr [.Return (Md (.Constant (.bool Mj) kd' p15)) p16] p17] [] [] Dp]
inductive AO(Z:Sys)(Kg:PQ)(C f:Ml)(c1 c2:Nat):Prop where
 |mk (ok:∃K,bG K Z.base/\kQ K f [c1,c2] []=Mj/\∀sc b,aM K f=Md (sc,b)->E6 ⟨Kg,sc⟩ C c1 c2 b)
variable{i:Int}{lf:Loc}
section
variable{X:CX}{W:Cn X}{s:Mn}{D fg fs:Ml}{a b:Np}{c1 c2:Nat}{p1 p2 p4 p5:Qw}
theorem sE(hfr:W.A.frames=Md l)(x:W.St J ρ s)(ha:xd X a c1)(hb:xd X b c2)(g1:gf ρ c1=Md (.ref r))(g2:gf ρ c2=Md (.int i 0))(hσ:J r=Md (.Wv D lf))(hg:mt D (enc ("__getitem__":Np))=Md fg)(h1:cw W.Z W.n fg [.ref r,.int i 0] J C):Wc.Wj (Mk W.Z.prog W.Z.w) W.A (P0 (.Expr (.Subscript (.Name a p1) (.Name b p2) p3) p4) W.env) (λc c=>False) (eJ W J ρ l C) s:=by
 refine Wc.YB (Wc.Yb (own x ha g1 λu hu=>own x hb g2 λw hw=>?_)) (Wc.hint W) rfl;rw[aq hu];refine WN hw λtk=>?_;have zqi:_:=jq W.B W.hb x hσ hg "__getitem__" rfl (by decide);induction zqi with
 |mk K ox od hX I f1 f2 f3 _=>exact AZ hX I f1 f3 f2 (qu (vals:=[.ref r,.int i tk]) (A:=W.A.in1) (W.hr.Xn (Og ..) (Qs (by decide) _)) x h1 hfr) rfl
theorem sy{ci:Int}(hfr:W.A.frames=Md l)(x:W.St J ρ s)(ha:xd X a c1)(hb:xd X b c2)(g1:gf ρ c1=Md (.ref r))(g2:gf ρ c2=Md (.int i 0))(hσ:J r=Md (.Wv D lf))(hs:mt D (enc ("__setitem__":Np))=Md fs)(h2:∀v,cw W.Z W.n fs [.ref r,.int i 0,v] J C):Wc.Wj (Mk W.Z.prog W.Z.w) W.A (P0 (.Assign [.Subscript (.Name a p1) (.Name b p2) p3] (.Constant (.int ci) kd p4) p5) W.env) (λc c=>False) (eJ W J ρ l C) s:=by
 rw[exec_Assign_Subscript _ _ _ _ _ rfl];refine Wc.Wi (Wc.Wq (Wc.Wi (Wc.of (SJ ?_))));have x₂:=x.tk (s.toks+1);rw[assign_Subscript];refine Wc.Wi (Wc.Wi (Wc.Wo (own x₂ ha g1 λu hu=>Wc.Wi (Wc.Wo (own x₂ hb g2 λw hw=>?_)))));rw[aq hu];refine WN hw λtk=>?_;have zqi:_:=jq W.B W.hb x₂ hσ hs "__setitem__" rfl (by decide);induction zqi with
 |mk K ox od hX I f1 f2 _ f4=>exact Wc.Wi (Wc.Wq (Wc.Wi (Wc.Wo (A6 hX I f4 f1 f2 (qu (vals:=[.ref r,.int i tk,_]) W.hr.room x₂ (h2 _) hfr)))))
end
variable{Q:Me->Sg->Prop}
theorem aaV(B:aN Z Kg){D fg fs:Ml}(X:cF Z Kg C){c1 c2:Nat}(hc:c1≠c2)(F:AO Z Kg C f c1 c2)(hσ:J r=Md (.Wv D lf))(hg:mt D (enc ("__getitem__":Np))=Md fg)(hs:mt D (enc ("__setitem__":Np))=Md fs)(h1:cw Z n fg [.ref r,.int i 0] J C)(h2:∀v,cw Z n fs [.ref r,.int i 0,v] J C)(hQ:Q (.bool Mj) J):ac Z (n+1) (.ref f) [.ref r,.int i 0] J Q:=λΦ g s A vals I hb hr hgen ho hv=>by
 refine ae (id hr.2.2.2) λl z2=>?_;refine ae F.1 λK z1=>?_;have F2:=z1.2.2;have En:=ent (A:=A) (args:=[.ref r,.int i 0]) X.1 z1.1 z1.2.1 (MD 2) (by simp) I hb hgen ho hv;generalize hρ:[c1,c2].zip _=ρ at En;have g1:gf ρ c1=Md (.ref r):=hρ▸if_pos rfl;have g2:gf ρ c2=Md (.int i 0):=hρ▸(if_neg hc).trans (if_pos rfl);refine XO B hr En λsc body W s' hbi hZ hn hΦ hA hf h0 x=>?_;have hfr:W.A.frames=Md (W.env::l):=by rw[hA];show A.frames.map _=_;rw[z2.1];rfl
 subst hZ hn;have zqi:_:=F2 sc body hbi;induction zqi with
 |mk t1 t2 t3 t4 t5 t6=>
 refine Wc.WL (ma X hfr hf t5 (sE hfr x t1 t2 g1 g2 hσ hg h1) λv s₁ E' x₁=>Qv (wpAny_Pass (Qh ?_)));refine Wc.WL (ma X hfr hf t6 (sy hfr x₁ t3 t4 g1 g2 hσ hs h2) λv s₃ E' x₃=>Qv (wpAny_Return_some (wpAny_Constant_bool ?_)));induction x₃ with
 |mk g' m I' hL hns hm hg' ho'=>exact⟨.bool Mj,_,g',rfl,Inv.leave h0 (hΦ▸I'),hg',ho',hQ⟩
variable{f:Me}
theorem ac.k01(h:ac Z n f args J λr s=>r=v/\J=s)(q:Q v J):ac Z n f args J Q:=
 h.Wr (MD _) (by rintro _ _ ⟨rfl,rfl⟩;exact q)
theorem ac.kst{t:Type}{v:t->Me}{a:t->Prop}{τ:t->Sg}(h:ac Z n f args J λr s=>∃x,a x/\r=v x/\s=τ x)(q:∀x,a x->Q (v x) (τ x)):ac Z n f args J Q:=
 h.Wr (MD _) (by rintro _ _ ⟨x,h,rfl,rfl⟩;exact q x h)
variable{a0:Sg->Prop}
theorem ac.Ws(h:ac Z n f args J λr s=>r=v/\a0 s)(q:∀s,a0 s->Q v s):ac Z n f args J Q:=
 h.Wr (MD _) (by rintro _ s ⟨rfl,h0⟩;exact q s h0)
theorem ac.XS{a1:Sg->Prop}(h:ac Z n f args J λr s=>r=v/\a0 s/\a1 s)(q:∀s,a0 s->a1 s->Q v s):ac Z n f args J Q:=
 h.Wr (MD _) (by rintro _ s ⟨rfl,h0,h1⟩;exact q s h0 h1)
theorem ac.aas{a1 a2:Sg->Prop}(h:ac Z n f args J λr s=>r=v/\a0 s/\a1 s/\a2 s)(q:∀s,a0 s->a1 s->a2 s->Q v s):ac Z n f args J Q:=
 h.Wr (MD _) (by rintro _ s ⟨rfl,h0,h1,h2⟩;exact q s h0 h1 h2)
theorem ac.aaz{v:t0->Me}{a0 a1:t0->Sg->Prop}(h:ac Z n f args J λr s=>∃x0,r=v x0/\a0 x0 s/\a1 x0 s)(q:∀s x0,a0 x0 s->a1 x0 s->Q (v x0) s):ac Z n f args J Q:=
 h.Wr (MD _) (by rintro _ s ⟨x0,rfl,h0,h1⟩;exact q s x0 h0 h1)
theorem ac.Yc{v:t0->Me}{a0 a1 a2:t0->Sg->Prop}(h:ac Z n f args J λr s=>∃x0,r=v x0/\a0 x0 s/\a1 x0 s/\a2 x0 s)(q:∀s x0,a0 x0 s->a1 x0 s->a2 x0 s->Q (v x0) s):ac Z n f args J Q:=
 h.Wr (MD _) (by rintro _ s ⟨x0,rfl,h0,h1,h2⟩;exact q s x0 h0 h1 h2)
theorem ac.X3{v:t0->Me}{a0 a1 a2 a3:t0->Sg->Prop}(h:ac Z n f args J λr s=>∃x0,r=v x0/\a0 x0 s/\a1 x0 s/\a2 x0 s/\a3 x0 s)(q:∀s x0,a0 x0 s->a1 x0 s->a2 x0 s->a3 x0 s->Q (v x0) s):ac Z n f args J Q:=
 h.Wr (MD _) (by rintro _ s ⟨x0,rfl,h0,h1,h2,h3⟩;exact q s x0 h0 h1 h2 h3)
theorem ac.Z4{v:t0->t1->Me}{a0:t0->t1->Sg->Prop}(h:ac Z n f args J λr s=>bM λx0 x1=>r=v x0 x1/\a0 x0 x1 s)(q:∀s x0 x1,a0 x0 x1 s->Q (v x0 x1) s):ac Z n f args J Q:=
 h.Wr (MD _) (by rintro _ s ⟨x0,x1,rfl,h0⟩;exact q s x0 x1 h0)
theorem ac.aau{v:t0->t1->Me}{a0 a1:t0->t1->Sg->Prop}(h:ac Z n f args J λr s=>bM λx0 x1=>r=v x0 x1/\a0 x0 x1 s/\a1 x0 x1 s)(q:∀s x0 x1,a0 x0 x1 s->a1 x0 x1 s->Q (v x0 x1) s):ac Z n f args J Q:=
 h.Wr (MD _) (by rintro _ s ⟨x0,x1,rfl,h0,h1⟩;exact q s x0 x1 h0 h1)
theorem ac.aab{v:t0->t1->Me}{a0 a1 a2 a3:t0->t1->Sg->Prop}(h:ac Z n f args J λr s=>bM λx0 x1=>r=v x0 x1/\a0 x0 x1 s/\a1 x0 x1 s/\a2 x0 x1 s/\a3 x0 x1 s)(q:∀s x0 x1,a0 x0 x1 s->a1 x0 x1 s->a2 x0 x1 s->a3 x0 x1 s->Q (v x0 x1) s):ac Z n f args J Q:=
 h.Wr (MD _) (by rintro _ s ⟨x0,x1,rfl,h0,h1,h2,h3⟩;exact q s x0 x1 h0 h1 h2 h3)
theorem ac.abc{t2:Type}{v:t0->t1->t2->Me}{a0 a1 a2 a3 a4 a5:t0->t1->t2->Sg->Prop}(h:ac Z n f args J λr s=>nW λx0 x1 x2=>r=v x0 x1 x2/\a0 x0 x1 x2 s/\a1 x0 x1 x2 s/\a2 x0 x1 x2 s/\a3 x0 x1 x2 s/\a4 x0 x1 x2 s/\a5 x0 x1 x2 s)(q:∀s x0 x1 x2,a0 x0 x1 x2 s->a1 x0 x1 x2 s->a2 x0 x1 x2 s->a3 x0 x1 x2 s->a4 x0 x1 x2 s->a5 x0 x1 x2 s->Q (v x0 x1 x2) s):ac Z n f args J Q:=
 h.Wr (MD _) (by rintro _ s ⟨x0,x1,x2,rfl,h0,h1,h2,h3,h4,h5⟩;exact q s x0 x1 x2 h0 h1 h2 h3 h4 h5)
theorem mv(a:Int)(h:0<b):a.fdiv b=a/b:=Int.fdiv_eq_ediv_of_nonneg a (Nm h)
noncomputable def D6:Cell->Nat->Option Me
 |.Wv _ fs,k=>gf fs k
 |_,_=>Mr
noncomputable def H4:Cell->Nat->Option Nat
 |.Wv C fs,k=>match gf fs k with
  |none=>mt C k
  |some _=>Mr
 |_,_=>Mr
noncomputable def AQ:Cell->Nat->Bool
 |.Wv C fs,k=>(gf fs k).isSome||(Ay C k&&M3 (fs.length<=100))
 |_,_=>Mh
noncomputable def X4(d:Cell)(k:Nat)(v:Me):Cell:=match d with
 |.Wv C fs=>.Wv C (sf fs k v)
 |d=>d
noncomputable def sJ(ρ E:Loc):Prop:=∀c v,gf E c=Md v->gf ρ c=Md v
inductive Fr where
 |bk(st:List Me)(k:T)
 |sq(st:List Me)(k:T)
noncomputable def wr(Z:Sys)(n:Nat)(Q:Out->Sg->Prop):List Fr->Out->Sg->Prop
 |[]=>Q
 |.sq st k::K=>CU (λρ J=>exec Z n k st ρ J (wr Z n Q K)) (wr Z n Q K)
 |.bk st k::K=>Ft λv ρ J=>exec Z n k (v::st) ρ J (wr Z n Q K)
noncomputable def X(Z:Sys)(n:Nat)(Q:Out->Sg->Prop)(K:List Fr)(J:Sg)(E:Loc)(st:List Me)(e:T):Prop:=∀ρ,sJ ρ E->exec Z n e st ρ J (wr Z n Q K)
theorem p1.Wr{F G:Me->List Me->Prop}(h:∀v st,F v st->G v st):∀{st:List Me},p1 F st->p1 G st
 |_::_,q=>h _ _ q
theorem bB.Wr{F G:Int->Prop}(h:∀i,F i->G i)(q:bB F v):bB G v:=by cases v<;>first|exact h _ q|exact q
theorem bB.ex{F:Int->Prop}(q:bB F v):bM λa t=>v=.int a t/\F a:=by cases v<;>first|exact⟨_,_,rfl,q⟩|exact q.elim
theorem dT.Wr{F G:Bool->Prop}(h:∀i,F i->G i)(q:dT F v):dT G v:=by cases v<;>first|exact h _ q|exact q
noncomputable def kn(c:Nat)(v:Me):Loc->(Loc->Prop)->Prop
 |[],κ=>κ [(c,v)]
 |(j,u)::r,κ=>match P4 j c with
  |true=>κ ((j,v)::r)
  |false=>kn c v r λr'=>κ ((j,u)::r')
noncomputable def kg(c:Nat):Loc->(Me->Prop)->Prop
 |[],_=>False
 |(j,v)::r,κ=>match P4 j c with
  |true=>κ v
  |false=>kg c r κ
theorem AM(c:Nat)(v:Me):∀(E:Loc)(κ:Loc->Prop),kn c v E κ->κ (sf E c v)
 |[],κ,h=>h
 |(j,u)::r,κ,h=>by
  change (match P4 j c with|true=>κ ((j,v)::r)|false=>kn c v r λr'=>κ ((j,u)::r')) at h;show κ (if j=c then(j,v)::r else(j,u)::sf r c v);cases q:P4 j c with
  |true=>rw[q] at h;rw[if_pos (Q6 q)];exact h
  |false=>rw[q] at h;rw[if_neg (PD q)];exact AM c v r _ h
theorem AB(c:Nat):∀(E:Loc)(κ:Me->Prop),kg c E κ->∃v,gf E c=Md v/\κ v
 |[],_,h=>h.elim
 |(j,u)::r,κ,h=>by
  change (match P4 j c with|true=>κ u|false=>kg c r κ) at h;show ∃w,(if j=c then Md u else gf r c)=Md w/\κ w;cases q:P4 j c with
  |true=>rw[q] at h;rw[if_pos (Q6 q)];exact⟨u,rfl,h⟩
  |false=>rw[q] at h;rw[if_neg (PD q)];exact AB c r κ h
variable{E:Loc}
theorem sJ.set(h:sJ ρ E)(c:Nat)(v:Me):sJ (sf ρ c v) (sf E c v):=λd u e=>by
 rw[ju] at e ⊢;split;·rename_i q;rw[if_pos q] at e;exact e
 ·rename_i q;rw[if_neg q] at e;exact h d u e
noncomputable def FD:Me->(Bool->Prop)->Prop
 |.none,κ=>κ Mj
 |.int _ _,κ=>κ Mh
 |.ref _,κ=>κ Mh
 |.bool _,κ=>κ Mh
 |.bytes _ _,κ=>κ Mh
 |.str _ _,κ=>κ Mh
 |_,_=>False
noncomputable def FT(ng:Bool)(b:Bool)(κ:Bool->Prop):Prop:=match ng,b with
 |false,b=>κ b
 |true,Mj=>κ Mh
 |true,Mh=>κ Mj
variable{κ:Bool->Prop}
theorem FD.eq(h:FD v κ):κ (v==.none):=by cases v<;>first|exact h|exact h.elim
theorem FT.eq:∀{ng b:Bool},FT ng b κ->κ (if ng then !b else b)
 |false,_,h=>h
 |true,Mj,h=>h
 |true,Mh,h=>h
section
variable(Z:Sys)(n:Nat)(Q:Out->Sg->Prop)(J:Sg)
noncomputable def yF(b:Bool)(K:List Fr)(E:Loc)(st:List Me)(e:T):Prop:=match b with
 |true=>X Z n Q K J E st e
 |false=>False
noncomputable def i2(F:Int->Int->List Me->Prop)(st:List Me):Prop:=p1 (λw=>p1 λv st=>bB (λj=>bB (λi=>F i j st) v) w) st
noncomputable def ff(w:Bool):Nat->Bool->List Fr->Loc->List Me->T->Prop
 |0,b,K,E,st,e=>yF Z n Q J b K E st e
 |f+1,b,K,E,st,e=>match e with
  |.cst v k=>ff w f Mj K E (v::st) k
  |.ld c k=>kg c E λv=>ff w f Mj K E (v::st) k
  |.st c k=>p1 (λv st=>kn c v E λE=>ff w f Mj K E st k) st
  |.pop k=>p1 (λa st=>ff w f Mj K E st k) st
  |.dup k=>p1 (λv st=>ff w f Mj K E (v::v::st) k) st
  |.W8 k=>p1 (λu=>p1 λv st=>ff w f Mj K E (v::u::st) k) st
  |.bin .add k=>i2 (λi j st=>ff w f Mj K E (.int (i+j) 0::st) k) st
  |.bin .sub k=>i2 (λi j st=>ff w f Mj K E (.int (i-j) 0::st) k) st
  |.bin .Zc k=>i2 (λi j st=>ff w f Mj K E (.int (OB i j) 0::st) k) st
  |.bin .bor k=>i2 (λi j st=>ff w f Mj K E (.int (Oc i j) 0::st) k) st
  |.iop .add k=>i2 (λi j st=>ff w f Mj K E (.int (i+j) 0::st) k) st
  |.iop .sub k=>i2 (λi j st=>ff w f Mj K E (.int (i-j) 0::st) k) st
  |.iop .bor k=>i2 (λi j st=>ff w f Mj K E (.int (Oc i j) 0::st) k) st
  |.YT k=>i2 (λi j st=>ff w f Mj K E (.int (if j<i then j else i) 0::st) k) st
  |.neg k=>p1 (λv st=>bB (λi=>ff w f Mj K E (.int (-i) 0::st) k) v) st
  |.abs k=>p1 (λv st=>bB (λi=>ff w f Mj K E (.int (i.natAbs:Int) 0::st) k) v) st
  |.Xr k=>p1 (λv st=>dT (λc=>ff w f Mj K E (.int (if c then 1 else 0) 0::st) k) v) st
  |.isn ng k=>p1 (λv st=>FD v λc=>FT ng c λc=>ff w f Mj K E (.bool c::st) k) st
  |.ite k l=>match w with
   |true=>p1 (λv st=>dT (λc=>match c with
    |true=>ff Mj f Mj K E st k
    |false=>ff Mj f Mj K E st l) v) st
   |false=>yF Z n Q J b K E st (.ite k l)
  |.blk e k=>ff w f Mj (.bk st k::K) E [] e
  |.seq e k=>ff w f Mj (.sq st k::K) E [] e
  |.Wz=>match K with
   |.sq st k::K=>ff w f Mj K E st k
   |K=>yF Z n Q J b K E st .Wz
  |.yld=>match K with
   |.bk st' k::K=>p1 (λv a=>ff w f Mj K E (v::st') k) st
   |K=>yF Z n Q J b K E st .yld
  |.ret=>match K with
   |.sq _ _::K=>ff w f Mj K E st .ret
   |K=>yF Z n Q J b K E st .ret
  |.brk=>match K with
   |.sq _ _::K=>ff w f Mj K E st .brk
   |K=>yF Z n Q J b K E st .brk
  |.WZ=>match K with
   |.sq _ _::K=>ff w f Mj K E st .WZ
   |K=>yF Z n Q J b K E st .WZ
  |e=>yF Z n Q J b K E st e
end
variable{o:Op}{K:List Fr}
section
variable{Q:Out->Sg->Prop}{st:List Me}{k:T}
theorem du:∀{b:Bool},yF Z n Q J b K E st k->X Z n Q K J E st k
 |true,h=>h
theorem FC{F:Int->Int->Int}(ho:∀i j,u3 o i j/\opV o i j=F i j)(h:i2 (λi j st=>X Z n Q K J E (.int (F i j) 0::st) k) st):X Z n Q K J E st (.bin o k):=λρ hr=>p1.Wr (λw a=>p1.Wr λv a q=>by refine bI (bB.ex q) λj u z=>?_;refine bI (bB.ex z.2) λi t y=>?_;rw[z.1,y.1];exact .int (ho _ _).1 ((ho _ _).2▸y.2 ρ hr)) h
theorem Hf{F:Int->Int->Int}(hp:Bi o=Mj)(ho:∀i j,u3 o i j/\opV o i j=F i j)(h:i2 (λi j st=>X Z n Q K J E (.int (F i j) 0::st) k) st):X Z n Q K J E st (.iop o k):=λρ hr=>p1.Wr (λw a=>p1.Wr λv a=>bB.Wr λj=>bB.Wr λi q=>An.intro (ho _ _).1 ⟨hp,(ho _ _).2▸q ρ hr⟩) h
theorem i2.Wr{F G:Int->Int->List Me->Prop}(h:∀i j st,F i j st->G i j st)(q:i2 F st):i2 G st:=p1.Wr (λa a=>p1.Wr λa a=>bB.Wr λa=>bB.Wr λa=>h _ _ _) q
theorem mL{w:Bool}:∀(f:Nat)(b:Bool)(K:List Fr)(E:Loc)(st:List Me)(e:T),ff Z n Q J w f b K E st e->X Z n Q K J E st e
 |0,_,_,_,_,_,h=>du h
 |f+1,b,K,E,st,e,h=>by
  have ih:=λ{K E st e}=>mL (w:=w) f Mj K E st e;induction e with
  |cst v k=>exact λρ hr=>ih h ρ hr
  |ld c k=>refine λρ hr=>?_;refine ae (AB _ _ _ h) λv z17=>?_;exact⟨v,hr _ _ z17.1,ih z17.2 ρ hr⟩
  |st c k=>exact λρ hr=>p1.Wr (λv st q=>ih (AM _ _ _ _ q) _ (hr.set c v)) h
  |pop k=>exact λρ hr=>p1.Wr (λv st q=>ih q ρ hr) h
  |dup k=>exact λρ hr=>p1.Wr (λv st q=>ih q ρ hr) h
  |W8 k=>exact λρ hr=>p1.Wr (λv st=>p1.Wr λv st q=>ih q ρ hr) h
  |bin o k=>
   induction o with
   |add=>exact FC (λa a=>An.intro trivial rfl) (i2.Wr (λa a a q=>ih q) h)
   |sub=>exact FC (λa a=>An.intro trivial rfl) (i2.Wr (λa a a q=>ih q) h)
   |Zc=>exact FC (λa a=>An.intro trivial rfl) (i2.Wr (λa a a q=>ih q) h)
   |bor=>exact FC (λa a=>An.intro trivial rfl) (i2.Wr (λa a a q=>ih q) h)
   |_=>exact du h
  |iop o k=>
   induction o with
   |add=>exact Hf rfl (λa a=>An.intro trivial rfl) (i2.Wr (λa a a q=>ih q) h)
   |sub=>exact Hf rfl (λa a=>An.intro trivial rfl) (i2.Wr (λa a a q=>ih q) h)
   |bor=>exact Hf rfl (λa a=>An.intro trivial rfl) (i2.Wr (λa a a q=>ih q) h)
   |_=>exact du h
  |YT k=>exact λρ hr=>i2.Wr (λa a a q=>ih q ρ hr) h
  |neg k=>exact λρ hr=>p1.Wr (λv st=>bB.Wr λi q=>ih q ρ hr) h
  |abs k=>exact λρ hr=>p1.Wr (λv st=>bB.Wr λi q=>ih q ρ hr) h
  |Xr k=>exact λρ hr=>p1.Wr (λv st=>dT.Wr λi q=>ih q ρ hr) h
  |isn ng k=>exact λρ hr=>p1.Wr (λv st q=>ih (FT.eq (FD.eq q)) ρ hr) h
  |ite k l=>
   induction w with
   |false=>exact du h
   |true=>exact λρ hr=>p1.Wr (λv st=>dT.Wr λc q=>by
     induction c with
     |true=>exact⟨λa=>ih q ρ hr,nofun⟩
     |false=>exact⟨nofun,λa=>ih q ρ hr⟩) h
  |blk e k=>exact λρ hr=>ih (K:=.bk st k::K) (e:=e) h ρ hr
  |seq e k=>exact λρ hr=>ih (K:=.sq st k::K) (e:=e) h ρ hr
  |Wz=>
   match K,h with
   |.sq st k::K,h=>exact λρ hr=>ih h ρ hr
   |[],h=>exact du h
   |.bk _ _::_,h=>exact du h
  |yld=>
   match K,h with
   |.bk st' k::K,h=>exact λρ hr=>p1.Wr (λv a q=>ih q ρ hr) h
   |[],h=>exact du h
   |.sq _ _::_,h=>exact du h
  |ret=>
   match K,h with
   |.sq st' k::K,h=>exact λρ hr=>p1.Wr (λv a q=>q) (ih h ρ hr)
   |[],h=>exact du h
   |.bk _ _::_,h=>exact du h
  |brk=>
   match K,h with
   |.sq st' k::K,h=>exact λρ hr=>ih h ρ hr
   |[],h=>exact du h
   |.bk _ _::_,h=>exact du h
  |WZ=>
   match K,h with
   |.sq st' k::K,h=>exact λρ hr=>ih h ρ hr
   |[],h=>exact du h
   |.bk _ _::_,h=>exact du h
  |_=>exact du h
end
noncomputable def Wk(E E':Loc):Prop:=E'.map (λp=>gf E p.1)=E'.map λp=>Md p.2
theorem Wk.to{E':Loc}(h:Wk E E'):sJ E E':=by
 induction E' with
 |nil=>exact λa a e=>(Option.some_ne_none _ e.symm).elim
 |cons p r ih=>
  intro c u e;have h:=Wh h;have e:(if p.1=c then Md p.2 else gf r c)=Md u:=e;by_cases q:p.1=c;·rw[if_pos q] at e;rw[<-q,<-MJ e];exact h.1
  ·rw[if_neg q] at e;exact ih h.2 c u e
theorem Wk.up{E':Loc}(h:Wk E E')(r:sJ ρ E):sJ ρ E':=λc v e=>r c v (h.to c v e)
noncomputable def tk:Nat->List Me->List Me->(List Me->List Me->Prop)->Prop
 |0,st,acc,κ=>κ acc st
 |_+1,[],_,_=>False
 |m+1,v::st,acc,κ=>tk m st (v::acc) κ
theorem AK:∀{m:Nat}{st acc:List Me}{κ:List Me->List Me->Prop},tk m st acc κ->m<=st.length/\κ ((st.take m).reverse++acc) (st.drop m)
 |0,st,acc,κ,h=>⟨Nc _,h⟩
 |m+1,v::st,acc,κ,h=>by obtain z16:=AK (m:=m) (st:=st) h;refine⟨Rh z16.1,?_⟩;rw[R8,P5,NJ];exact z16.2
theorem ro{m:Nat}{st:List Me}{κ:List Me->List Me->Prop}(h:tk m st [] κ):bM λvs st'=>take? m st=Md (vs,st')/\κ vs st':=by obtain z15:=AK h;have h2:=z15.2;rw[NG] at h2;exact⟨_,_,if_pos z15.1,h2⟩
variable{d:Cell}{P:Me->Sg->Prop}{w:Me}{vs st':List Me}{f t':Nat}{bs:List UInt8}{ng:Bool}
section
variable{Q:Out->Sg->Prop}{st:List Me}{k A B:T}{c C m:Nat}{b x:Ml}
noncomputable def XN(Q:Out->Sg->Prop)(J:Sg)(E:Loc):Prop:=∀ρ,sJ ρ E->Q (.next ρ) J
noncomputable def XB(Q:Out->Sg->Prop)(J:Sg)(E:Loc):Prop:=∀ρ,sJ ρ E->Q (.brk ρ) J
noncomputable def XC(Q:Out->Sg->Prop)(J:Sg)(E:Loc):Prop:=∀ρ,sJ ρ E->Q (.WZ ρ) J
noncomputable def XV(Q:Out->Sg->Prop)(J:Sg)(E:Loc)(v:Me):Prop:=∀ρ,sJ ρ E->Q (.val v ρ) J
theorem Iz(w:Bool)(q:ff Z n Q J w 99 Mh K E st k):X Z n Q K J E st k:=mL _ _ _ _ _ _ q
theorem HC(q:wr Z n Q K (.ret v) J):X Z n Q K J E (v::st) .ret:=λa a=>q
theorem fu(q:XN Q J E):X Z n Q [] J E st .Wz:=q
theorem C7(q:XC Q J E):X Z n Q [] J E st .WZ:=q
theorem Hz(q:XV Q J E v):X Z n Q [] J E (v::st) .yld:=q
theorem aA(q:X Z n Q K J E (v::st) k):X Z n Q K J E st (.cst v k):=q
theorem tM(q:X Z n Q K J E st k):X Z n Q K J E (v::st) (.pop k):=q
theorem jP(q:X Z n Q K J E (v::st) k)(h:gf E c=Md v):X Z n Q K J E st (.ld c k):=λρ hr=>⟨_,hr _ _ h,q ρ hr⟩
theorem eG(q:X Z n Q K J (sf E c v) st k):X Z n Q K J E (v::st) (.st c k):=λρ hr=>q _ (hr.set c v)
theorem fP{E':Loc}(q:X Z n Q K J E' st k)(h:Wk E E'):X Z n Q K J E st k:=λρ hr=>q ρ (h.up hr)
theorem tF{c:Bool}(q:X Z n Q K J E (.int (if c then 1 else 0) 0::st) k):X Z n Q K J E (.bool c::st) (.Xr k):=q
theorem tX(q:X Z n Q K J E (v::st') k):X Z n Q (.bk st' k::K) J E (v::st) .yld:=q
theorem kD(q:X Z n Q (.sq st k::K) J E [] A):X Z n Q K J E st (.seq A k):=q
theorem AW(q:X Z n Q K J E (v::st) k)(h:J a=Md d)(hv:D6 d c=Md v):X Z n Q K J E (.ref a::st) (.fld c k):=λρ hr=>by
 induction d with
 |Wv C fs=>exact⟨_,_,_,h,hv,q ρ hr⟩
 |_=>cases hv
theorem gV(h:J a=Md d)(hf:AQ d c=Mj)(hv:iO v=Mj)(q:X Z n Q K (upd J a (X4 d c v)) E st k):X Z n Q K J E (.ref a::v::st) (.XD c k):=λρ hr=>by
 induction d with
 |Wv C fs=>exact⟨_,_,h,(Bool.or_eq_true _ _▸hf).imp_right λz=>⟨(MR.mp z).1,of_decide_eq_true (MR.mp z).2⟩,hv,q ρ hr⟩
 |_=>cases hf
theorem FE(hf:AQ d c=Mj)(hv:iO v=Mj)(q:X Z n Q K (upd J a (X4 d c v)) E st k):X Z n Q K (upd J a d) E (.ref a::v::st) (.XD c k):=
 gV (aa _ _ _) hf hv (by rw[Ae];exact q)
theorem Gn(q:X Z n Q K J E (.ref f::.ref a::st) k)(h:J a=Md d)(hm:H4 d c=Md f):X Z n Q K J E (.ref a::st) (.meth c k):=λρ hr=>by
 induction d with
 |Wv C fs=>
  have hm:(match gf fs c with|none=>mt C c|some _=>Mr)=Md f:=hm;cases hg:gf fs c with
  |none=>rw[hg] at hm;exact⟨_,_,_,h,hm,hg,q ρ hr⟩
  |some u=>rw[hg] at hm;cases hm
 |_=>cases hm
theorem sg(q:ac Z n (.ref f) [.ref a] J λv J'=>iO v=Mj/\X Z n Q K J' E (v::st) k)(h:J a=Md (.Wv C fs))(hm:pt C c=Md f):X Z n Q K J E (.ref a::st) (.prop c k):=λρ hr=>⟨_,_,_,h,hm,q.Wr (MD _) λv J' z=>⟨z.1,z.2 ρ hr⟩⟩
theorem Fb(q:X Z n Q K J E (.int (i*j) 0::st) k)(h:IntMulOk i j):X Z n Q K J E (.int j t::.int i t'::st) (.bin .mul k):=λρ hr=>.int h (q ρ hr)
theorem HA(q:X Z n Q K J E (.int (i*2^j.toNat) 0::st) k)(h:0<=j/\j<=1000000/\i.natAbs<2^64):X Z n Q K J E (.int j t::.int i t'::st) (.bin .shl k):=λρ hr=>.int h (q ρ hr)
theorem Hl(q:X Z n Q K J E (.int (i/2^j.toNat) 0::st) k)(h:0<=j):X Z n Q K J E (.int j t::.int i t'::st) (.bin .shr k):=λρ hr=>.int h (by have:=q ρ hr;rw[<-mv _ (NV (by decide))] at this;exact this)
theorem GX(q:X Z n Q K J E (.int (i*2^j.toNat) 0::st) k)(h:0<=j/\j<=1000000/\i.natAbs<2^64):X Z n Q K J E (.int j t::.int i t'::st) (.iop .shl k):=λρ hr=>⟨h,rfl,q ρ hr⟩
theorem Gi(q:X Z n Q K J E (.int (i/2^j.toNat) 0::st) k)(h:0<=j):X Z n Q K J E (.int j t::.int i t'::st) (.iop .shr k):=λρ hr=>⟨h,rfl,by have:=q ρ hr;rw[<-mv _ (NV (by decide))] at this;exact this⟩
theorem Hq(q:X Z n Q K J E (.int (i^j.toNat) 0::st) k)(h:And (0<=j) (And (j<=1000000) (i.natAbs<2^64))):X Z n Q K J E (.int j t::.int i t'::st) (.bin .pow k):=λρ hr=>.int ⟨h.1,h.2.1,h.2.2⟩ (q ρ hr)
theorem GI(q:X Z n Q K J E (.int (i%j) 0::st) k)(h:0<j):X Z n Q K J E (.int j t::.int i t'::st) (.bin .X6 k):=λρ hr=>.int (λz=>by rw[z] at h;exact absurd h (by decide)) (by have:=q ρ hr;rw[<-Int.fmod_eq_emod_of_nonneg _ (Nm h)] at this;exact this)
theorem Gg(q:X Z n Q K J E (.int (i/j) 0::st) k)(h:0<j)(h2:j.natAbs.log2<9000):X Z n Q K J E (.int j t::.int i t'::st) (.bin .Yh k):=λρ hr=>.int ⟨λz=>by rw[z] at h;exact absurd h (by decide),h2⟩ (by have:=q ρ hr;rw[<-mv _ h] at this;exact this)
theorem bQ(q1:i<j->X Z n Q K J E st A)(q2:¬i<j->X Z n Q K J E st B):X Z n Q K J E (.int j t::.int i t'::st) (.cmp .lt (.ite A B)):=λρ hr=>⟨λh=>q1 (of_decide_eq_true h) ρ hr,λh=>q2 (of_decide_eq_false h) ρ hr⟩
theorem vW(q1:i<=j->X Z n Q K J E st A)(q2:¬i<=j->X Z n Q K J E st B):X Z n Q K J E (.int j t::.int i t'::st) (.cmp .le (.ite A B)):=λρ hr=>⟨λh=>q1 (of_decide_eq_true h) ρ hr,λh=>q2 (of_decide_eq_false h) ρ hr⟩
theorem nv(q1:j<i->X Z n Q K J E st A)(q2:¬j<i->X Z n Q K J E st B):X Z n Q K J E (.int j t::.int i t'::st) (.cmp .gt (.ite A B)):=λρ hr=>⟨λh=>q1 (of_decide_eq_true h) ρ hr,λh=>q2 (of_decide_eq_false h) ρ hr⟩
theorem wT(q1:j<=i->X Z n Q K J E st A)(q2:¬j<=i->X Z n Q K J E st B):X Z n Q K J E (.int j t::.int i t'::st) (.cmp .ge (.ite A B)):=λρ hr=>⟨λh=>q1 (of_decide_eq_true h) ρ hr,λh=>q2 (of_decide_eq_false h) ρ hr⟩
theorem jN(q1:i<=j->X Z n Q K J E (.int j t::st) A)(q2:¬i<=j->X Z n Q K J E (.int j t::st) B):X Z n Q K J E (.int j t::.int i t'::st) (.XK .le (.ite A B)):=λρ hr=>⟨λh=>q1 (of_decide_eq_true h) ρ hr,λh=>q2 (of_decide_eq_false h) ρ hr⟩
theorem tU{o:Cm}(q:X Z n Q K J E (.bool (yu o i j)::st) k):X Z n Q K J E (.int j t::.int i t'::st) (.cmp o k):=q
theorem x9{c:Bool}(q1:c=Mj->X Z n Q K J E st A)(q2:c=Mh->X Z n Q K J E st B):X Z n Q K J E (.bool c::st) (.ite A B):=λρ hr=>⟨λh=>q1 h ρ hr,λh=>q2 h ρ hr⟩
theorem fJ(q:X Z n Q K J E st A):X Z n Q K J E (.bool Mj::st) (.ite A B):=λρ hr=>⟨λa=>q ρ hr,nofun⟩
theorem iJ(q:X Z n Q K J E st B):X Z n Q K J E (.bool Mh::st) (.ite A B):=λρ hr=>⟨nofun,λa=>q ρ hr⟩
noncomputable def sT:Bool->T->T->T
 |true,a,_=>a
 |false,_,b=>b
theorem aH(q1:i=j->X Z n Q K J E st (sT ng B A))(q2:i≠j->X Z n Q K J E st (sT ng A B)):X Z n Q K J E (.int j t::.int i t'::st) (.eqv ng (.ite A B)):=λρ hr=>by
 refine⟨M3 (i=j),.int,?_⟩;by_cases h:i=j
 ·have:=q1 h;rw[decide_eq_true h];cases ng;·exact fJ this ρ hr
  ·exact iJ this ρ hr
 ·have:=q2 h;rw[decide_eq_false h];cases ng;·exact iJ this ρ hr
  ·exact fJ this ρ hr
theorem wQ{r:Bool}{s s':Np}(q:X Z n Q K J E (.bool (if ng then !r else r)::st) k)(h:M3 (s=s')=r):X Z n Q K J E (.str s' t::.str s t'::st) (.eqv ng k):=λρ hr=>⟨r,h▸.str,q ρ hr⟩
theorem aO{s s':Np}{r:Bool}(q:X Z n Q K J E (.bool r::st) k)(h:M3 (s=s')=r):X Z n Q K J E (.str s' t::.str s t'::st) (.eqv Mh k):=λρ hr=>⟨r,h▸.str,q ρ hr⟩
theorem cx{r r':Bool}(q:X Z n Q K J E (.bool r'::st) k)(h:Ag v xs=Md r)(e:(if ng then !r else r)=r'):X Z n Q K J E (v::st) (.inn ng xs k):=λρ hr=>⟨_,h,e▸q ρ hr⟩
theorem Fz(q:tk m st [] λvs st'=>∀x,J x=Mr->X Z n Q K (upd J x (.tup vs)) E (.ref x::st') k):X Z n Q K J E st (.Xz m k):=λρ hr=>by refine bI (ro q) λvs st' z14=>?_;exact⟨vs,st',z14.1,λx hx=>z14.2 x hx ρ hr⟩
theorem Ed(q:tk m st [] λvs st'=>∀x,J x=Mr->X Z n Q K (upd J x (.list vs)) E (.ref x::st') k):X Z n Q K J E st (.Xa m k):=λρ hr=>by refine bI (ro q) λvs st' z13=>?_;exact⟨vs,st',z13.1,λx hx=>z13.2 x hx ρ hr⟩
theorem xw(q:∀x,J x=Mr->X Z n Q K (upd J x (.W9 [])) E (.ref x::st) k):X Z n Q K J E st (.YO k):=λρ hr x hx=>q x hx ρ hr
theorem pN(q:∀x,J x=Mr->X Z n Q K (upd J x (.WK [])) E (.ref x::st) k):X Z n Q K J E st (.YC k):=λρ hr x hx=>q x hx ρ hr
theorem x_call(q:tk m st [] λvs=>p1 λf st'=>ac Z n f vs J λv J'=>X Z n Q K J' E (v::st') k):X Z n Q K J E st (.call m k):=λρ hr=>by
 refine bI (ro q) λvs st' z12=>?_;induction st' with
 |nil=>exact z12.2.elim
 |cons f st'=>exact⟨vs,f,st',z12.1,ac.Wr z12.2 (MD _) λv J' z=>z ρ hr⟩
theorem Fu(q:tk m st [] λvs=>p1 λf=>p1 λo st'=>ac Z n f (o::vs) J λv J'=>X Z n Q K J' E (v::st') k):X Z n Q K J E st (.XM m k):=λρ hr=>by
 refine bI (ro q) λvs st' z11=>?_;have h:=z11.1;have q:=z11.2;match st',q with
 |f::o::st',q=>exact⟨vs,f,o,st',h,ac.Wr q (MD _) λv J' z=>z ρ hr⟩
noncomputable def Fv(F:String->Prop):Me->Prop
 |.builtin id=>F id
 |_=>False
theorem Fv.inv{F:String->Prop}(h:Fv F v):∃id,v=.builtin id/\F id:=by cases v<;>first|exact h.elim|exact⟨_,rfl,h⟩
theorem fy.Wr{R:Me->Sg->Prop}(h:∀v J,P v J->R v J)(q:fy Z n J P u v):fy Z n J R u v:=by
 induction q with
 |bytes a b c d e=>exact .bytes a b c d (h _ _ e)
 |list a b c d e=>exact .list a b c d (h _ _ e)
 |neg a b c d e f=>exact .neg a b c d e (h _ _ f)
 |tup a b c d e=>exact .tup a b c d (h _ _ e)
 |WK a b c d e=>exact .WK a b c d (h _ _ e)
 |Wv a b c=>exact .Wv a b (c.Wr (MD _) h)
theorem k8.Wr{P R:Sg->Prop}(h:∀J,P J->R J)(q:k8 Z n J P u v w):k8 Z n J R u v w:=by
 induction q with
 |list a b c d e=>exact .list a b c d (h _ e)
 |dict a b c=>exact .dict a b (h _ c)
 |Wv a b c=>exact .Wv a b (c.Wr (MD _) λf=>h)
theorem gR.Wr{R:Me->Sg->Prop}(h:∀v J,P v J->R v J)(q:gR Z n J P u):gR Z n J R u:=by
 induction q with
 |bytes a b=>exact .bytes a (h _ _ b)
 |list a b c=>exact .list a b (h _ _ c)
 |tup a b c=>exact .tup a b (h _ _ c)
 |WK a b c=>exact .WK a b (h _ _ c)
 |dict a b c=>exact .dict a b (h _ _ c)
 |Wv a b c=>exact .Wv a b (c.Wr (MD _) λ_ _ ⟨i,p,q,r,z⟩=>⟨i,p,q,r,h _ _ z⟩)
theorem rR.Wr{R:Me->Sg->Prop}(h:∀v J,P v J->R v J)(q:rR J P id u vs):rR J R id u vs:=by
 induction q with
 |Y5 a b c=>exact .Y5 a b (h _ _ c)
 |bapp a b c d e=>exact .bapp a b c d (h _ _ e)
 |Y9 a b c=>exact .Y9 a b (h _ _ c)
 |Za a b=>exact .Za a (h _ _ b)
 |Y6 a b=>exact .Y6 a (h _ _ b)
theorem Iy(q:tk m st [] λvs=>p1 λw=>p1 λo st'=>Fv (λid=>rR J (λv J'=>X Z n Q K J' E (v::st') k) id o vs) w):X Z n Q K J E st (.cb m k):=λρ hr=>by
 refine bI (ro q) λvs st' z10=>?_;have h:=z10.1;have q:=z10.2;match st',q with
 |w::o::st',q=>refine ae (Fv.inv q) λid z9=>?_;obtain rfl:=z9.1;have q:=z9.2;exact⟨vs,id,o,st',h,rR.Wr (λa a z=>z ρ hr) q⟩
theorem Dt(q:fy Z n J (λv J'=>X Z n Q K J' E (v::st) k) u v):X Z n Q K J E (v::u::st) (.idx k):=λρ hr=>fy.Wr (λa a z=>z ρ hr) q
theorem GP(q:k8 Z n J (λJ'=>X Z n Q K J' E st k) u v w):X Z n Q K J E (v::u::w::st) (.XF k):=λρ hr=>k8.Wr (λa z=>z ρ hr) q
theorem Hy(q:gR Z n J (λv J'=>X Z n Q K J' E (v::st) k) v):X Z n Q K J E (v::st) (.len k):=λρ hr=>gR.Wr (λa a z=>z ρ hr) q
theorem vA(q:X Z n Q K J E (.builtin id::v::st) k)(h:BM J c v id):X Z n Q K J E (v::st) (.bm c k):=λρ hr=>⟨_,h,q ρ hr⟩
theorem Hc(q:X Z n Q K J E (.builtin "bytearray.append"::.ref a::st) k)(h:J a=Md (.WK bs)):X Z n Q K J E (.ref a::st) (.bm JK k):=vA q (.bapp h)
theorem G7(q:X Z n Q K J E (.builtin "list.append"::.ref a::st) k)(h:J a=Md (.list xs)):X Z n Q K J E (.ref a::st) (.bm JK k):=vA q (.Y5 h)
theorem He(q:X Z n Q K J E (.builtin "bytearray.extend"::.ref a::st) k)(h:J a=Md (.WK bs)):X Z n Q K J E (.ref a::st) (.bm 111568023285348 k):=vA q (.Y9 h)
theorem FX(q:X Z n Q K J E (.builtin "int.bit_length"::.int i t::st) k):X Z n Q K J E (.int i t::st) (.bm JL k):=vA q .Y6
theorem iy{r:Bool}(q:X Z n Q K J E (.bool r::st) k)(h:fT J v u r):X Z n Q K J E (v::st) (.isi u k):=λρ hr=>⟨_,h,q ρ hr⟩
theorem rn(q:X Z n Q K J E (.bytes bs.toArray 0::st) k)(h:J a=Md (.WK bs))(hl:bs.length<=100000):X Z n Q K J E (.ref a::st) (.Xb k):=λρ hr=>.WK h hl (q ρ hr)
theorem wY{bs:Array UInt8}(q:X Z n Q K J E (.bytes bs 0::st) k):X Z n Q K J E (.bytes bs t::st) (.Xb k):=λρ hr=>.bytes (q ρ hr)
theorem mq(q:X Z n Q K J E (.bytes bs.toArray 0::st) k)(h:J a=Md (.list xs))(ho:YS xs bs)(hl:bs.length<=100000):X Z n Q K J E (.ref a::st) (.Xb k):=λρ hr=>.list h ho hl (q ρ hr)
noncomputable def FG:List Me->List Me->(List Me->Prop)->Prop
 |[],st,κ=>κ st
 |x::xs,st,κ=>FG xs st λr=>κ (x::r)
theorem rZ:∀{xs st:List Me}{κ:List Me->Prop},FG xs st κ->κ (xs++st)
 |[],_,_,h=>h
 |_::xs,_,_,h=>rZ (xs:=xs) h
noncomputable def DV(Z:Sys)(n:Nat)(Q:Out->Sg->Prop)(K:List Fr)(J:Sg)(E:Loc)(xs st:List Me)(k:T)(w:Bool):Prop:=FG xs st λst=>ff Z n Q J w 99 Mj K E st k
noncomputable def HH(Z:Sys)(n:Nat)(Q:Out->Sg->Prop)(K:List Fr)(J:Sg)(E:Loc)(xs st:List Me)(k:T):Prop:=∃w,DV Z n Q K J E xs st k w
theorem Ib(w:Bool)(q:DV Z n Q K J E xs st k w):HH Z n Q K J E xs st k:=⟨w,q⟩
theorem dO(q:HH Z n Q K J E xs st k)(h:J a=Md (.tup xs))(hl:xs.length=m):X Z n Q K J E (.ref a::st) (.unp m k):=λρ hr=>⟨_,h,hl,let ⟨_,q⟩:=q;mL _ _ _ _ _ _ (rZ q) ρ hr⟩
theorem Bo{x:UInt8}(q:X Z n Q K J E (.bytes (Ui j.toNat x) 0::st) k)(h:0<=j/\j<=1000):X Z n Q K J E (.int j t::.bytes #[x] t'::st) (.bin .mul k):=λρ hr=>.abd rfl h.1 h.2 (q ρ hr)
theorem CN{bs cs:Array UInt8}(q:X Z n Q K J E (.bytes (bs++cs) 0::st) k)(h:bs.size+cs.size<=100000):X Z n Q K J E (.bytes cs t::.bytes bs t'::st) (.bin .add k):=λρ hr=>.bytes rfl h (q ρ hr)
theorem d7{ys:List Me}(hx:J a=Md (.list xs))(hy:J b=Md (.list ys))(h:xs.length+ys.length<=100000)(q:∀x,J x=Mr->X Z n Q K (upd J x (.list (xs++ys))) E (.ref x::st) k):X Z n Q K J E (.ref b::.ref a::st) (.bin .add k):=λρ hr=>.list rfl hx hy h λx hx=>q x hx ρ hr
theorem ka(hx:J a=Md (.list [v]))(h:0<=i/\i<=100000)(q:∀x,J x=Mr->X Z n Q K (upd J x (.list (M9 i.toNat v))) E (.ref x::st) k):X Z n Q K J E (.int i t::.ref a::st) (.bin .mul k):=λρ hr=>.aa9 rfl hx h.1 h.2 λx hx=>q x hx ρ hr
theorem ix{lo up:Me}{i j:Nat}(h:J a=Md (.list xs))(hc:cut lo up xs.length=Md (i,j))(hl:xs.length<=1000000)(q:∀x,J x=Mr->X Z n Q K (upd J x (.list ((xs.take j).drop i))) E (.ref x::st) k):X Z n Q K J E (up::lo::.ref a::st) (.sli k):=λρ hr=>
 .cell (by rw[h];rfl) ⟨i,j,hc,hl,λx hx=>q x hx ρ hr⟩
theorem Bc{lo up:Me}{i j:Nat}(h:Z.kl a=Md xs)(hc:cut lo up xs.length=Md (i,j))(hl:xs.length<=1000000)(q:∀x,J x=Mr->X Z n Q K (upd J x (.list ((xs.take j).drop i))) E (.ref x::st) k):X Z n Q K J E (up::lo::.ref a::st) (.sli k):=λρ hr=>
 .Yl h ⟨i,j,hc,hl,λx hx=>q x hx ρ hr⟩
theorem xl(h:J a=Md (.list xs))(hl:xs.length<=100000)(q:∀x,J x=Mr->X Z n Q K (upd J x (.list xs)) E (.ref x::st) k):X Z n Q K J E (.ref a::st) (.Yj k):=λρ hr=>.cell (by rw[h];rfl) ⟨hl,λx hx=>q x hx ρ hr⟩
theorem wv(h:Z.kt a=Md xs)(hl:xs.length<=100000)(q:∀x,J x=Mr->X Z n Q K (upd J x (.list xs)) E (.ref x::st) k):X Z n Q K J E (.ref a::st) (.Yj k):=λρ hr=>.Yl h ⟨hl,λx hx=>q x hx ρ hr⟩
theorem kG(h:sM J u v Mj)(q:X Z n Q K J E st k):X Z n Q K J E (v::u::st) (.eqv Mj (.ite B k)):=λρ hr=>⟨Mj,h,iJ q ρ hr⟩
theorem Ia(h:u=v)(q:X Z n Q K J E (v::st) k):X Z n Q K J E (u::st) k:=h▸q
theorem HE(h:i=j)(q:X Z n Q K J E (.int j t::st) k):X Z n Q K J E (.int i t::st) k:=h▸q
end
noncomputable def FJ(f:Nat):List (Ml×List Nat×List Me×T)->(List Nat->List Me->T->Prop)->Prop
 |[],_=>False
 |(g,ns,ds,c)::r,κ=>match P4 g f with
  |true=>κ ns ds c
  |false=>FJ f r κ
theorem wn{f:Nat}{κ:List Nat->List Me->T->Prop}:∀{l:List (Ml×List Nat×List Me×T)},FJ f l κ->∃(i:Nat) (ns:List Nat) (ds:List Me) (c:T),l[i]?=Md (f,ns,ds,c)/\κ ns ds c
 |(g,ns,ds,c)::r,h=>by
  have h:(match P4 g f with|true=>κ ns ds c|false=>FJ f r κ):=h;cases q:P4 g f with
  |true=>rw[q] at h;rw[Q6 q];exact⟨0,ns,ds,c,rfl,h⟩
  |false=>rw[q] at h;refine ae (wn h) λi z5=>?_;refine ae z5 λns z6=>?_;refine ae z6 λds z7=>?_;refine ae z7 λc z8=>?_;exact⟨i+1,ns,ds,c,z8.1,z8.2⟩
noncomputable def cT(b:Bool)(p:Prop):Prop:=match b with
 |true=>p
 |false=>False
theorem cT.inv{p:Prop}:∀{b:Bool},cT b p->b=Mj/\p
 |true,h=>⟨rfl,h⟩
noncomputable def Cb:List Nat->List Me->(Loc->Prop)->Prop
 |c::ns,v::vs,κ=>Cb ns vs λE=>κ ((c,v)::E)
 |_,_,κ=>κ []
theorem tN:∀{ns:List Nat}{vs:List Me}{κ:Loc->Prop},Cb ns vs κ->κ (ns.zip vs)
 |_::ns,_::vs,_,h=>tN (ns:=ns) (vs:=vs) h
 |[],_,_,h=>h
 |_::_,[],_,h=>h
noncomputable def Ei(Z:Sys)(n:Nat)(Q:Me->Sg->Prop)(J:Sg)(f:Nat)(args:List Me)(w:Bool)(m:Nat):Prop:=FJ f iW λns ds c=>cT (PE args.length ns.length) (cT (PE ns.length (args.length+ds.length))
 (Cb ns (args++ds.drop (args.length+ds.length-ns.length)) λE=>ff Z (n-1) (bV Q) J w m Mj [] E [] c))
noncomputable def Run(Z:Sys)(n:Nat)(Q:Me->Sg->Prop)(J:Sg)(f:Nat)(args:List Me):Prop:=bM λw m=>Ei Z n Q J f args w m
theorem DT(w:Bool)(m:Nat)(q:Ei Z n Q J f args w m):Run Z n Q J f args:=⟨w,m,q⟩
theorem run(G:Good Z Kg)(hn:0<n)(q:Run Z n Q J f args):ac Z n (.ref f) args J Q:=by refine bI q λw m q=>?_;refine ae (wn q) λi z1=>?_;refine ae z1 λns z2=>?_;refine ae z2 λds z3=>?_;refine ae z3 λc z4=>?_;have k:=z4.2;have k1:=k.inv;have k2:=k1.2.inv;exact G.run i z4.1 hn (MG k1.1) (MG k2.1) (mL _ _ _ _ _ _ (tN k2.2) _ λa a h=>h)
theorem GG{st:List Me}(q:Q v J):X Z n (bV Q) [] J E (v::st) .ret:=λa a=>q
theorem Fx:(2:Int)^Pb 1=2:=rfl
theorem HM:(2:Int)^Pb 4=16:=rfl
theorem H7:(2:Int)^Pb 7=128:=rfl
theorem Dh:(2:Int)^Pb 8=256:=rfl
theorem DR:(2:Int)^Pb 11=2048:=rfl
theorem Gp:(2:Int)^Pb 24=16777216:=rfl
theorem Ga:(2:Int)^Pb 32=4294967296:=rfl
theorem mh(h:J a=Md (.WK bs))(h0:0<=i/\i<256)(hl:bs.length<=100000)(q:P .none (upd J a (.WK (bs++[PB i.toNat])))):rR J P "bytearray.append" (.ref a) [.int i t]:=.bapp h h0.1 h0.2 hl q
theorem xL{xs:Array UInt8}(h:J a=Md (.WK bs))(hl:bs.length+xs.size<=100000)(q:P .none (upd J a (.WK (bs++xs.toList)))):rR J P "bytearray.extend" (.ref a) [.bytes xs t]:=.Y9 h hl q
theorem eI(h:J a=Md (.list xs))(hl:xs.length<=100000)(q:P .none (upd J a (.list (xs++[v])))):rR J P "list.append" (.ref a) [v]:=.Y5 h hl q
theorem Ck(h:0<i)(q:P (.int ((i.toNat.log2:Nat)+1:Int) 0) J):rR J P "int.bit_length" (.int i t) []:=.Y6 h q
theorem mC(h:0<=i/\i<256):YS [.int i 0] [PB i.toNat]:=⟨[i],rfl,λa hn=>MN.mp hn▸h,rfl⟩
theorem GK(h:And (0<=j) (j<=1000000))(h0:0<=i)(h1:i<2^64):0<=j/\j<=1000000/\i.natAbs<2^64:=⟨h.1,h.2,Hh h0 (PJ h1 (by decide))⟩
theorem Ir(h:0<=j)(h':j<=1000000)(h0:0<=i)(h1:i<2^64):0<=j/\j<=1000000/\i.natAbs<2^64:=GK ⟨h,h'⟩ h0 h1
theorem FO{a:Int}(h:b.natAbs<2^64):IntMulOk a b:=IntMulOk.of_right (by
 unfold OU;split;·exact Ms _ _
 ·rename_i q;have hb:b.natAbs≠0:=λz=>q (by simpa using z);have:=(UL hb).mpr h;exact this)
theorem yx{b:Ml}{c:Cell}(h:J a=Md c)(h':J b=Mr):a≠b:=λz=>cns (h'.symm.trans ((congrArg J z).symm.trans h))
theorem El{b:Ml}{c:Cell}(h:J a=Mr)(h':J b=Md c):a≠b:=λz=>cns (h.symm.trans ((congrArg J z).trans h'))
theorem mn{b:Ml}{c:Cell}(h:J a=Md c)(h':J b=Md d)(q:P4 c.ctorIdx d.ctorIdx=Mh):a≠b:=λz=>
 absurd (congrArg Cell.ctorIdx (MJ (h.symm.trans ((congrArg J z).trans h')))) (PD q)
theorem tA{b:Ml}{D:Ml}{gs:Loc}(h:J a=Md (.Wv C fs))(h':J b=Md (.Wv D gs))(q:C≠D):a≠b:=λz=>
 q (congrArg (λc:Cell=>match c with|.Wv C _=>C|_=>0) (MJ (h.symm.trans ((congrArg J z).trans h'))))
noncomputable def Sub(H J:Sg):Prop:=∀a c,H a=Md c->J a=Md c
theorem Sub.rfl:Sub J J:=λa a h=>h
variable{H H':Sg}
theorem Sub.trans(h:Sub H H')(h':Sub H' J):Sub H J:=λa c e=>h' a c (h a c e)
theorem Sub.none(h:Sub H J)(e:J a=Mr):H a=Option.none:=by
 cases q:H a with
 |none=>exact Eq.refl _
 |some c=>rw[h a c q] at e;cases e
theorem Sub.upd(h:Sub H J)(e:H a=Mr)(c:Cell):Sub H (upd J a c):=λb d hb=>by
 unfold Internal.upd;split;·rename_i q;rw[q,e] at hb;cases hb
 ·exact h b d hb
open Classical in
noncomputable def aU(H J:Sg)(P:Ml->Prop):Sg:=λa=>if P a then J a else H a
theorem Sub.WU(h:Sub H J)(P:Ml->Prop):Sub (aU H J P) J:=λa c e=>by
 unfold aU at e;split at e;·exact e
 ·exact h a c e
variable{P:Ml->Prop}
theorem ai(hp:¬P a)(h:H a=Mr):aU H J P a=Option.none:=by unfold aU;rw[if_neg hp];exact h
theorem Sub.Xk(h:Sub H J)(h':Sub (aU H J P) J'):Sub H J':=λa c e=>h' a c (by
 unfold aU;split;·exact h a c e
 ·exact e)
theorem Sub.at(h':Sub (aU H J P) J'){c:Cell}(hp:P a)(e:J a=Md c):J' a=Md c:=h' a c (by unfold aU;rw[if_pos hp];exact e)
theorem oT:∀(k:Nat)(l:List Int),l.Nodup->(∀x∈l,0<=x/\x<k)->l.length<=k
 |0,l,_,h=>by
  induction l with
  |nil=>exact MD _
  |cons a r=>have:=h a (MU ..);exact CL 0x421840003de098105f21 [_] [] this
 |k+1,l,nd,h=>by
  have ih:=oT k (l.erase (k:Int)) (nd.erase _) λx hx=>by obtain⟨h1,h2⟩:=nd.mem_erase_iff.mp hx;have:=(h x h2).1;have:=(h x h2).2;constructor<;>lia
  have:=List.le_length_erase (a:=(k:Int)) (l:=l);lia
inductive fq(m:List (Int×Me))(len:Nat)(f:Int->Int):Prop where
 |mk (val:∀i:Int,0<=i->i<len->((m.find? (·.1==i)).map (·.2)).getD (.int 1024 0)=.int (f i) 0)
  (key:∀p∈m,0<=p.1/\p.1<len)
  (nd:(m.map (·.1)).Nodup)
variable{f:Int->Int}
theorem fq.le{m:List (Int×Me)}{len:Nat}(h:fq m len f):m.length<=len:=by
 have:=oT len (m.map (·.1)) h.3 λx hx=>by refine ae (NF.mp hx) λp z4=>?_;obtain⟨hp,rfl⟩:=z4;exact h.2 p hp
 rwa [Mu] at this
noncomputable def put(f:Int->Int)(i v:Int):Int->Int:=λk=>if k=i then v else f k
noncomputable def sV(m:List (Int×Me))(j:Int)(v:Me):List (Int×Me):=if m.any (·.1==j) then m.map (λp=>if p.1==j then(j,v) else p) else m++[(j,v)]
theorem uh{m:List (Int×Me)}{k:Int}:(sV m j v).find? (·.1==k)=if k=j then Md (j,v) else m.find? (·.1==k):=by
 unfold sV;split
 ·rename_i h;induction m with
  |nil=>simp at h
  |cons p r ih=>
   obtain⟨a,u⟩:=p;by_cases haj:a=j
   ·rw[<-haj];by_cases hk:k=a;·subst hk;simp
    ·have h1:(a==k)=false:=by simpa using λq=>hk q.symm
     simp only[Nn,beq_self_eq_true,if_true,PW,h1,if_neg hk];have:∀l:List (Int×Me),(l.map λp=>if p.1==a then(a,v) else p).find? (·.1==k)=l.find? (·.1==k):=by
      intro l;induction l with
      |nil=>rfl
      |cons q l ih2=>
       obtain⟨b,w⟩:=q;by_cases hb:b=a;·subst hb;simp only[Nn,beq_self_eq_true,if_true,PW,h1,ih2]
       ·have h2:(b==a)=false:=by simpa using hb
        simp only[Nn,h2,QI,if_false,PW,ih2]
     exact this r
   ·have h1:(a==j)=false:=by simpa using haj
    simp only[PX,h1,Bool.false_or] at h;simp only[Nn,h1,QI,if_false,PW];by_cases hk:a=k;·subst hk;simp[haj]
    ·have h2:(a==k)=false:=by simpa using hk
     simp only[h2];exact ih h
 ·rename_i h;have h:∀p∈m,¬p.1=j:=λp hp e=>h (TH.mpr ⟨p,hp,beq_iff_eq.mpr e⟩);rw[List.find?_append];by_cases hk:k=j
  ·subst hk;have:m.find? (·.1==k)=none:=by rw[Vh];intro p hp;simpa using h p hp
   rw[this];simp
  ·rw[if_neg hk];cases m.find? (·.1==k) with
   |some p=>rfl
   |none=>simp[show(j==k)=Mh by simpa using λq=>hk q.symm]
theorem nT{m:List (Int×Me)}:(sV m j v).map (·.1)=if m.any (·.1==j) then m.map (·.1) else m.map (·.1)++[j]:=by
 unfold sV;split
 ·rw[OY];refine Qt λp hp=>?_;show(if p.1==j then(j,v) else p).1=p.1;split;·rename_i h;exact(beq_iff_eq.mp h).symm
  ·rfl
 ·simp
theorem fq.set{m:List (Int×Me)}{len:Nat}(h:fq m len f){v:Int}(h0:0<=i)(h1:i<len):fq (sV m i (.int v 0)) len (put f i v):=by
 refine⟨?_,?_,?_⟩
 ·intro k k0 k1;rw[uh];unfold put;split;·rfl
  ·exact h.1 k k0 k1
 ·intro p hp;have:p.1∈(sV m i (.int v 0)).map (·.1):=NB hp;rw[nT] at this;split at this;·refine ae (NF.mp this) λq z3=>?_;obtain⟨hq,e⟩:=z3;rw[<-e];exact h.2 q hq
  ·rcases Oq.mp this with this|this;·refine ae (NF.mp this) λq z2=>?_;obtain⟨hq,e⟩:=z2;rw[<-e];exact h.2 q hq
   ·rw[MN.mp this];exact⟨h0,h1⟩
 ·rw[nT];split;·exact h.3
  ·rename_i q;rw[Vt];refine⟨h.3,by simp,λa ha b hb=>?_⟩;rw[MN.mp hb];intro e;refine ae (NF.mp ha) λp z1=>?_;obtain⟨hp,e2⟩:=z1;exact q (TH.mpr ⟨p,hp,by simp[e2,e]⟩)
noncomputable def Row(J:Sg)(r d:Ml)(len:Nat)(f:Int->Int):Prop:=
 (d=r/\∃xs,J r=Md (.list xs)/\xs.length=len/\∀k:Nat,k<len->xs[k]?=Md (.int (f k) 0))∨
 (J r=Md (.Wv 159 [(I9,.int len 0),(Ly,.ref d)])/\∃m,J d=Md (.W9 m)/\fq m len f)
local macro_rules (kind:=PySem.W.tacticLk) | s=>Internal.ev [] ",try ,( ,( ,first ,| ,( ,( ,with_reducible ,first ,| ,refine 'DT 'true ,99 Anum ? Cnull bapp 2refine Anull ! Bgroup ,| ,refine 'Iz 'true ? Bnull bapp 2refine Anull ! Bgroup ,| ,refine 'Ib 'true ? Bnull bapp 2refine Anull ! Bgroup Cnull 2first Anull ! 2withReducible Anull ! ,) 3paren ,; ,refine ,( ' AhygieneInfo bhygienicLParen ? ,: 'X ,_ ahole ,_ ahole ,_ ahole ,_ ahole ,_ ahole ,_ ahole ,_ ahole ,_ ahole Hnull bapp Anull ,) etypeAscription 2refine Cnull ! ,) 3paren Anull ! Bgroup ,| ,( ,( ,with_reducible ,first ,| ,refine 'DT 'false ,99 Anum ? Cnull bapp 2refine Anull ! Bgroup ,| ,refine 'Iz 'false ? Bnull bapp 2refine Anull ! Bgroup ,| ,refine 'Ib 'false ? Bnull bapp 2refine Anull ! Bgroup Cnull 2first Anull ! 2withReducible Anull ! ,) 3paren ,; ,refine ,( ' AhygieneInfo bhygienicLParen ? ,: 'X ,_ ahole ,_ ahole ,_ ahole ,_ ahole ,_ ahole ,_ ahole ,_ ahole ,_ ahole Hnull bapp Anull ,) etypeAscription 2refine Cnull ! ,) 3paren Anull ! Bgroup ,| ,( ,( ,with_reducible ,first ,| ,refine 'x_call ? Anull bapp 2refine Anull ! Bgroup ,| ,refine 'Fu ? Anull bapp 2refine Anull ! Bgroup Bnull 2first Anull ! 2withReducible Anull ! ,) 3paren ,; ,refine ,( ' AhygieneInfo bhygienicLParen ? ,: 'ac ,_ ahole ,_ ahole ,_ ahole ,_ ahole ,_ ahole ,_ ahole Fnull bapp Anull ,) etypeAscription 2refine Cnull ! ,) 3paren Anull ! Bgroup ,| ,( ,( ,with_reducible ,refine 'Iy ? Anull bapp 2refine Anull ! 2withReducible Anull ! ,) 3paren ,; ,refine ,( ' AhygieneInfo bhygienicLParen ? ,: 'rR ,_ ahole ,_ ahole ,_ ahole ,_ ahole ,_ ahole Enull bapp Anull ,) etypeAscription 2refine Cnull ! ,) 3paren Anull ! Bgroup ,| ,( ,( ,with_reducible ,first ,| ,refine 'Ed ? Anull bapp 2refine Anull ! Bgroup ,| ,refine 'Fz ? Anull bapp 2refine Anull ! Bgroup Bnull 2first Anull ! 2withReducible Anull ! ,) 3paren ,; ,refine ,( ' AhygieneInfo bhygienicLParen ? ,: ,∀ ,_ ahole Anull @null ,, ,_ ahole ,→ 'X ,_ ahole ,_ ahole ,_ ahole ,_ ahole ,_ ahole ,_ ahole ,_ ahole ,_ ahole Hnull bapp carrow eforall Anull ,) etypeAscription 2refine Cnull ! ,) 3paren Anull ! Bgroup ,| ,( ,( ,with_reducible ,first ,| ,refine 'AW ,( 'v ,:= ,? -v bsyntheticHole ,) enamedArgument ,( 'd ,:= ,? -d bsyntheticHole ,) enamedArgument ? ,? -h bsyntheticHole ,? -e bsyntheticHole Enull bapp 2refine Anull ! Bgroup ,| ,refine 'Gn ,( 'f ,:= ,? -v bsyntheticHole ,) enamedArgument ,( 'd ,:= ,? -d bsyntheticHole ,) enamedArgument ? ,? -h bsyntheticHole ,? -e bsyntheticHole Enull bapp 2refine Anull ! Bgroup ,| ,refine 'Hc ,( 'bs ,:= ,? -d bsyntheticHole ,) enamedArgument ? ,? -h bsyntheticHole Cnull bapp 2refine Anull ! Bgroup ,| ,refine 'He ,( 'bs ,:= ,? -d bsyntheticHole ,) enamedArgument ? ,? -h bsyntheticHole Cnull bapp 2refine Anull ! Bgroup Dnull 2first Anull ! 2withReducible Anull ! ,) 3paren ,; ,( ,case -h ALean.binderIdent @null 2caseArg Anull ,=> ,repeat' ,first ,| ,assumption 1assumption Anull ! Bgroup ,| ,exact 'aa ,_ ahole ,_ ahole ,_ ahole Cnull bapp 2exact Anull ! Bgroup ,| ,refine ,( ' AhygieneInfo bhygienicLParen 'ag ,_ ahole ,_ ahole ,( ' AhygieneInfo bhygienicLParen ,by ,assumption 1assumption Anull ! bbyTactic ,) cparen Cnull bapp ,) cparen ,. 'trans cproj ? Anull bapp 2refine Anull ! Bgroup Cnull 2first Anull ! 2repeat' Anull ! 4case Anull ! ,) 3paren ,; ,try ,case -e ALean.binderIdent @null 2caseArg Anull ,=> ,exact 'rfl 2exact Anull ! 4case Anull ! 2tacticTry_ Enull ! ,) 3paren Anull ! Bgroup ,| ,( ,( ,with_reducible ,refine 'G7 ,( 'xs ,:= ,? -d bsyntheticHole ,) enamedArgument ? ,? -h bsyntheticHole Cnull bapp 2refine Anull ! 2withReducible Anull ! ,) 3paren ,; ,case -h ALean.binderIdent @null 2caseArg Anull ,=> ,repeat' ,first ,| ,assumption 1assumption Anull ! Bgroup ,| ,exact 'aa ,_ ahole ,_ ahole ,_ ahole Cnull bapp 2exact Anull ! Bgroup ,| ,refine ,( ' AhygieneInfo bhygienicLParen 'ag ,_ ahole ,_ ahole ,( ' AhygieneInfo bhygienicLParen ,by ,assumption 1assumption Anull ! bbyTactic ,) cparen Cnull bapp ,) cparen ,. 'trans cproj ? Anull bapp 2refine Anull ! Bgroup Cnull 2first Anull ! 2repeat' Anull ! 4case Cnull ! ,) 3paren Anull ! Bgroup ,| ,( ,( ,with_reducible ,refine 'FE ,? -e bsyntheticHole ,? -f bsyntheticHole ? Cnull bapp 2refine Anull ! 2withReducible Anull ! ,) 3paren ,; ,( ,case -e ALean.binderIdent @null 2caseArg Anull ,=> ,exact 'rfl 2exact Anull ! 4case Anull ! ,) 3paren ,; ,case -f ALean.binderIdent @null 2caseArg Anull ,=> ,exact 'rfl 2exact Anull ! 4case Enull ! ,) 3paren Anull ! Bgroup ,| ,( ,( ,with_reducible ,refine 'gV ,( 'd ,:= ,? -d bsyntheticHole ,) enamedArgument ,? -h bsyntheticHole ,? -e bsyntheticHole ,? -f bsyntheticHole ? Enull bapp 2refine Anull ! 2withReducible Anull ! ,) 3paren ,; ,( ,case -h ALean.binderIdent @null 2caseArg Anull ,=> ,repeat' ,first ,| ,assumption 1assumption Anull ! Bgroup ,| ,exact 'aa ,_ ahole ,_ ahole ,_ ahole Cnull bapp 2exact Anull ! Bgroup ,| ,refine ,( ' AhygieneInfo bhygienicLParen 'ag ,_ ahole ,_ ahole ,( ' AhygieneInfo bhygienicLParen ,by ,assumption 1assumption Anull ! bbyTactic ,) cparen Cnull bapp ,) cparen ,. 'trans cproj ? Anull bapp 2refine Anull ! Bgroup Cnull 2first Anull ! 2repeat' Anull ! 4case Anull ! ,) 3paren ,; ,( ,case -e ALean.binderIdent @null 2caseArg Anull ,=> ,exact 'rfl 2exact Anull ! 4case Anull ! ,) 3paren ,; ,case -f ALean.binderIdent @null 2caseArg Anull ,=> ,exact 'rfl 2exact Anull ! 4case Gnull ! ,) 3paren Anull ! Bgroup ,| ,with_reducible ,first ,| ,refine 'GG ? Anull bapp 2refine Anull ! Bgroup ,| ,refine 'HC ? Anull bapp 2refine Anull ! Bgroup ,| ,refine 'fu ? Anull bapp 2refine Anull ! Bgroup ,| ,refine 'Hz ? Anull bapp 2refine Anull ! Bgroup ,| ,refine 'Dt ? Anull bapp 2refine Anull ! Bgroup ,| ,refine 'GP ? Anull bapp 2refine Anull ! Bgroup ,| ,refine 'Hy ? Anull bapp 2refine Anull ! Bgroup ,| ,refine 'FX ? Anull bapp 2refine Anull ! Bgroup Hnull 2first Anull ! 2withReducible Anull ! Bgroup ,| ,( ,( ,with_reducible ,refine 'Fb ? ,? -h bsyntheticHole Bnull bapp 2refine Anull ! 2withReducible Anull ! ,) 3paren ,; ,case -h ALean.binderIdent @null 2caseArg Anull ,=> ,first ,| ,exact 'IntMulOk.of_left ,( ' AhygieneInfo bhygienicLParen ,by ,decide @null 1optConfig 2decide Anull ! bbyTactic ,) cparen Anull bapp 2exact Anull ! Bgroup ,| ,exact 'FO ,( ' AhygieneInfo bhygienicLParen ,by ,lia @null 1optConfig 2lia Anull ! bbyTactic ,) cparen Anull bapp 2exact Anull ! Bgroup Bnull 2first Anull ! 4case Cnull ! ,) 3paren Anull ! Bgroup ,| ,( ,( ,with_reducible ,first ,| ,refine 'HA ? ,? -h bsyntheticHole Bnull bapp 2refine Anull ! Bgroup ,| ,refine 'GX ? ,? -h bsyntheticHole Bnull bapp 2refine Anull ! Bgroup Bnull 2first Anull ! 2withReducible Anull ! ,) 3paren ,; ,case -h ALean.binderIdent @null 2caseArg Anull ,=> ,first ,| ,exact 'GK ,( ' AhygieneInfo bhygienicLParen ,by ,decide @null 1optConfig 2decide Anull ! bbyTactic ,) cparen ,( ' AhygieneInfo bhygienicLParen ,by ,lia @null 1optConfig 2lia Anull ! bbyTactic ,) cparen ,( ' AhygieneInfo bhygienicLParen ,by ,lia @null 1optConfig 2lia Anull ! bbyTactic ,) cparen Cnull bapp 2exact Anull ! Bgroup ,| ,exact 'Ir ,( ' AhygieneInfo bhygienicLParen ,by ,lia @null 1optConfig 2lia Anull ! bbyTactic ,) cparen ,( ' AhygieneInfo bhygienicLParen ,by ,lia @null 1optConfig 2lia Anull ! bbyTactic ,) cparen ,( ' AhygieneInfo bhygienicLParen ,by ,lia @null 1optConfig 2lia Anull ! bbyTactic ,) cparen ,( ' AhygieneInfo bhygienicLParen ,by ,lia @null 1optConfig 2lia Anull ! bbyTactic ,) cparen Dnull bapp 2exact Anull ! Bgroup ,| ,refine ,⟨ ? ,, ? ,, ? Enull ,⟩ canonymousCtor 2refine ,<;> ,lia @null 1optConfig 2lia 3«tactic_<;>_» Anull ! Bgroup Cnull 2first Anull ! 4case Cnull ! ,) 3paren Anull ! Bgroup ,| ,( ,( ,with_reducible ,first ,| ,refine 'Hl ? ,? -h bsyntheticHole Bnull bapp 2refine Anull ! Bgroup ,| ,refine 'Gi ? ,? -h bsyntheticHole Bnull bapp 2refine Anull ! Bgroup ,| ,refine 'Hq ? ,? -h bsyntheticHole Bnull bapp 2refine Anull ! Bgroup ,| ,refine 'GI ? ,? -h bsyntheticHole Bnull bapp 2refine Anull ! Bgroup Dnull 2first Anull ! 2withReducible Anull ! ,) 3paren ,; ,case -h ALean.binderIdent @null 2caseArg Anull ,=> ,first ,| ,decide @null 1optConfig 2decide Anull ! Bgroup ,| ,lia @null 1optConfig 2lia Anull ! Bgroup Bnull 2first Anull ! 4case Cnull ! ,) 3paren Anull ! Bgroup ,| ,( ,( ,with_reducible ,refine 'Gg ? ,? -h bsyntheticHole ,? -h2 bsyntheticHole Cnull bapp 2refine Anull ! 2withReducible Anull ! ,) 3paren ,; ,( ,case -h ALean.binderIdent @null 2caseArg Anull ,=> ,first ,| ,decide @null 1optConfig 2decide Anull ! Bgroup ,| ,lia @null 1optConfig 2lia Anull ! Bgroup Bnull 2first Anull ! 4case Anull ! ,) 3paren ,; ,case -h2 ALean.binderIdent @null 2caseArg Anull ,=> ,first ,| ,decide @null 1optConfig 2decide Anull ! Bgroup ,| ,assumption 1assumption Anull ! Bgroup Bnull 2first Anull ! 4case Enull ! ,) 3paren Anull ! Bgroup Nnull 2first Anull ! ,) 3paren ,; ,lk APySem.W.tacticLk Cnull ! ,) 3paren Anull ! 2tacticTry_"
variable{d:Ml}
noncomputable def Xv(m b:Int):Int:=if b=0 then m+(2048-m)/32 else m-m/32
theorem iz(G:Good Z Kg)(hn:0<n){m:Int}{u:Nat}:ac Z n (.ref 916) [.int m t,.int b u] J (λv J'=>v=.int (Xv m b) 0/\J=J'):=by
 refine run G hn ?_;lk;refine aH (λh=>?_) (λh=>?_)<;>lk;·exact⟨by unfold Xv;rw[if_pos h];rfl,rfl⟩
 ·exact⟨by unfold Xv;rw[if_neg h];rfl,rfl⟩
theorem rL(G:Good Z Kg)(hn:0<n)(hb:b=0∨b=1):ac Z n (.ref 923) [.int b t] J (λv J'=>v=.none/\J=J'):=by refine run G hn ?_;lk;refine cx (r:=Mj) ?_ (by rcases hb with rfl|rfl<;>rfl) rfl;lk;exact⟨rfl,rfl⟩
theorem Row.idx(G:Good Z Kg)(hn:0<n){len:Nat}(R:Row J r d len f)(h0:0<=i)(h1:i<len)(h2:len<1000000)(q:Q (.int (f i) 0) J):fy Z n J Q (.ref r) (.int i t):=by
 rcases R with⟨_,xs,e,hl,hx⟩|⟨e,m,em,hm⟩;·exact .list e h0 (aS 0x847086100014c0000000000000000911287a12008284578243e6090e [_,_] [_] h1 h2 d5) (by have:=hx i.toNat (ao 0x108610000f6e2a0faf0488d4140f [_] [_,_] h1 (MF h0));rwa [MF h0] at this) q
 ·refine .Wv e cL (run G hn ?_);lk;refine jN (λa=>?_) (λz=>absurd h0 z);lk;refine bQ (λa=>?_) (λz=>absurd h1 z);lk;refine vA ?_ (.Za em);lk;refine .Za em ?_;lk;rw[hm.1 i h0 h1];exact q
theorem Row.set(G:Good Z Kg)(hn:0<n){len:Nat}{v:Int}(R:Row J r d len f)(h0:0<=i)(h1:i<len)(h2:len<1000000)(S:Sub H J)(hr:H r=Mr)(hd:H d=Mr){Q:Sg->Prop}(q:∀J',Row J' r d len (put f i v)->Sub H J'->Q J'):k8 Z n J Q (.ref r) (.int i t) (.int v 0):=by
 rcases R with⟨rfl,xs,e,hl,hx⟩|⟨e,m,em,hm⟩
 ·refine .list e h0 (ao 0x108a10000f54150faf0488de090f [_] [_,_] h1 hl) (ao 0x421840003d50543fd0900509093d090041322 [] [_,_] h2 hl) (q _ (.inl ⟨rfl,_,aa _ _ _,by rw[List.length_set];exact hl,λk hk=>?_⟩) (S.upd hr _));unfold put;rw[Vy];by_cases hki:(k:Int)=i;·rw[if_pos (by exact aS 0x211420001e847084007b71507de080fd71d08d4150f [_] [_,_] hki (Ni _) (MF h0)),if_pos (by exact aS 0x42384508000a771507ca84a252f048954140f [_] [_,_,_] h1 hl (MF h0)),if_pos hki]
  ·rw[if_neg (by lia),if_neg hki];exact hx k hk
 ·have hne:d≠r:=mn em e rfl;have hl:=hm.le;refine .Wv e cM (run G hn ?_);lk;refine jN (λa=>?_) (λz=>absurd h0 z);lk;refine bQ (λa=>?_) (λz=>absurd h1 z);lk;refine .dict em (ao 0x421840003d504c3fd0900509093d090041322 [] [_,_] h2 hl) ?_;lk;exact q _ (.inr ⟨by rw[ag _ _ hne.symm];exact e,sV m i (.int v 0),aa _ _ _,hm.set h0 h1⟩) (S.upd hd _)
theorem Row.len(G:Good Z Kg)(hn:0<n){len:Nat}(R:Row J r d len f)(h2:len<1000000)(q:Q (.int len 0) J):gR Z n J Q (.ref r):=by
 rcases R with⟨rfl,xs,e,hl,hx⟩|⟨e,m,em,hm⟩;·exact .list e (ao 0x421840003d50543fd0900509093d090041322 [] [_,_] h2 hl) (by rw[hl];exact q)
 ·refine .Wv e jZ (run G hn ?_);lk;exact⟨len,rfl,Mt _,F8 h2 rfl,q⟩
theorem Row.sub{len:Nat}(R:Row H r d len f)(S:Sub H J):Row J r d len f:=by
 rcases R with⟨rfl,xs,e,hl,hx⟩|⟨e,m,em,hm⟩;·exact .inl ⟨rfl,xs,S _ _ e,hl,hx⟩
 ·exact .inr ⟨S _ _ e,m,S _ _ em,hm⟩
variable{a:Int}
theorem eD(h:0<=a):OB a (2^k-1)=a%2^k:=by
 refine ae (MX h) λm z3=>?_;obtain rfl:=z3;have e:((2:Int)^k-1)=((2^k-1:Nat):Int):=by have:1<=2^k:=SS;rw[Int.ofNat_sub this];simp
 rw[e];unfold OB;simp only[show M3 ((0:Int)<=(m:Int))=Mj from by simp,show M3 ((0:Int)<=((2^k-1:Nat):Int))=Mj from by simp];show(((m:Int).toNat &&& ((2^k-1:Nat):Int).toNat:Nat):Int)=_;rw[MO,MO,Nat.and_two_pow_sub_one_eq_mod];simp
theorem jk(h:0<=a):OB a 1=a%2:=eD (k:=1) h
theorem CM(h:0<=a):OB a 15=a%16:=eD (k:=4) h
theorem oV(h:0<=a):OB a 255=a%256:=eD (k:=8) h
theorem tf(h:0<=a):OB a 16777215=a%16777216:=eD (k:=24) h
theorem pM(ha:0<=a)(hb:0<=b)(h:b<2^k):Oc (a*2^k) b=a*2^k+b:=by
 refine ae (MX ha) λm z2=>?_;obtain rfl:=z2;refine ae (MX hb) λl z1=>?_;obtain rfl:=z1;have hl:l<2^k:=by
  have:((2^k:Nat):Int)=2^k:=by simp
  exact xT h
 have e:((m:Int)*2^k)=((m*2^k:Nat):Int):=by simp
 rw[e];have:Oc ((m*2^k:Nat):Int) (l:Int)=((m*2^k ||| l:Nat):Int):=by
  generalize m*2^k=x;unfold Oc Wf OB;have h1:M3 ((0:Int)<=-(x:Int)-1)=false:=by simp;exact ck 0x860002717c4115 [] [_]
  have h2:M3 ((0:Int)<=-(l:Int)-1)=false:=by simp;exact ck 0x860002717c4115 [] [_]
  simp only[h1,h2];have h3:(-(-(x:Int)-1)-1).toNat=x:=af KU [] [_,_] (MF (ck Lv [] [_]));have h4:(-(-(l:Int)-1)-1).toNat=l:=af KU [] [_,_] (MF (ck Lv [] [_]));show -(-(((-(-(x:Int)-1)-1).toNat ||| (-(-(l:Int)-1)-1).toNat:Nat):Int)-1)-1=_;rw[h3,h4];exact ck 0x100de22f88b98b2a33 [] [_]
 rw[this];have h5:m*2^k ||| l=m*2^k+l:=by rw[QT,Sn hl]
 rw[h5];simp
theorem gn{nx:Nx}{turn:aaJ (List Me)}{D:Loc->Sg->Prop}{R:Me->Sg->Prop}(r:Nat->Option (List Me))(N:Nat)(hs:∀j,j<N->r j≠Mr)(hN:r N=Mr)(I:Nat->Loc->Sg->Prop)(keep:∀j ρ J,I j ρ J->nx j J=Md (r j))(step:∀j vs ρ J (Q':Out->Sg->Prop),r j=Md vs->j<N->I j ρ J->(∀ρ' J',I (j+1) ρ' J'->Q' (.next ρ') J')->(∀ρ' J',I (j+1) ρ' J'->Q' (.WZ ρ') J')->(∀v J',R v J'->Q' (.ret v) J')->turn vs ρ J Q')(hD:∀ρ J,I N ρ J->D ρ J):∀(f j:Nat)(ρ:Loc)(J:Sg),j+f=N+1->j<=N->I j ρ J->sC nx turn D R f j ρ J
 |0,_,_,_,h,h',_=>absurd h (λzz=>fb 0x211421001ea8261f14238265d25 [] [_,_] zz h')
 |f+1,j,ρ,J,e,hj,h=>by
  have k:=keep j ρ J h;cases hr:r j with
  |none=>have:j=N:=O8 λz=>hs j (QJ hj z) hr;subst this;exact .inl ⟨k.trans (congrArg Md hr),hD _ _ h⟩
  |some vs=>
   have hlt:j<N:=QJ hj λz=>by rw[z,hN] at hr;cases hr
   have next:∀ρ' J',I (j+1) ρ' J'->sC nx turn D R f (j+1) ρ' J':=λρ' J' h'=>gn r N hs hN I keep step hD f (j+1) ρ' J' (af KY [] [_,_,_] e) hlt h'
   exact .inr ⟨vs,k.trans (congrArg Md hr),step j vs ρ J _ hr hlt h next next λa a h'=>h'⟩
theorem eX{nx:Nx}{turn:Me->Sg->(Out->Sg->Prop)->Prop}{D:List Me->Sg->Prop}{xs:List Me}(I:Nat->List Me->Sg->Prop)(keep:∀j ws J,I j ws J->nx j J=Md ((xs[j]?).map λv=>[v]))(step:∀j v ws J (Q':Out->Sg->Prop),xs[j]?=Md v->I j ws J->(∀w ρ' J',I (j+1) (ws++[w]) J'->Q' (.val w ρ') J')->(∀ρ' J',I (j+1) ws J'->Q' (.next ρ') J')->turn v J Q')(hD:∀ws J,I xs.length ws J->D ws J):∀(f j:Nat)(ws:List Me)(J:Sg),j+f=xs.length+1->j<=xs.length->I j ws J->kE nx turn D f j ws J
 |0,_,_,_,h,h',_=>absurd h (λzz=>fb 0x211421001ea8261f14238265d25 [] [_,_] zz h')
 |f+1,j,ws,J,e,hj,h=>by
  have k:=keep j ws J h;cases hr:xs[j]? with
  |none=>have:j=xs.length:=Uh hj (Qr.mp hr);subst this;exact .inl ⟨by rw[k,hr];rfl,hD _ _ h⟩
  |some v=>have hlt:=(ML.mp hr).1;exact .inr ⟨v,by rw[k,hr];rfl,step j v ws J _ hr h (λw ρ' J' h'=>eX I keep step hD f (j+1) _ J' (af KY [] [_,_,_] e) hlt h') λρ' J' h'=>eX I keep step hD f (j+1) _ J' (af KY [] [_,_,_] e) hlt h'⟩
variable{l:List Int}
theorem Am{f:Nat->Int}(h:l=(Oi N).map f)(j:Nat):(cW l)[j]?=if j<N then Md (.int (f j) 0) else none:=by
 unfold cW;rw[h,OY,MM];by_cases q:j<N;·rw[Nv q,if_pos q];rfl
 ·rw[M0 (by rw[NK];exact PG.mp q),if_neg q];rfl
variable{a:Ml}{Q:Out->Sg->Prop}
section
variable{E0:Loc}{st:List Me}{k body:T}{c:Nat}{I:Nat->Loc->Sg->Prop}
abbrev Tu(Z:Sys)(n:Nat)(body:T):aaJ (List Me):=λvs ρ J Q'=>exec Z n body vs ρ J Q'
noncomputable def Li(I:Loc->Sg->Prop):Loc->Sg->Prop:=λρ J=>∃E,sJ ρ E/\I E J
noncomputable def IE(I:Loc->Sg->Prop)(E:Loc)(J:Sg):Prop:=∃E0,I E0 J/\Wk E E0
noncomputable def XE(I:Loc->Sg->Prop)(P:Sg->Loc->Prop):Prop:=∀{E J},IE I E J->P J E
theorem XE.of{I:Loc->Sg->Prop}(h:∀ρ J,Li I ρ J->Q (.next ρ) J):XE I (XN Q):=λ⟨_,i,w⟩ ρ r=>h ρ _ ⟨_,w.up r,i⟩
theorem XE.ofC{I:Loc->Sg->Prop}(h:∀ρ J,Li I ρ J->Q (.WZ ρ) J):XE I (XC Q):=λ⟨_,i,w⟩ ρ r=>h ρ _ ⟨_,w.up r,i⟩
theorem ZO{f:Nat->Int}(h:l=(Oi N).map f)(h0:IE (I 0) E J)(step:∀(j:Nat) E J (Q':Out->Sg->Prop),j<N->I j E J->XE (I (j+1)) (XN Q')->XE (I (j+1)) (XC Q')->(∀v J',wr Z n Q K (.ret v) J'->Q' (.ret v) J')->X Z n Q' [] J E [.int (f j) 0] body)(q:∀E J,I N E J->X Z n Q K J E st k)(ρ:Loc)(hr:sJ ρ E):sC (Ax (cW l)) (Tu Z n body) (λρ' J'=>exec Z n k st ρ' J' (wr Z n Q K)) (λv J'=>wr Z n Q K (.ret v) J') (N+1) 0 ρ J:=by
 refine gn (λj=>if j<N then Md [.int (f j) 0] else Mr) N (λj hj=>by rw[if_pos hj];nofun) (if_neg (Rz _)) (λj=>Li (I j)) (λj a a a=>?_) (λj vs ρ J Q' e hj ⟨E,r,h⟩ h1 h2 h3=>?_) (λρ J ⟨E,r,h⟩=>q E J h ρ r) _ 0 ρ J (Oo _) (Nc _) (let ⟨_,i,w⟩:=h0;⟨_,w.up hr,i⟩)
 ·unfold Ax;rw[Am h];by_cases q:j<N;·rw[if_pos q,if_pos q];rfl
  ·rw[if_neg q,if_neg q];rfl
 ·rw[if_pos hj] at e;cases e;exact step j E J Q' hj h (XE.of h1) (XE.ofC h2) h3 ρ r
theorem tc{a:Int}{c:Nat}:aQ a (a+c)=(Oi c).map λj:Nat=>a+(j:Int):=by unfold aQ;rw[show(a+(c:Int)-a).toNat=c from ao 0x42000138420027af05a36e2a29bebc168d6c14d4150f [_] [_,_] (Ni _) (MF (ck 0x2180009ef059f40823 [_] [_]))]
theorem uP{a:Int}{c:Nat}(ha:0<=a)(ha1:a+c<=1000000)(I:Nat->Loc->Sg->Prop)(h:IE (I 0) E J)(step:∀(j:Nat) E J (Q':Out->Sg->Prop),j<c->I j E J->XE (I (j+1)) (XN Q')->(∀v J',wr Z n Q K (.ret v) J'->Q' (.ret v) J')->X Z n Q' [] J E [.int (a+j) 0] body)(q:∀E J,I c E J->X Z n Q K J E st k):X Z n Q K J E (.int (a+c) t::.int a t'::st) (.WA (.rng Mh) body k):=λρ hr=>
 ⟨st,_,_,⟨rfl,⟨sR ha rfl,af 0x218420001ef42401782cf05fe848020821 [_] [_] ha1,af 0x430840003d0202ef05fa1200cd032 [_] [_] ha,ha1⟩,rfl⟩,ZO tc h (λj E J Q' hj hI h1 b h3=>step j E J Q' hj hI h1 h3) q ρ hr⟩
theorem mS(hc:c<=1000000)(I:Nat->Loc->Sg->Prop)(h:IE (I 0) E J)(step:∀(j:Nat) E J (Q':Out->Sg->Prop),j<c->I j E J->XE (I (j+1)) (XN Q')->XE (I (j+1)) (XC Q')->(∀v J',wr Z n Q K (.ret v) J'->Q' (.ret v) J')->X Z n Q' [] J E [.int j 0] body)(q:∀E J,I c E J->X Z n Q K J E st k):X Z n Q K J E (.int (c:Int) t::.int 0 t'::st) (.WA (.rng Mh) body k):=λρ hr=>
 ⟨st,_,_,⟨rfl,⟨Mt _,Mt _,Mt _,nF hc⟩,rfl⟩,ZO (f:=λj=>(j:Int)) (by have:=tc (a:=0) (c:=c);simp only[Sb] at this;exact this) h step q ρ hr⟩
theorem zP(hc:c<=1000000)(I:Nat->Loc->Sg->Prop)(h:IE (I 0) E J)(step:∀(j:Nat) E J (Q':Out->Sg->Prop),j<c->I j E J->XE (I (j+1)) (XN Q')->(∀v J',wr Z n Q K (.ret v) J'->Q' (.ret v) J')->X Z n Q' [] J E [.int j 0] body)(q:∀E J,I c E J->X Z n Q K J E st k):X Z n Q K J E (.int (c:Int) t::.int 0 t'::st) (.WA (.rng Mh) body k):=
 mS hc I h (λj E J Q' hj hI h1 a h3=>step j E J Q' hj hI h1 h3) q
theorem yW(hc:c<=1000)(I:Nat->Loc->Sg->Prop)(h:IE (I c) E J)(step:∀(j:Nat) E J (Q':Out->Sg->Prop),j<c->I (j+1) E J->XE (I j) (XN Q')->(∀v J',wr Z n Q K (.ret v) J'->Q' (.ret v) J')->X Z n Q' [] J E [.int j 0] body)(q:∀E J,I 0 E J->X Z n Q K J E st k):X Z n Q K J E (.int (-1) t::.int ((c:Int)-1) t'::st) (.WA (.rng Mj) body k):=λρ hr=>by
 refine⟨st,_,_,⟨rfl,⟨ck 0x86000271716fa1200cd035 [] [_],af 0x1080004fe8104c63d090045c5a9032 [] [_] hc,Mt _,Mt _⟩,rfl⟩,ZO (N:=c) (f:=λj=>(c:Int)-1-j) (I:=λj E J=>I (c-j) E J) ?_ h (λj E J Q' hj hI h1 a h3=>?_) (λE J hI=>q E J (by rw[Nr] at hI;exact hI)) ρ hr⟩;·show eH _ _=_;unfold eH;rw[show((c:Int)-1 - -1).toNat=c from ao 0x1080004e108009c68ae3d52dc546578d15c7aa5901954150f [] [_,_] (Ni _) (MF (ck 0x43000138d1716a54082c [] [_]))]
 ·have:=step (c-(j+1)) E J Q' (af 0x432840003d51215c13769554140f [] [_,_,_] (Mf (af KB [] [_,_] hj))) (by rw[show c-(j+1)+1=c-j from ao 0x422842003d08e10000f6a54234a906a242b826ed2ba88267d1c [] [_,_,_,_] (Mf (af KB [] [_,_] hj)) (Mf (af Kx [] [_,_] hj))];exact hI) h1 h3;rw[show((c-(j+1):Nat):Int)=(c:Int)-1-j from af 0x4210013840002751215c1376954bc571ea96e2a33 [] [_,_,_] (Mf (af KB [] [_,_] hj))] at this;exact this
theorem xr{sel:Cell->Option (List Me)}(hI:IE (I 0) E J)(keep:∀j E J,I j E J->(J a).bind sel=Md xs)(step:∀j v E J (Q':Out->Sg->Prop),xs[j]?=Md v->I j E J->XE (I (j+1)) (XN Q')->XE (I (j+1)) (XC Q')->(∀v J',wr Z n Q K (.ret v) J'->Q' (.ret v) J')->X Z n Q' [] J E [v] body)(q:∀E J,I xs.length E J->X Z n Q K J E st k)(ρ:Loc)(hr:sJ ρ E):sC (rS sel a) (Tu Z n body) (λρ' J'=>exec Z n k st ρ' J' (wr Z n Q K)) (λv J'=>wr Z n Q K (.ret v) J') (xs.length+1) 0 ρ J:=by refine gn (λj=>(xs[j]?).map λv=>[v]) xs.length (λj hj=>by rw[MH hj];nofun) (by rw[M0 (MD _)];rfl) (λj=>Li (I j)) (λj ρ J ⟨E,r,h⟩=>by unfold rS;rw[keep j E J h];rfl) (λj vs ρ J Q' e _ ⟨E,r,h⟩ h1 h2 h3=>?_) (λρ J ⟨E,r,h⟩=>q E J h ρ r) _ 0 ρ J (Oo _) (Nc _) (let ⟨_,i,w⟩:=hI;⟨_,w.up hr,i⟩);refine ae (MQ.mp e) λv z1=>?_;obtain⟨hv,rfl⟩:=z1;exact step j v E J Q' hv h (XE.of h1) (XE.ofC h2) h3 ρ r
theorem uK(I:Nat->Loc->Sg->Prop)(hI:IE (I 0) E J)(keep:∀j E J,I j E J->J a=Md (.list xs))(step:∀j v E J (Q':Out->Sg->Prop),xs[j]?=Md v->I j E J->XE (I (j+1)) (XN Q')->XE (I (j+1)) (XC Q')->(∀v J',wr Z n Q K (.ret v) J'->Q' (.ret v) J')->X Z n Q' [] J E [v] body)(q:∀E J,I xs.length E J->X Z n Q K J E st k):X Z n Q K J E (.ref a::st) (.WA .seq body k):=λρ hr=>
 ⟨st,_,_,⟨rfl,.inl ⟨⟨xs,let ⟨_,i,_⟩:=hI;keep _ _ _ i⟩,rfl⟩⟩,xr hI (λj E J h=>by rw[keep j E J h];rfl) step q ρ hr⟩
theorem wm(I:Nat->Loc->Sg->Prop)(hI:IE (I 0) E J)(keep:∀j E J,I j E J->J a=Md (.tup xs))(step:∀j v E J (Q':Out->Sg->Prop),xs[j]?=Md v->I j E J->XE (I (j+1)) (XN Q')->XE (I (j+1)) (XC Q')->(∀v J',wr Z n Q K (.ret v) J'->Q' (.ret v) J')->X Z n Q' [] J E [v] body)(q:∀E J,I xs.length E J->X Z n Q K J E st k):X Z n Q K J E (.ref a::st) (.WA .seq body k):=λρ hr=>
 ⟨st,_,_,⟨rfl,.inr ⟨⟨xs,let ⟨_,i,_⟩:=hI;keep _ _ _ i⟩,rfl⟩⟩,xr hI (λj E J h=>by rw[keep j E J h];rfl) step q ρ hr⟩
theorem Bk{m:List (Int×Me)}(I:List (Int×Me)->Loc->Sg->Prop)(h0:IE (I m) E J)(keep:∀l E J,I l E J->J a=Md (.W9 m))(step:∀p r E J (Q':Out->Sg->Prop),I (p::r) E J->XE (I r) (XN Q')->X Z n Q' [] J E [.int p.1 0] body)(q:∀E J,I [] E J->X Z n Q K J E st k):X Z n Q K J E (.ref a::st) (.WA .keys body k):=λρ hr=>by
 refine⟨st,_,m.length+1,⟨rfl,m,(let ⟨_,i,_⟩:=h0;keep _ _ _ i),rfl⟩,gn (λj=>(m[j]?).map λp=>[.int p.1 0]) m.length (λj hj=>by rw[MH hj];nofun) (by rw[M0 (MD _)];rfl) (λj=>Li (I (m.drop j)))
  (λj ρ J ⟨E,r,h⟩=>by unfold CJ;rw[keep _ E J h];exact if_pos rfl) (λj vs ρ J Q' e hj ⟨E,r,h⟩ h1 _ _=>?_) (λρ J ⟨E,r,h⟩=>q E J (by rw[TU] at h;exact h) ρ r) _ 0 ρ J (Oo _) (Nc _) (let ⟨_,i,w⟩:=h0;⟨_,w.up hr,i⟩)⟩
 rw[MH hj] at e;rw[<-MJ e];rw[Oh hj] at h;exact step _ _ E J Q' h (XE.of h1) ρ r
theorem wJ{m:Nat}{hd:Nat->List Me}(hm:take? m ((as.map MK).reverse++st)=Md (as.map MK,st))(I:Nat->Loc->Sg->Prop)(h0:IE (I 0) E J)(keep:∀j E J,I j E J->uJ as j J=Md (if j<N then Md (hd j) else Mr))(step:∀j E J (Q':Out->Sg->Prop),j<N->I j E J->XE (I (j+1)) (XN Q')->(∀v J',wr Z n Q K (.ret v) J'->Q' (.ret v) J')->X Z n Q' [] J E (hd j) body)(q:∀E J,I N E J->X Z n Q K J E st k):X Z n Q K J E ((as.map MK).reverse++st) (.WA (.zip m) body k):=λρ hr=>
 ⟨st,_,N+1,⟨as,hm,rfl⟩,gn _ N (λj hj=>by rw[if_pos hj];nofun) (if_neg (Rz _)) (λj=>Li (I j)) (λj ρ J ⟨E,r,h⟩=>keep j E J h) (λj vs ρ J Q' e hj ⟨E,r,h⟩ h1 _ h3=>by rw[if_pos hj] at e;cases e;exact step j E J Q' hj h (XE.of h1) h3 ρ r) (λρ J ⟨E,r,h⟩=>q E J h ρ r) _ 0 ρ J (Oo _) (Nc _) (let ⟨_,i,w⟩:=h0;⟨_,w.up hr,i⟩)⟩
theorem lB:sJ ρ ρ:=λa a h=>h
theorem fk(I:Nat->List Me->Sg->Prop)(h0:I 0 [] J)(keep:∀j ws J,I j ws J->J a=Md (.list xs))(hl:xs.length<=100000)(step:∀j v ws J (Q':Out->Sg->Prop),xs[j]?=Md v->I j ws J->(∀w E J',I (j+1) (ws++[w]) J'->XV Q' J' E w)->(∀E J',I (j+1) ws J'->XN Q' J' E)->X Z n Q' [] J [(c,v)] [] body)(q:∀ws J' x,I xs.length ws J'->J' x=Mr->X Z n Q K (upd J' x (.list ws)) E (.ref x::st) k):X Z n Q K J E (.ref a::st) (.Xo Mh c body k):=λρ hr=>
 ⟨st,_,xs.length+1,Rh hl,⟨rfl,.inl ⟨⟨xs,keep _ _ _ h0⟩,rfl⟩⟩,eX I (λj ws J h=>by unfold rS;rw[keep j ws J h];rfl) (λj v ws J Q' e h h1 h2=>step j v ws J Q' e h (λw b J' i ρ' b=>h1 w ρ' J' i) (λb J' i ρ' b=>h2 ρ' J' i) _ lB) (λws J h x hx=>q ws J x h hx ρ hr) _ 0 [] J (Oo _) (Nc _) h0⟩
theorem qG(hk:Z.kl a=Md xs)(I:Nat->List Me->Sg->Prop)(h0:I 0 [] J)(hl:xs.length<=100000)(step:∀j v ws J (Q':Out->Sg->Prop),xs[j]?=Md v->I j ws J->(∀w E J',I (j+1) (ws++[w]) J'->XV Q' J' E w)->(∀E J',I (j+1) ws J'->XN Q' J' E)->X Z n Q' [] J [(c,v)] [] body)(q:∀ws J' x,I xs.length ws J'->J' x=Mr->X Z n Q K (upd J' x (.list ws)) E (.ref x::st) k):X Z n Q K J E (.ref a::st) (.Xo Mh c body k):=λρ hr=>
 ⟨st,_,xs.length+1,Rh hl,⟨rfl,.inr ⟨xs,hk,rfl⟩⟩,eX I (λj b b b=>rfl) (λj v ws J Q' e h h1 h2=>step j v ws J Q' e h (λw b J' i ρ' b=>h1 w ρ' J' i) (λb J' i ρ' b=>h2 ρ' J' i) _ lB) (λws J h x hx=>q ws J x h hx ρ hr) _ 0 [] J (Oo _) (Nc _) h0⟩
theorem D8{turn:Loc->Sg->(Out->Sg->Prop)->Prop}{D:Loc->Sg->Prop}{R:Me->Sg->Prop}(I:Nat->Loc->Sg->Prop)(step:∀m ρ J (Q':Out->Sg->Prop),I m ρ J->(∀m',m' < m->∀ρ' J',I m' ρ' J'->Q' (.next ρ') J')->(∀ρ' J',D ρ' J'->Q' (.brk ρ') J')->(∀v J',R v J'->Q' (.ret v) J')->turn ρ J Q'):∀(f m:Nat)(ρ:Loc)(J:Sg),m<f->I m ρ J->zp turn D R f ρ J
 |0,m,_,_,h,_=>absurd h (Qz m)
 |f+1,m,ρ,J,_,h=>step m ρ J _ h (λm' hm ρ' J' h'=>D8 I step f m' ρ' J' (by lia) h') (λa a h'=>h') λa a h'=>h'
theorem x6{m:Nat}(I:Nat->Loc->Sg->Prop)(D:Loc->Sg->Prop)(h:IE (I m) E J)(step:∀m E J (Q':Out->Sg->Prop),I m E J->(∀m',m' < m->XE (I m') (XN Q'))->XE D (XB Q')->(∀v J',wr Z n Q K (.ret v) J'->Q' (.ret v) J')->X Z n Q' [] J E [] body)(q:∀E J,D E J->X Z n Q K J E st k):X Z n Q K J E st (.whl body k):=λρ hr=>
 ⟨m+1,D8 (D:=λρ' J'=>exec Z n k st ρ' J' (wr Z n Q K)) (R:=λv J'=>wr Z n Q K (.ret v) J') (λj=>Li (I j)) (λm ρ J Q' ⟨E,r,hI⟩ h1 h2 h3=>step m E J Q' hI (λm' hm=>XE.of (h1 m' hm)) (λ⟨_,i,w⟩ ρ' r'=>h2 ρ' _ (q _ _ i _ (w.up r'))) h3 ρ r) (m+1) m ρ J (Na m) (let ⟨_,i,w⟩:=h;⟨_,w.up hr,i⟩)⟩
end
section
variable{P:Me->Sg->Prop}
theorem pR{d:Nat}(h0:0<=j)(h1:j<2^63):end? (.int j t) d=Md j.toNat:=if_pos ⟨h0,h1⟩
theorem sF{len:Nat}(h0:0<=j)(h1:j<2^63):cut .none (.int j t) len=Md (0,j.toNat):=by unfold cut;rw[pR h0 h1];rfl
theorem qv{len:Nat}(h0:0<=j)(h1:j<2^63):cut (.int j t) .none len=Md (j.toNat,len):=by unfold cut;rw[pR h0 h1];rfl
theorem y8{len:Nat}(h0:0<=i)(h1:i<2^63)(h2:0<=j)(h3:j<2^63):cut (.int i t') (.int j t) len=Md (i.toNat,j.toNat):=by unfold cut;rw[pR h0 h1,pR h2 h3];rfl
theorem av(h:J a=Md (.list xs))(h0:0<=j)(h1:j<2^63)(e:xs[j.toNat]?=Md v)(q:P v J):fy Z n J P (.ref a) (.int j t):=.list h h0 h1 e q
theorem lx(h:J a=Md (.list xs))(h0:j<0)(h2:-(2^63)<=j)(h1:0<=j+xs.length)(e:xs[(j+xs.length).toNat]?=Md v)(q:P v J):fy Z n J P (.ref a) (.int j t):=.neg h h0 h2 h1 e q
theorem am(h:J a=Md (.tup xs))(h0:0<=j)(h1:j<2^63)(e:xs[j.toNat]?=Md v)(q:P v J):fy Z n J P (.ref a) (.int j t):=.tup h h0 h1 e q
theorem xq{u:UInt8}(h:J a=Md (.WK bs))(h0:0<=j)(h1:j<2^63)(e:bs[j.toNat]?=Md u)(q:P (.int u.toNat 0) J):fy Z n J P (.ref a) (.int j t):=.WK h h0 h1 e q
theorem YG(h:J a=Md (.list xs))(h1:xs.length<=1000000)(q:P (.int xs.length 0) J):gR Z n J P (.ref a):=.list h h1 q
theorem jy(h:J a=Md (.tup xs))(h1:xs.length<=1000000)(q:P (.int xs.length 0) J):gR Z n J P (.ref a):=.tup h h1 q
theorem qh(h:J a=Md (.WK bs))(h1:bs.length<=1000000)(q:P (.int bs.length 0) J):gR Z n J P (.ref a):=.WK h h1 q
theorem Y8{P:Sg->Prop}(h:J a=Md (.list xs))(h0:0<=j)(h1:j<xs.length)(h2:xs.length<=1000000)(q:P (upd J a (.list (xs.set j.toNat v)))):k8 Z n J P (.ref a) (.int j t) v:=.list h h0 h1 h2 q
end
variable{st0:List Me}
section
variable{st:List Me}{k:T}
theorem nM(q:X Z n Q K J E st k):X Z n Q (.sq st k::K) J E st' .Wz:=q
theorem iB{r r':Bool}(h:sM J u v r)(e:(if ng then !r else r)=r')(q:X Z n Q K J E (.bool r'::st) k):X Z n Q K J E (v::u::st) (.eqv ng k):=λρ hr=>⟨r,h,e▸q ρ hr⟩
theorem DF{A:T}(P:Me->Loc->Sg->Prop)(h:∀Q',(∀{v E J},(∃E',P v E' J/\Wk E E')->XV Q' J E v)->X Z n Q' [] J E st A)(q:∀v E J,P v E J->X Z n Q K J E (v::st0) k):X Z n Q (.bk st0 k::K) J E st A:=λρ hr=>
 h (Ft λv ρ J=>exec Z n k (v::st0) ρ J (wr Z n Q K)) (λ⟨E',p,w⟩ ρ' hr'=>q _ E' _ p ρ' (w.up hr')) ρ hr
theorem xI{A:T}(P:Loc->Sg->Prop)(h:∀Q',XE P (XN Q')->(∀v J',wr Z n Q K (.ret v) J'->Q' (.ret v) J')->(∀{E J},XB (wr Z n Q K) J E->XB Q' J E)->(∀{E J},XC (wr Z n Q K) J E->XC Q' J E)->X Z n Q' [] J E st A)(q:∀E J,P E J->X Z n Q K J E st0 k):X Z n Q (.sq st0 k::K) J E st A:=λρ hr=>
 h (CU (λρ J=>exec Z n k st0 ρ J (wr Z n Q K)) (wr Z n Q K)) (λ⟨E',p,w⟩ ρ' hr'=>q E' _ p ρ' (w.up hr')) (λa a z=>z) (λz=>z) (λz=>z) ρ hr
theorem Dy{A:T}(v:Me)(R:Loc)(S:Sg)(h:∀Q',(∀{E},Wk E R->XV Q' S E v)->X Z n Q' [] J E st A)(q:X Z n Q K S R (v::st0) k):X Z n Q (.bk st0 k::K) J E st A:=λρ hr=>
 h (Ft λv ρ J=>exec Z n k (v::st0) ρ J (wr Z n Q K)) (λw ρ' hr'=>q ρ' (w.up hr')) ρ hr
theorem Hu{A:T}(R:Loc)(P:Sg->Prop)(h:∀Q',(∀{E J},P J->Wk E R->XN Q' J E)->(∀v J',wr Z n Q K (.ret v) J'->Q' (.ret v) J')->X Z n Q' [] J E st A)(q:∀J,P J->X Z n Q K J R st0 k):X Z n Q (.sq st0 k::K) J E st A:=λρ hr=>
 h (CU (λρ J=>exec Z n k st0 ρ J (wr Z n Q K)) (wr Z n Q K)) (λp w ρ' hr'=>q _ p ρ' (w.up hr')) (λa a z=>z) ρ hr
theorem Fq{A:T}(R:Loc)(S:Sg)(h:∀Q',(∀{E},Wk E R->XN Q' S E)->(∀v J',wr Z n Q K (.ret v) J'->Q' (.ret v) J')->X Z n Q' [] J E st A)(q:X Z n Q K S R st0 k):X Z n Q (.sq st0 k::K) J E st A:=λρ hr=>
 h (CU (λρ J=>exec Z n k st0 ρ J (wr Z n Q K)) (wr Z n Q K)) (λw ρ' hr'=>q ρ' (w.up hr')) (λa a z=>z) ρ hr
end
variable{Q':Out->Sg->Prop}
section
variable{st:List Me}{k body:T}{c:Nat}{γ:Type}
inductive G3(R:α->β->γ->Loc)(I:α->β->γ->Sg->Prop)(E:Loc)(J:Sg):Prop
 |mk (a:α) (b:β) (c:γ) (e:E=R a b c) (i:I a b c J)
noncomputable def XG(R:α->β->γ->Loc)(I:α->β->γ->Sg->Prop)(Q':Out->Sg->Prop):Prop:=∀a b c {E J},I a b c J->Wk E (R a b c)->XN Q' J E
theorem G3.ie{R:α->β->γ->Loc}{I:α->β->γ->Sg->Prop}{a:α}{b:β}{c:γ}(h:I a b c J)(w:Wk E (R a b c)):IE (G3 R I) E J:=⟨_,⟨a,b,c,rfl,h⟩,w⟩
@[elab_as_elim]theorem G3.at{R:α->β->γ->Loc}{I:α->β->γ->Sg->Prop}{P:Loc->Prop}(h:G3 R I E J)(q:∀a b c,I a b c J->P (R a b c)):P E:=by cases h with|mk a b c e i=>subst e;exact q a b c i
theorem XG.of{R:α->β->γ->Loc}{I:α->β->γ->Sg->Prop}(h:XE (G3 R I) (XN Q')):XG R I Q':=λa a a a a i w=>h (G3.ie i w)
variable(R:α->β->γ->Loc)(I:Nat->α->β->γ->Sg->Prop)(v0:α)(v1:β)(v2:γ)
theorem lh(hc:c<=1000)(h:I c v0 v1 v2 J)(w:Wk E (R v0 v1 v2))(step:∀(j:Nat) u0 u1 u2 J (Q':Out->Sg->Prop),j<c->I (j+1) u0 u1 u2 J->XG R (I j) Q'->(∀v J',wr Z n Q K (.ret v) J'->Q' (.ret v) J')->X Z n Q' [] J (R u0 u1 u2) [.int j 0] body)(q:∀u0 u1 u2 J,I 0 u0 u1 u2 J->X Z n Q K J (R u0 u1 u2) st k):X Z n Q K J E (.int (-1) t::.int ((c:Int)-1) t'::st) (.WA (.rng Mj) body k):=
 yW hc (λj=>G3 R (I j)) (G3.ie h w) (λj a J Q' hj i h1 h3=>G3.at i λu0 u1 u2 i=>step j u0 u1 u2 J Q' hj i (.of h1) h3) λa J i=>G3.at i λu0 u1 u2 i=>q u0 u1 u2 J i
theorem fj(hc:c<=1000000)(h:I 0 v0 v1 v2 J)(w:Wk E (R v0 v1 v2))(step:∀(j:Nat) u0 u1 u2 J (Q':Out->Sg->Prop),j<c->I j u0 u1 u2 J->XG R (I (j+1)) Q'->(∀v J',wr Z n Q K (.ret v) J'->Q' (.ret v) J')->X Z n Q' [] J (R u0 u1 u2) [.int j 0] body)(q:∀u0 u1 u2 J,I c u0 u1 u2 J->X Z n Q K J (R u0 u1 u2) st k):X Z n Q K J E (.int (c:Int) t::.int 0 t'::st) (.WA (.rng Mh) body k):=
 zP hc (λj=>G3 R (I j)) (G3.ie h w) (λj a J Q' hj i h1 h3=>G3.at i λu0 u1 u2 i=>step j u0 u1 u2 J Q' hj i (.of h1) h3) λa J i=>G3.at i λu0 u1 u2 i=>q u0 u1 u2 J i
theorem eL(h:I 0 v0 v1 v2 J)(w:Wk E (R v0 v1 v2))(keep:∀j u0 u1 u2 J,I j u0 u1 u2 J->J a=Md (.list xs))(step:∀j v u0 u1 u2 J (Q':Out->Sg->Prop),xs[j]?=Md v->I j u0 u1 u2 J->XG R (I (j+1)) Q'->(∀v J',wr Z n Q K (.ret v) J'->Q' (.ret v) J')->X Z n Q' [] J (R u0 u1 u2) [v] body)(q:∀u0 u1 u2 J,I xs.length u0 u1 u2 J->X Z n Q K J (R u0 u1 u2) st k):X Z n Q K J E (.ref a::st) (.WA .seq body k):=
 uK (λj=>G3 R (I j)) (G3.ie h w) (λj b J i=>G3.at i λu0 u1 u2 i=>keep j u0 u1 u2 J i) (λj v b J Q' e i h1 b h3=>G3.at i λu0 u1 u2 i=>step j v u0 u1 u2 J Q' e i (.of h1) h3) λb J i=>G3.at i λu0 u1 u2 i=>q u0 u1 u2 J i
theorem xA(hc:c<=1000000)(h:I 0 v0 v1 v2 J)(w:Wk E (R v0 v1 v2))(step:∀(j:Nat) u0 u1 u2 J (Q':Out->Sg->Prop),j<c->I j u0 u1 u2 J->XG R (I (j+1)) Q'->(∀a b c {E J},I (j+1) a b c J->Wk E (R a b c)->XC Q' J E)->X Z n Q' [] J (R u0 u1 u2) [.int j 0] body)(q:∀u0 u1 u2 J,I c u0 u1 u2 J->X Z n Q K J (R u0 u1 u2) st k):X Z n Q K J E (.int (c:Int) t::.int 0 t'::st) (.WA (.rng Mh) body k):=
 mS hc (λj=>G3 R (I j)) (G3.ie h w) (λj d J Q' hj i h1 h2 d=>G3.at i λu0 u1 u2 i=>step j u0 u1 u2 J Q' hj i (.of h1) λd d d d d i w=>h2 (G3.ie i w)) λd J i=>G3.at i λu0 u1 u2 i=>q u0 u1 u2 J i
@[elab_as_elim]theorem c2{R E':Loc}{P:Loc->Sg->Prop}(h:And (J'=J) (E'=R))(p:P R J):P E' J':=by rw[h.1,h.2];exact p
theorem qC(R:Loc)(hx:J a=Md (.tup xs))(w:Wk E R)(step:∀(j:Nat) v (Q':Out->Sg->Prop),xs[j]?=Md v->(∀{E},Wk E R->XN Q' J E)->X Z n Q' [] J R [v] body)(q:X Z n Q K J R st k):X Z n Q K J E (.ref a::st) (.WA .seq body k):=
 wm (λb E' J'=>And (J'=J) (E'=R)) ⟨_,⟨rfl,rfl⟩,w⟩ (λb b b h=>h.1▸hx) (λj v b b Q' e h h1 b b=>c2 h (step j v Q' e λw=>h1 ⟨_,⟨rfl,rfl⟩,w⟩)) λb b h=>c2 h q
theorem uq{a:Int}(R:Loc)(ha:0<=a)(ha1:a+c<=1000000)(w:Wk E R)(step:∀(j:Nat)(Q':Out->Sg->Prop),j<c->(∀{E},Wk E R->XN Q' J E)->(∀v J',wr Z n Q K (.ret v) J'->Q' (.ret v) J')->X Z n Q' [] J R [.int (a+j) 0] body)(q:X Z n Q K J R st k):X Z n Q K J E (.int (a+c) t::.int a t'::st) (.WA (.rng Mh) body k):=
 uP ha ha1 (λb E' J'=>And (J'=J) (E'=R)) ⟨_,⟨rfl,rfl⟩,w⟩ (λj b b Q' e h h1 h3=>c2 h (step j Q' e (λw=>h1 ⟨_,⟨rfl,rfl⟩,w⟩) h3)) λb b h=>c2 h q
end
variable{j:Nat}
theorem Eg{P:α->Prop}{a b c:α}(h0:P a)(h1:P b)(h2:P c){v:α}(h:[a,b,c][j]?=Md v):P v:=
 UM.mpr ⟨h0,UM.mpr ⟨h1,List.forall_mem_singleton.mpr h2⟩⟩ v (MP h)
theorem G5(f:Nat->α){v:α}(h:((Oi n).map f)[j]?=Md v):j<n/\v=f j:=by
 rw[MM] at h;by_cases q:j<n;·rw[Nv q] at h;exact⟨q,(MJ h).symm⟩
 ·rw[M0 (by rw[NK];exact PG.mp q)] at h;cases h
structure ES where
 made:List UInt8
 low:Int
 span:Int
 cache:Int
 held:Int
noncomputable def u8(x:Int):UInt8:=PB x.toNat
noncomputable def ES.put(e:ES):ES:=if e.low<4278190080∨4294967296<=e.low then
  {e with made:=e.made++[u8 ((e.cache+e.low/4294967296)%256)]++M9 (e.held-1).toNat (u8 ((255+e.low/4294967296)%256)),cache:=e.low/16777216%256,held:=0} else e
noncomputable def ES.WB(e:ES):ES:={e.put with held:=e.put.held+1,low:=e.low%16777216*256}
noncomputable def ES.fill(e:ES):ES:=if e.span<16777216 then ES.WB {e with span:=e.span*256} else e
structure ES.Wk(k:Nat)(e:ES):Prop where
 low0:0<=e.low
 Z3:0<=e.span
 aaQ:e.span<4294967296
 aaf:0<=e.cache
 aa7:e.cache<256
 held:1<=e.held
 Wm:e.made.length+e.held<=k+1
structure ES.Ok(k:Nat)(e:ES):Prop extends ES.Wk k e where
 low1:e.low+e.span<=8589934592
variable{e:ES}
theorem ES.Wk.WB(h:e.Wk k):e.WB.Ok (k+1):=by obtain⟨h1,h3,h4,h5,h6,h7,h8⟩:=h;unfold ES.WB ES.put;split<;>refine⟨⟨?_,?_,?_,?_,?_,?_,?_⟩,?_⟩<;>simp only[MI,NX,Nh]<;>lia
theorem ES.Ok.le{l:Nat}(h:e.Ok k)(hl:k<=l):e.Ok l:=⟨⟨h.low0,h.Z3,h.aaQ,h.aaf,h.aa7,h.held,by have:=h.Wm;exact ao 0x108610000f44b90f7159e0b6a42b128ae3bdc56782c [_] [_,_,_] hl this⟩,h.low1⟩
noncomputable def ES.pre(e:ES)(m b:Int):ES:=if b=0 then{e with span:=e.span/2048*m} else{e with low:=e.low+e.span/2048*m,span:=e.span-e.span/2048*m}
noncomputable def ES.WE(e:ES)(b:Int):ES:=if b=1 then{e with low:=e.low+e.span/2,span:=e.span/2} else{e with span:=e.span/2}
noncomputable def ES.bit(e:ES)(m b:Int):ES:=(e.pre m b).fill
noncomputable def ES.dir(e:ES)(b:Int):ES:=(e.WE b).fill
theorem i7{s m:Int}(hs:0<=s)(h0:0<=m)(h1:m<=2048):0<=s/2048*m/\s/2048*m<=s:=by have h:0<=s/2048:=D9 hs rfl;refine⟨Int.mul_nonneg h h0,?_⟩;have:=Nt h1 h;exact ao 0x108610000f4c60001f1d055000222c8209e6080e [_,_,_] [] this (FI _ rfl)
theorem ES.Ok.pre(h:e.Ok k){m:Int}(h0:0<=m)(h1:m<=2048):(e.pre m b).Ok k:=by obtain⟨⟨q1,q3,q4,q5,q6,q7,q8⟩,q2⟩:=h;have p1:=(i7 q3 h0 h1).1;have p2:=(i7 q3 h0 h1).2;unfold ES.pre;split<;>refine⟨⟨?_,?_,?_,?_,?_,?_,?_⟩,?_⟩<;>dsimp only<;>lia
theorem ES.Ok.WE(h:e.Ok k):(e.WE b).Ok k:=by obtain⟨⟨q1,q3,q4,q5,q6,q7,q8⟩,q2⟩:=h;unfold ES.WE;split<;>refine⟨⟨?_,?_,?_,?_,?_,?_,?_⟩,?_⟩<;>dsimp only<;>lia
theorem ES.Ok.wide(h:e.Ok k)(q:e.span<16777216):ES.Wk k {e with span:=e.span*256}:=by obtain⟨⟨q1,q3,q4,q5,q6,q7,q8⟩,q2⟩:=h;refine⟨?_,?_,?_,?_,?_,?_,?_⟩<;>dsimp only<;>lia
theorem ES.Ok.fill(h:e.Ok k):e.fill.Ok (k+1):=by
 unfold ES.fill;split;·rename_i q;exact(h.wide q).WB
 ·exact h.le (Qf k)
noncomputable def F5(b:Ml)(e:ES)(cl:Bool):Cell:=.Wv 1095 [(JJ,.ref b),(LD,.int e.low 0),(JE,.int e.span 0),(JG,.int e.cache 0),(JI,.int e.held 0),(JH,.bool cl)]
inductive vw(J:Sg)(w b:Ml)(e:ES)(cl:Bool):Prop where
 |mk (w:J w=Md (F5 b e cl))
  (b:J b=Md (.WK e.made))
variable{b w:Ml}
section
variable{cl:Bool}
theorem qI(G:Good Z Kg)(hn:0<n)(S:Sub H J)(hw:H w=Mr)(hb:H b=Mr)(W:vw J w b e cl)(ok:e.Wk k)(hk:k<=900):ac Z n (.ref 1036) [.ref w] J (λv J'=>v=.none/\Sub H J'/\vw J' w b e.WB cl):=by
 have hwb:w≠b:=mn W.1 W.2 rfl;have hbw:=hwb.symm;refine run G hn ?_;have W1:=W.1;have W2:=W.2;lk;refine bQ (λh=>?a) (λh=>?b);case' b=>
  lk
  refine wT (λh'=>?c) (λh'=>?d)
 case d=>
  lk
  rw[show(16777216-1:Int)=16777215 from rfl,tf ok.low0]
  lk
  rw[Dh]
  refine⟨rfl,S.upd hw _,?_,?_⟩
  ·refine(aa _ _ _).trans ?_;unfold ES.WB ES.put;rw[if_neg (by lia)];rfl
  ·refine(ag _ _ hbw).trans (W2.trans ?_);unfold ES.WB ES.put;rw[if_neg (by lia)]
 case' a=>replace h:e.low<4278190080∨4294967296<=e.low:=.inl h
 case' c=>replace h:e.low<4278190080∨4294967296<=e.low:=.inr h'
 all_goals
  have hz:=ok.Wm
  have hh:=ok.held
  have hl0:=ok.low0
  have hc0:0<=e.cache+e.low/4294967296:=by have:=ok.aaf;lia
  have hc1:0<=255+e.low/4294967296:=by lia
  lk
  rw[Ga,oV hc0]
  refine mh W2 (ao 0x1084004e100009c004122d0202e002098105f2a [_] [] (vp _ rfl) (C5 _ rfl)) (aS 0x845086100014e0401d15c77b8acf059c20a118d61a804131f [_] [_,_] hk hz hh) ?_
  lk
  rw[oV hc1]
  intro x hx
  have hxw:x≠w:=El hx ((ag _ _ hwb).trans W1)
  have hxb:x≠b:=λz=>by rw[z,aa] at hx;cases hx
  have hwx:=hxw.symm
  have hbx:=hxb.symm
  refine mq ?_ (aa _ _ _) (mC (ao 0x1084004e100009c004122d0202e002098105f2a [_] [] (vp _ rfl) (C5 _ rfl))) (MG rfl)
  lk
  refine Bo ?_ (aS 0x43184308000a6110009e0401d1715eb8ed1059c2082631f408834e1106810c745 [_] [_,_] hk hz hh)
  lk
  refine xL ((ag _ _ hbx).trans (aa _ _ _)) (by simp;exact iX 0x1092114218400069aa118975c842512e43dc56782de1048563786a015104cf6e339 [_] [_,_,_,_] hk hz (MF (af 0x8400027810074080b [_] [] hh)) (V9 _ _)) ?_
  lk
  rw[Gp,oV (by lia)]
  lk
  rw[show(16777216-1:Int)=16777215 from rfl,tf (by lia)]
  lk
  rw[Dh]
  refine⟨rfl,(((S.upd hb _).upd ((S.upd hb _).none hx) _).upd hb _).upd hw _,?_,?_⟩
  ·refine(aa _ _ _).trans ?_;unfold ES.WB ES.put;rw[if_pos h];rfl
  ·refine(ag _ _ hbw).trans ((aa _ _ _).trans ?_);unfold ES.WB ES.put;rw[if_pos h];simp[u8]
theorem iZ(G:Good Z Kg)(hn:0<n)(W:vw J w b e Mh):ac Z n (.ref 1050) [.ref w] J (λv J'=>v=.none/\J=J'):=by have W1:=W.1;refine run G hn ?_;lk;exact⟨rfl,rfl⟩
theorem rK(G:Good Z Kg)(hn:2<=n)(S:Sub H J)(hw:H w=Mr)(hb:H b=Mr)(W:vw J w b e cl)(ok:e.Ok k)(hk:k<=900):ac Z n (.ref 1043) [.ref w] J (λv J'=>v=.none/\Sub H J'/\vw J' w b e.fill cl):=by
 have hwb:w≠b:=mn W.1 W.2 rfl;have W1:=W.1;refine run G (lq hn rfl) ?_;have h0:=ok.Z3;have h1:=ok.aaQ;lk;refine bQ (λh=>?_) (λh=>?_);·lk;rw[Dh];refine(qI G (lp hn rfl) (S.upd hw _) hw hb (e:={e with span:=e.span*256}) (cl:=cl) ⟨aa _ _ _,(ag _ _ hwb.symm).trans W.2⟩ (ok.wide h) hk).XS λJ' S1 W'=>?_;lk;exact⟨rfl,S1,by unfold ES.fill;rw[if_pos h];exact W'⟩
 ·lk;exact⟨rfl,S,by unfold ES.fill;rw[if_neg h];exact W⟩
theorem Row.upd{len:Nat}(R:Row J r d len f){c:Cell}(hr:r≠a)(hd:d≠a):Row (Internal.upd J a c) r d len f:=by
 rcases R with⟨rfl,xs,e,hl,hx⟩|⟨e,m,em,hm⟩;·exact .inl ⟨rfl,xs,(ag _ _ hr).trans e,hl,hx⟩
 ·exact .inr ⟨(ag _ _ hr).trans e,m,(ag _ _ hd).trans em,hm⟩
theorem Row.neI{len:Nat}(R:Row J r d len f){C:Nat}(h:J a=Md (.Wv C fs))(hC:C≠159):r≠a/\d≠a:=by
 rcases R with⟨rfl,xs,e,hl,hx⟩|⟨e,m,em,hm⟩;·exact An.intro (λz=>by rw[z,h] at e;cases e) (λz=>by rw[z,h] at e;cases e)
 ·exact⟨λz=>by rw[z,h] at e;cases e;exact hC rfl,mn em h rfl⟩
theorem Row.neB{len:Nat}(R:Row J r d len f)(h:J a=Md (.WK bs)):r≠a/\d≠a:=by
 rcases R with⟨rfl,xs,e,hl,hx⟩|⟨e,m,em,hm⟩;·exact An.intro (λz=>by rw[z,h] at e;cases e) (λz=>by rw[z,h] at e;cases e)
 ·exact⟨λz=>(by rw[z,h] at e;cases e),λz=>(by rw[z,h] at em;cases em)⟩
theorem Row.keep{len:Nat}(R:Row J r d len f)(h:∀a c,(a=r∨a=d)->J a=Md c->J' a=Md c):Row J' r d len f:=by
 rcases R with⟨rfl,xs,e,hl,hx⟩|⟨e,m,em,hm⟩;·exact .inl ⟨rfl,xs,h _ _ (.inl rfl) e,hl,hx⟩
 ·exact .inr ⟨h _ _ (.inl rfl) e,m,h _ _ (.inr rfl) em,hm⟩
theorem yR(G:Good Z Kg)(hn:4<=n)(S:Sub H J)(hw:H w=Mr)(hb:H b=Mr)(W:vw J w b e Mh)(ok:e.Ok k)(hk:k<=900){len:Nat}{bit:Int}(R:Row J r d len f)(hr:H r=Mr)(hd:H d=Mr)(i0:0<=i)(i1:i<len)(hlen:len<1000000)(hbit:bit=0∨bit=1)(m0:0<=f i)(m1:f i<=2048):ac Z n (.ref 1057) [.ref w,.ref r,.int i t,.int bit t'] J (λv J'=>v=.none/\Sub H J'/\vw J' w b (e.bit (f i) bit) Mh/\Row J' r d len (put f i (Xv (f i) bit))):=by
 have hwb:w≠b:=mn W.1 W.2 rfl;obtain z2:=R.neI W.1 (by decide);have hrw:=z2.1;have hdw:=z2.2;obtain z1:=R.neB W.2;have hrb:=z1.1;have hdb:=z1.2;have W1:=W.1;have ps:=i7 ok.Z3 m0 m1;refine run G (lq hn rfl) ?_;lk;refine((rL G (lp hn rfl) hbit)).k01 ?_;lk;refine((iZ G (lp hn rfl) W)).k01 ?_;lk;refine R.idx G (lp hn rfl) i0 i1 hlen ?_;lk;rw[DR];have tail:∀J1:Sg,Sub H J1->vw J1 w b (e.pre (f i) bit) Mh->Row J1 r d len f->
   ac Z (n-1) (.ref 916) [.int (f i) 0,.int bit t'] J1 λv J'=>X Z (n-1) (bV (λv J'=>v=.none/\Sub H J'/\vw J' w b (e.bit (f i) bit) Mh/\Row J' r d len (put f i (Xv (f i) bit)))) [] J' [(JM,.ref w),(Jt,.ref r),(JN,.int i t)] [v] (.ld Jt<|.ld JN<|.XF<|.ld JM<|.meth IZ<|.XM 0<|.pop<|.cst .none<|.ret):=by
  clear W1
  intro J1 S1 W1 R1
  refine((iz G (lp hn rfl))).k01 ?_
  lk
  have V1:=W1.1
  have V2:=W1.2
  have hwr:w≠r:=hrw.symm
  refine R1.set G (lp hn rfl) i0 i1 hlen (S1.WU λa=>a=w∨a=b) (ai (λz=>z.elim hrw hrb) hr) (ai (λz=>z.elim hdw hdb) hd) ?_
  intro J2 R2 S3
  have V3:=S3.at (.inl rfl) V1
  have V4:=S3.at (.inr rfl) V2
  have S4:=S1.Xk S3
  lk
  refine(rK G (lp hn rfl) (S4.WU λa=>a=r∨a=d) (ai (λz=>z.elim (λz=>hrw z.symm) (λz=>hdw z.symm)) hw) (ai (λz=>z.elim (λz=>hrb z.symm) (λz=>hdb z.symm)) hb) ⟨V3,V4⟩ (ok.pre m0 m1) hk).XS λJ3 S6 W3=>?_
  lk
  exact⟨rfl,S4.Xk S6,W3,R2.keep λa c h e=>S6.at h e⟩
 have pb:(e.pre (f i) bit).made=e.made:=by unfold ES.pre;split<;>rfl
 refine aH (λh=>?_) (λh=>?_);·lk;refine(tail _ (S.upd hw _) ⟨(aa _ _ _).trans ?_,(ag _ _ hwb.symm).trans (by rw[pb];exact W.2)⟩ (R.upd hrw hdw)).Wr (MD _) λg g q=>fP q rfl;unfold ES.pre;rw[if_pos h];rfl
 ·lk;refine(tail _ (S.upd hw _) ⟨(aa _ _ _).trans ?_,(ag _ _ hwb.symm).trans (by rw[pb];exact W.2)⟩ (R.upd hrw hdw)).Wr (MD _) λg g q=>fP q rfl;unfold ES.pre;rw[if_neg h];rfl
end
structure Rows where
 ra:Nat->Ml
 da:Nat->Ml
 len:Nat->Nat
inductive Rows.Apt(A:Rows):Prop where
 |mk(rr:∀i j,i<18->j<18->i≠j->A.ra i≠A.ra j)
  (rd:∀i j,i<18->j<18->i≠j->A.ra i≠A.da j)
  (dd:∀i j,i<18->j<18->i≠j->A.da i≠A.da j)
  (small:∀j,A.len j<1000000)
noncomputable def vo(C:Nat->Int->Int)(j:Nat)(i v:Int):Nat->Int->Int:=λj'=>if j'=j then put (C j) i v else C j'
noncomputable def oC(C:Nat->Int->Int):Prop:=∀j i,31<=C j i/\C j i<=2017
theorem mj{m b:Int}(h:31<=m/\m<=2017):31<=Xv m b/\Xv m b<=2017:=by obtain⟨h,k⟩:=h;unfold Xv;split<;>constructor<;>lia
variable{v:Int}{C:Nat->Int->Int}
theorem oC.up(h:oC C)(j:Nat)(i:Int)(hv:31<=v/\v<=2017):oC (vo C j i v):=λj' i'=>by
 unfold vo put;split
 ·dsimp only;split;·exact hv
  ·exact h _ _
 ·exact h _ _
noncomputable def aD(J:Sg)(A:Rows)(C:Nat->Int->Int):Prop:=∀j,j<18->Row J (A.ra j) (A.da j) (A.len j) (C j)
noncomputable def Off(H:Sg)(A:Rows):Prop:=∀j,j<18->H (A.ra j)=Mr/\H (A.da j)=Mr
inductive Ev where
 |bit(j:Nat)(i b:Int)
 |dir(b:Int)
abbrev CS:=ES×(Nat->Int->Int)
noncomputable def dy(s:CS):Ev->CS
 |.bit j i b=>(s.1.bit (s.2 j i) b,vo s.2 j i (Xv (s.2 j i) b))
 |.dir b=>(s.1.dir b,s.2)
noncomputable def ah(s:CS)(l:List Ev):CS:=l.foldl dy s
theorem dl(s:CS):ah s []=s:=rfl
theorem aB(s:CS)(v:Ev)(l:List Ev):ah s (v::l)=ah (dy s v) l:=rfl
theorem bw(s:CS)(l l':List Ev):ah s (l++l')=ah (ah s l) l':=Ti ..
inductive WS(H J:Sg)(A:Rows)(w b:Ml)(s:CS)(k:Nat):Prop where
 |mk(sub:Sub H J)
  (rows:aD J A s.2)
  (wri:vw J w b s.1 Mh)
  (hw:H w=Mr)
  (hb:H b=Mr)
  (off:Off H A)
  (apt:A.Apt)
  (ok:s.1.Ok k)
  (mok:oC s.2)
variable{A:Rows}{s:CS}{t'':Nat}
theorem aX(G:Good Z Kg)(hn:4<=n)(W:WS H J A w b s k)(hk:k<=900)(hj:j<18){bit:Int}(i0:0<=i)(i1:i<A.len j)(hbit:bit=0∨bit=1):ac Z n (.ref 1057) [.ref w,.ref (A.ra j),.int i t,.int bit t'] J (λv J'=>v=.none/\WS H J' A w b (dy s (.bit j i bit)) (k+1)):=by
 obtain⟨sub,rows,wri,hw,hb,off,apt,ok,mok⟩:=W;have m:=mok j i;have hne:∀l,l<18->l≠j->∀a,(a=A.ra l∨a=A.da l)->a≠A.ra j/\a≠A.da j:=by
  rintro l hl hlj a (rfl|rfl);·exact⟨apt.1 _ _ hl hj hlj,apt.2 _ _ hl hj hlj⟩
  ·exact⟨λz=>apt.2 _ _ hj hl (Qj hlj) z.symm,apt.3 _ _ hl hj hlj⟩
 have P:∀l,l<18->∀a,(a=A.ra l∨a=A.da l)->a≠w/\a≠b:=λl hl a ha=>by
  have h1:=(rows l hl).neI wri.1 (by decide);have h2:=(rows l hl).neB wri.2;rcases ha with rfl|rfl
  ·exact⟨h1.1,h2.1⟩
  ·exact⟨h1.2,h2.2⟩
 refine(yR G hn (sub.WU λa=>∃l,l<18/\l≠j/\(a=A.ra l∨a=A.da l)) (ai (λz=>ae z λl z=>(P l z.1 w z.2.2).1 rfl) hw) (ai (λz=>ae z λl z=>(P l z.1 b z.2.2).2 rfl) hb) wri ok hk (rows j hj)
  (ai (λz=>ae z λl z=>(hne l z.1 z.2.1 _ z.2.2).1 rfl) (off j hj).1) (ai (λz=>ae z λl z=>(hne l z.1 z.2.1 _ z.2.2).2 rfl) (off j hj).2) i0 i1 (apt.4 j) hbit (af K7 [_] [] m) (af K2 [_] [] m)).Ws λJ' r1=>?_
 refine⟨rfl,sub.Xk r1.1,λl hl=>?_,r1.2.1,hw,hb,off,apt,(ok.pre (af K7 [_] [] m) (af K2 [_] [] m)).fill,mok.up j i (mj m)⟩;by_cases hlj:l=j;·subst hlj;show Row J' _ _ _ (vo s.2 l i _ l);unfold vo;rw[if_pos rfl];exact r1.2.2
 ·show Row J' _ _ _ (vo s.2 j i _ l);unfold vo;rw[if_neg hlj];exact(rows l hl).keep λa c h e=>r1.1.at ⟨l,hl,hlj,h⟩ e
theorem d9(G:Good Z Kg)(hn:0<n){c:Nat}(h0:0<=v)(h1:v<2^c)(hc:c<=1000):ac Z n (.ref 930) [.int v t,.int c t'] J (λr J'=>r=.none/\J=J'):=by refine run G hn ?_;lk;refine bQ (λh=>CL 0x861080007ae290e [] [_] h) (λa=>?_);lk;refine jN (λa=>?_) (λh=>absurd h0 h);lk;rw[show((c:Int)).toNat=c from MO c];refine bQ (λa=>?_) (λh=>absurd (af 0x8400027304874c092091b [_,_] [] h1) h);lk;exact⟨rfl,rfl⟩
noncomputable def az(j:Nat)(start:Int):Nat->Int->Int->List Ev
 |0,_,_=>[]
 |c+1,node,v=>.bit j (start+node) (v/2^c%2)::az j start c (node*2+v/2^c%2) v
noncomputable def dr(j:Nat)(start:Int):Nat->Int->Int->List Ev
 |0,_,_=>[]
 |c+1,node,v=>.bit j (start+node) (v%2)::dr j start c (node*2+v%2) (v/2)
noncomputable def dJ:Nat->Int->List Ev
 |0,_=>[]
 |c+1,v=>.dir (v/2^c%2)::dJ c v
theorem mK{c:Nat}(hc:c<=60):(2:Int)^c<=1152921504606846976:=by
 have:=Ph (n:=2) (by decide) hc;have e:((2^c:Nat):Int)=2^c:=by simp
 exact nF this
theorem ct(x:Int):x%2=0∨x%2=1:=by lia
theorem gL{a b:Int}(ha:0<=a)(hb:b=0∨b=1):Oc (a*2^Pb 1) b=a*2+b:=by have:=pM (k:=1) ha (b:=b) (by lia) (by lia);exact this
theorem jf(G:Good Z Kg)(hn:5<=n)(W:WS H J A w b s k){c:Nat}(hc:c<=60)(hk:k+c<=900)(hj:j<18){start:Int}(s0:0<=start)(s1:start+2^c<=A.len j)(v0:0<=v)(v1:v<2^c):ac Z n (.ref 1071) [.ref w,.ref (A.ra j),.int start t,.int c t',.int v t''] J (λr J'=>r=.none/\WS H J' A w b (ah s (az j start c 1 v)) (k+c)):=by
 have Ww:=W.3.1;refine run G (lq hn rfl) ?_;lk;refine((d9 G (lp hn rfl) v0 v1 (c6 hc rfl))).k01 ?_;lk;refine lh (λnode d d=>[(JM,.ref w),(Jt,.ref (A.ra j)),(JF,.int start t),(Kd,.int v t''),(Kb,.int node 0)]) (λm node s' k' J'=>WS H J' A w b s' k'/\ah s' (az j start m node v)=ah s (az j start c 1 v)/\k'+m=k+c/\1<=node/\(node+1)*2^m<=2^(c+1)) 1 s k (c6 hc rfl) ⟨W,rfl,rfl,by decide,by rw[NM];lia⟩ rfl ?_ ?_
 ·intro m node s' k' J' Q' hm z2 hnext _;have W':=z2.1;have e:=z2.2.1;have ek:=z2.2.2.1;have n1:=z2.2.2.2.1;have n2:=z2.2.2.2.2;have Ww:=W'.3.1;have hp:(0:Int)<2^m:=NV (by decide);have hp':(2:Int)^(m+1)=2^m*2:=NM ..;have hq:(2:Int)^(c+1)=2^c*2:=NM ..;lk;rw[show((m:Int)).toNat=m from MO m,jk (Ob v0 (Nm hp))];have hb01:=ct (v/2^m);have h60:=mK hc;have hnl:node<2^c:=by
   have h2:(node+1)*2^m*2<=2^c*2:=by rw[<-hq,Nl,<-hp'];exact n2
   have h3:(node+1)*1<=(node+1)*2^m:=Nt hp (af 0x1080004f0200e882c0818 [_] [] n1);exact ao 0x841840023f18882ce8d829848921116260ba6090e [_,_,_] [] h2 h3
  lk;refine(aX (n:=n-1) G (lp hn rfl) W' (ao KL [] [_,_,_,_] hk ek) hj (ao KG [_,_] [] s0 n1) (ao KV [_,_,_] [_] s1 hnl) hb01).Ws λJ2 W2=>?_;lk;rw[gL (a:=node) (sR n1 rfl) hb01];lk;refine hnext (node*2+v/2^m%2) _ _ ⟨W2,e,af KX [] [_,_,_,_] ek,ao KI [_,_] [] n1 (vp _ rfl),?_⟩ rfl;have h4:(node*2+v/2^m%2+1)*2^m<=(node+1)*2*2^m:=Px (af 0x4200013848844a11059d2261061edc7484e [_,_] [] (C5 _ rfl)) (Nm hp);have h5:(node+1)*2*2^m=(node+1)*2^(m+1):=by rw[hp',Nl,NY 2]
  exact aS 0x42284308000a6391509e6080f988a04a6080e [_,_,_,_] [] n2 h4 h5
 ·intro node s' k' J' z1;have W':=z1.1;have e:=z1.2.1;have ek:=z1.2.2.1;lk;have e2:s'=ah s (az j start c 1 v):=e;refine⟨rfl,?_⟩;rw[<-e2,show k+c=k' from ek.symm];exact W'
variable{x node:Int}{J1:Sg}
theorem YF{c m:Nat}(hx:x=0∨x=1)(n1:1<=node)(n2:(node+1)*2^(m+1)<=2^(c+1)):node<2^c/\(node*2+x+1)*2^m<=2^(c+1):=by
 have hp:(0:Int)<2^m:=NV (by decide);have hp':(2:Int)^(m+1)=2^m*2:=NM ..;have hq:(2:Int)^(c+1)=2^c*2:=NM ..;refine⟨?_,?_⟩
 ·have h2:(node+1)*2^m*2<=2^c*2:=by rw[<-hq,Nl,<-hp'];exact n2
  have h3:(node+1)*1<=(node+1)*2^m:=Nt hp (af 0x1080004f0200e882c0818 [_] [] n1);exact ao 0x841840023f18882ce8d829848921116260ba6090e [_,_,_] [] h2 h3
 ·have h4:(node*2+x+1)*2^m<=(node+1)*2*2^m:=Px (by lia) (Nm hp);have h5:(node+1)*2*2^m=(node+1)*2^(m+1):=by rw[hp',Nl,NY 2]
  exact aS 0x42284308000a6391509e6080f988a04a6080e [_,_,_,_] [] n2 h4 h5
theorem gc(v:Int)(m:Nat):v/2^m/2=v/2^(m+1):=by have hp:(0:Int)<2^m:=NV (by decide);rw[NM,Int.ediv_ediv,if_neg (λh=>absurd h.1 (by lia)),Ud]
theorem tK(G:Good Z Kg)(hn:5<=n)(W:WS H J A w b s k){c:Nat}(hc:c<=60)(hk:k+c<=900)(hj:j<18){start:Int}(s0:0<=start)(s1:start+2^c<=A.len j)(v0:0<=v)(v1:v<2^c):ac Z n (.ref 1078) [.ref w,.ref (A.ra j),.int start t,.int c t',.int v t''] J (λr J'=>r=.none/\WS H J' A w b (ah s (dr j start c 1 v)) (k+c)):=by
 have Ww:=W.3.1;refine run G (lq hn rfl) ?_;lk;refine((d9 G (lp hn rfl) v0 v1 (c6 hc rfl))).k01 ?_;lk;refine fj (λnode d d=>[(JM,.ref w),(Jt,.ref (A.ra j)),(JF,.int start t),(Kd,.int v t''),(Kb,.int node 0)]) (λm node s' k' J'=>m<=c/\WS H J' A w b s' k'/\ah s' (dr j start (c-m) node (v/2^m))=ah s (dr j start c 1 v)/\k'+(c-m)=k+c/\1<=node/\(node+1)*2^(c-m)<=2^(c+1)) 1 s k (c:=c) (c6 hc rfl) ⟨Nc _,W,by rw[Oa,OZ];rfl,rfl,by decide,by rw[NM];show 2*2^c<=_;exact ck 0xc20cc0587827 [_] []⟩ rfl ?_ ?_;·intro m node s' k' J' Q' hm r1 hnext _;have W':=r1.2.1;have e:=r1.2.2.1;have ek:=r1.2.2.2.1;have n1:=r1.2.2.2.2.1;have n2:=r1.2.2.2.2.2;obtain⟨l,hl⟩:∃l,c-m=l+1:=⟨c-m-1,af Ky [] [_,_] (Mf (ao KM [] [_,_,_] hm (Mf (af Kx [] [_,_] hm))))⟩;have hl':c-(m+1)=l:=aS Kw [] [_,_,_,_,_] hl (Mf (af KB [] [_,_] hm)) (Mf (af Kx [] [_,_] hm));rw[hl] at e n2 ek;have Ww:=W'.3.1;have hp:(0:Int)<2^m:=NV (by decide);lk;rw[show((m:Int)).toNat=m from MO m,jk (Ob v0 (Nm hp))];have hb01:=ct (v/2^m);have h60:=mK hc;obtain z4:=YF hb01 n1 n2;have hnl:=z4.1;have hst:=z4.2;lk;refine(aX (n:=n-1) G (lp hn rfl) W' (ao KL [] [_,_,_,_] hk ek) hj (ao KG [_,_] [] s0 n1) (ao KV [_,_,_] [_] s1 hnl) hb01).Ws λJ2 r2=>?_;have W2:=r2;lk;rw[gL (a:=node) (sR n1 rfl) hb01];lk;refine hnext (node*2+v/2^m%2) _ _ ⟨hm,W2,?_,ao 0x108e10800f422840003d150944f5215c4433826f53ad48575104cf6e538 [] [_,_,_,_,_] ek hl',ao KI [_,_] [] n1 (vp _ rfl),by rw[hl'];exact hst⟩ rfl;rw[hl',<-gc];exact e
 ·intro node s' k' J' r3;have W':=r3.2.1;have e:=r3.2.2.1;have ek:=r3.2.2.2.1;have n1:=r3.2.2.2.2.1;have n2:=r3.2.2.2.2.2;lk;rw[Nr] at e ek;have e2:s'=ah s (dr j start c 1 v):=e;refine⟨rfl,?_⟩;rw[<-e2,show k+c=k' from ek.symm];exact W'
theorem yT(G:Good Z Kg)(hn:2<=n)(W:WS H J A w b s k)(hk:k<=900)(h:J1=upd J w (.Wv 1095 [(JJ,.ref b),(LD,.int (s.1.WE x).low 0),(JE,.int (s.1.WE x).span 0),(JG,.int (s.1.WE x).cache 0),(JI,.int (s.1.WE x).held 0),(JH,.bool Mh)])):ac Z n (.ref 1043) [.ref w] J1 (λv J'=>v=.none/\WS H J' A w b (dy s (.dir x)) (k+1)):=by
 obtain⟨sub,rows,wri,hw,hb,off,apt,ok,mok⟩:=W;have hwb:w≠b:=mn wri.1 wri.2 rfl;have P:∀l,l<18->∀a,(a=A.ra l∨a=A.da l)->a≠w/\a≠b:=λl hl a ha=>by
  have h1:=(rows l hl).neI wri.1 (by decide);have h2:=(rows l hl).neB wri.2;rcases ha with rfl|rfl
  ·exact⟨h1.1,h2.1⟩
  ·exact⟨h1.2,h2.2⟩
 have pb:(s.1.WE x).made=s.1.made:=by unfold ES.WE;split<;>rfl
 have sub1:Sub H J1:=by rw[h];exact sub.upd hw _
 have rows1:aD J1 A s.2:=λl hl=>by rw[h];exact(rows l hl).upd (P l hl _ (.inl rfl)).1 (P l hl _ (.inr rfl)).1
 refine(rK G hn (sub1.WU λa=>∃l,l<18/\(a=A.ra l∨a=A.da l)) (ai (λz=>ae z λl z=>(P l z.1 w z.2).1 rfl) hw) (ai (λz=>ae z λl z=>(P l z.1 b z.2).2 rfl) hb) (e:=s.1.WE x) (cl:=Mh)
  ⟨by rw[h];exact aa _ _ _,by rw[h,ag _ _ hwb.symm,pb];exact wri.2⟩ ok.WE hk).Ws λJ' r4=>?_
 have W':=r4.2;exact⟨rfl,sub1.Xk r4.1,λl hl=>(rows1 l hl).keep λa c h e=>r4.1.at ⟨l,hl,h⟩ e,W',hw,hb,off,apt,ok.WE.fill,mok⟩
theorem zI(G:Good Z Kg)(hn:5<=n)(W:WS H J A w b s k){c:Nat}(hc:c<=60)(hk:k+c<=900)(v0:0<=v)(v1:v<2^c):ac Z n (.ref 1064) [.ref w,.int c t',.int v t''] J (λr J'=>r=.none/\WS H J' A w b (ah s (dJ c v)) (k+c)):=by
 have Ww:=W.3.1;refine run G (lq hn rfl) ?_;lk;refine((d9 G (lp hn rfl) v0 v1 (c6 hc rfl))).k01 ?_;lk;refine((iZ (n:=n-1) G (lp hn rfl) W.3)).k01 ?_;lk;refine lh (λ_ _ (_:Unit)=>[(JM,.ref w),(Kd,.int v t'')]) (λm s' k' a J'=>WS H J' A w b s' k'/\ah s' (dJ m v)=ah s (dJ c v)/\k'+m=k+c) s k () (c:=c) (c6 hc rfl) ⟨W,rfl,rfl⟩ rfl ?_ ?_
 ·intro m s' k' _ J' Q' hm z2 hnext _;have W':=z2.1;have e:=z2.2.1;have ek:=z2.2.2;have Ww:=W'.3.1;have hp:(0:Int)<2^m:=NV (by decide);lk;rw[Fx,show((m:Int)).toNat=m from MO m,jk (Ob v0 (Nm hp))];have hb01:=ct (v/2^m);have tail:∀J1,J1=upd J' w (.Wv 1095 [(JJ,.ref b),(LD,.int (s'.1.WE (v/2^m%2)).low 0),(JE,.int (s'.1.WE (v/2^m%2)).span 0),(JG,.int (s'.1.WE (v/2^m%2)).cache 0),(JI,.int (s'.1.WE (v/2^m%2)).held 0),(JH,.bool Mh)])->
    ac Z (n-1) (.ref 1043) [.ref w] J1 (λu J2=>X Z (n-1) Q' [] J2 [(JM,.ref w),(Kd,.int v t'')] [u] (.pop .Wz)):=by
   intro J1 h1
   refine(yT (n:=n-1) G (lp hn rfl) W' (ao KL [] [_,_,_,_] hk ek) h1).Ws λJ2 W2=>?_
   lk
   refine hnext _ _ () ⟨W2,e,af KX [] [_,_,_,_] ek⟩ rfl
  refine aH (λh=>?_) (λh=>?_);·lk;refine(tail _ ?_).Wr (MD _) λa a q=>fP q rfl;unfold ES.WE;rw[if_pos h];rfl
  ·lk;refine(tail _ ?_).Wr (MD _) λa a q=>fP q rfl;unfold ES.WE;rw[if_neg h];rfl
 ·intro s' k' _ J' z1;have W':=z1.1;have e:=z1.2.1;have ek:=z1.2.2;lk;have e2:s'=ah s (dJ c v):=e;refine⟨rfl,?_⟩;rw[<-e2,show k+c=k' from ek.symm];exact W'
structure MA where
 m:Ml
 p:Ml
 l1:Ml
 l2:Ml
 lc:Nat
 lp:Nat
 pb:Nat
noncomputable def sr(pb:Nat)(w:Nat->Me)(o:Nat):Cell:=.Wv 293 [(LX,.int (2^pb) 0),(LF,w o),(LD,w (o+1)),(7170404,w (o+2)),(Lu,w (o+3))]
noncomputable def yy(lc lp pb:Nat):Cell:=.Wv 209 [(27747,.int lc 0),(27760,.int lp 0),(28770,.int pb 0)]
noncomputable def Db(B:MA)(w:Nat->Me):Cell:=.Wv 349 [(Jn,.ref B.p),(LV,w 0),(Jh,w 1),(Ji,w 2),(Jk,w 3),(Jl,w 4),(Jj,w 5),(Jp,w 6),(Jq,w 7),(Mc,w 8),(ID,w 9),(Jm,.ref B.l1),(Jo,.ref B.l2)]
noncomputable def wa(A:Rows)(j:Nat):Value:=.ref (A.ra j)
noncomputable def WM(B:MA):List Nat:=[192,12,12,12,12,192,256,115,16,768*2^(B.lc+B.lp),2,8*2^B.pb,8*2^B.pb,256,2,8*2^B.pb,8*2^B.pb,256]
inductive aj(H:Sg)(A:Rows)(B:MA):Prop where
 |mk (m:H B.m=Md (Db B (wa A)))
  (p:H B.p=Md (yy B.lc B.lp B.pb))
  (l1:H B.l1=Md (sr B.pb (wa A) 10))
  (l2:H B.l2=Md (sr B.pb (wa A) 14))
  (lc:B.lc<=1)
  (lp:B.lp<=1)
  (pb:B.pb<=4)
  (ln:∀j,j<18->A.len j=(WM B).getD j 0)
variable{B:MA}
section
variable(M:aj H A B)
include M
theorem aj.n0:A.len 0=192:=M.8 0 (by decide)
theorem aj.n1:A.len 1=12:=M.8 1 (by decide)
theorem aj.n2:A.len 2=12:=M.8 2 (by decide)
theorem aj.n3:A.len 3=12:=M.8 3 (by decide)
theorem aj.n4:A.len 4=12:=M.8 4 (by decide)
theorem aj.n5:A.len 5=192:=M.8 5 (by decide)
theorem aj.n6:A.len 6=256:=M.8 6 (by decide)
theorem aj.n7:A.len 7=115:=M.8 7 (by decide)
theorem aj.n8:A.len 8=16:=M.8 8 (by decide)
theorem aj.n9:A.len 9=768*2^(B.lc+B.lp):=M.8 9 (by decide)
theorem aj.n10:A.len 10=2:=M.8 10 (by decide)
theorem aj.n11:A.len 11=8*2^B.pb:=M.8 11 (by decide)
theorem aj.n12:A.len 12=8*2^B.pb:=M.8 12 (by decide)
theorem aj.n13:A.len 13=256:=M.8 13 (by decide)
theorem aj.n14:A.len 14=2:=M.8 14 (by decide)
theorem aj.n15:A.len 15=8*2^B.pb:=M.8 15 (by decide)
theorem aj.n16:A.len 16=8*2^B.pb:=M.8 16 (by decide)
theorem aj.n17:A.len 17=256:=M.8 17 (by decide)
end
noncomputable def MA.cell(B:MA)(state place:Int):Int:=state*16+place%2^B.pb
noncomputable def MA.lit(B:MA)(place before:Int):Int:=768*(place%2^B.lp*2^B.lc+before/2^(8-B.lc))
noncomputable def cu(length:Int):Int:=64*(if 3<length-2 then 3 else length-2)
noncomputable def bH(slot:Int):Int×Int:=if slot<4 then(0,slot) else(slot/2-1,(2+slot%2)*2^(slot/2-1).toNat)
noncomputable def aR(distance:Int):Int×Int×Int:=if distance-1<4 then(distance-1,0,distance-1) else
 (2*((distance-1).toNat.log2:Int)+(distance-1)/2^((distance-1).toNat.log2-1)%2,bH (2*((distance-1).toNat.log2:Int)+(distance-1)/2^((distance-1).toNat.log2-1)%2))
variable{place state length slot before distance:Int}
theorem dg{m:Nat}(h:m<=4):(1:Int)<=2^m/\(2:Int)^m<=16:=by
 have:m=0∨m=1∨m=2∨m=3∨m=4:=by lia
 rcases this with rfl|rfl|rfl|rfl|rfl<;>exact⟨by decide,by decide⟩
theorem cG(G:Good Z Kg)(hn:0<n)(S:Sub H J)(M:aj H A B)(h0:0<=place):ac Z n (.ref 206) [.ref B.p,.int place t] J (λv J'=>v=.int (place%2^B.pb) 0/\J=J'):=by have hp:=S _ _ M.2;have:=M.7;refine run G hn ?_;lk;rw[MO,Pz,eD h0];lk;exact⟨rfl,rfl⟩
theorem c4(G:Good Z Kg)(hn:2<=n)(S:Sub H J)(M:aj H A B)(h0:0<=place):ac Z n (.ref 325) [.ref B.m,.int state t,.int place t'] J (λv J'=>v=.int (B.cell state place) 0/\J=J'):=by have hm:=S _ _ M.1;have hp:=S _ _ M.2;refine run G (lq hn rfl) ?_;lk;refine((cG (n:=n-1) G (lp hn rfl) S M h0)).k01 ?_;lk;exact⟨rfl,rfl⟩
theorem kX(G:Good Z Kg)(hn:0<n):ac Z n (.ref 255) [.int length t] J (λv J'=>v=.int (if 3<length-2 then 3 else length-2) 0/\J=J'):=by refine run G hn ?_;lk;exact⟨rfl,rfl⟩
theorem iu(G:Good Z Kg)(hn:2<=n){m:Me}(h:2<=length):ac Z n (.ref 332) [m,.int length t] J (λv J'=>v=.int (cu length) 0/\J=J'):=by refine run G (lq hn rfl) ?_;lk;refine((kX (n:=n-1) G (lp hn rfl))).k01 ?_;lk;exact⟨rfl,rfl⟩
theorem gx(G:Good Z Kg)(hn:0<n):ac Z n (.ref 248) [.int state t] J (λv J'=>v=.bool (M3 (state<7))/\J=J'):=by refine run G hn ?_;lk;refine tU ?_;lk;exact⟨rfl,rfl⟩
theorem fh(G:Good Z Kg)(hn:0<n)(h0:0<=slot)(h1:slot<=63):ac Z n (.ref 262) [.int slot 0] J (λv J'=>∃x,J x=Mr/\v=.ref x/\J'=upd J x (.tup [.int (bH slot).1 0,.int (bH slot).2 0])):=by
 refine run G hn ?_;lk;refine bQ (λh=>?_) (λh=>?_);·lk;intro x hx;lk;refine⟨x,hx,rfl,?_⟩;unfold bH;rw[if_pos h]
 ·lk;rw[Fx,jk h0];have e2:Oc 2 (slot%2)=2+slot%2:=by have:=pM (a:=1) (k:=1) (by decide) (b:=slot%2) (Nw _ (by decide)) (Nj _ (by decide));exact this
  lk;rw[e2];lk;intro x hx;lk;refine⟨x,hx,rfl,?_⟩;unfold bH;rw[if_neg h]
theorem eC(G:Good Z Kg)(hn:2<=n){m:Me}(h0:0<=slot)(h1:slot<=63):ac Z n (.ref 339) [m,.int slot 0] J (λv J'=>v=.int ((bH slot).2-slot) 0/\bM λx c=>J x=Mr/\J'=upd J x c):=by refine run G (lq hn rfl) ?_;lk;refine(fh (n:=n-1) G (lp hn rfl) h0 h1).kst λx z6=>?_;refine dO ?_ (aa _ _ _) rfl;lk;exact⟨rfl,x,_,z6,rfl⟩
theorem eT(G:Good Z Kg)(hn:0<n)(S:Sub H J)(M:aj H A B)(h0:0<=place)(b0:0<=before):ac Z n (.ref 346) [.ref B.m,.int place t,.int before t'] J (λv J'=>v=.int (B.lit place before) 0/\J=J'):=by have hm:=S _ _ M.1;have hp:=S _ _ M.2;have q1:=M.6;have q2:=M.5;have z1:=dg (m:=B.lp) (c6 q1 rfl);have z2:=dg (m:=B.lc) (c6 q2 rfl);refine run G hn ?_;lk;rw[MO,Pz,eD h0];have z3:0<=place%2^B.lp:=Nw _ (λzz=>fb K8 [_] [] zz z1);have z4:=Nj place z1.1;have y1:=z1.2;lk;rw[MO,show((8:Int)-(B.lc:Int)).toNat=8-B.lc from aS 0x108e10000f424842003d0254234a914bc01edc544d797803d601354150f [] [_,_,_] (Ni _) (MF (af 0x1080004e20987de00f4081f [] [_] q2)) (Mf (af 0x8400027104c3e041312 [] [_] q2))];lk;exact⟨rfl,rfl⟩
theorem tS{x:Nat}(h:x<2^32)(h0:x≠0):x.log2<=31:=by have:=(UL h0).mpr h;exact af 0x2100009c020a0a7c41313 [] [_] this
theorem sj(G:Good Z Kg)(hn:2<=n)(h0:1<=distance)(h1:distance<=2^32):ac Z n (.ref 269) [.int distance 0] J (λv J'=>∃x,v=.ref x/\J' x=Md (.tup [.int (aR distance).1 0,.int (aR distance).2.1 0,.int (aR distance).2.2 0])/\Sub J J'):=by
 refine run G (lq hn rfl) ?_;lk;refine bQ (λh=>?_) (λh=>?_);·lk;intro x hx;lk;refine⟨x,rfl,?_,Sub.rfl.upd hx _⟩;unfold aR;rw[if_pos h];exact aa _ _ _
 ·lk;refine Ck (af 0x42000138220d38e2088340918 [_] [] h) ?_;have hl:=tS (x:=(distance-1).toNat) (aS 0x42384308000a600000000244463106dc5439304074000000004142f [_,_] [_] h1 (MF (af 0x42000138220d38e2088340818 [_] [] h)) xy) (λzz=>Cz 0x84708a100014de20d380e411069c7104150b [_] [_] zz h (Ni _));have hl1:2<=(distance-1).toNat.log2:=(Nat.le_log2 (λzz=>Cz 0x84708a100014de20d380e411069c7104150b [_] [_] zz h (Ni _))).mpr (ao 0x421840003d78834e0390441a71c41403311 [_] [_] h (Ni _));generalize hg:(distance-1).toNat.log2=g at*;lk;have e1:((g:Int)+1-1)=g:=ck 0x403788b8ad2afa2d [] [_];have e2:((g:Int)-1).toNat=g-1:=aS 0x847080007a12421001e94508d1a3f12e45b8a88ef12e455411d4150f [] [_,_,_] (Ni _) (MF (af 0x4200013a02b108b8b4081c [] [_] hl1)) (Mf (af LT [] [_] hl1));rw[e1,e2,jk (Ob (by lia) (Nm (NV (by decide))))];have hb:=ct ((distance-1)/2^(g-1));refine(fh (n:=n-1) G (lp hn rfl) (by exact ao 0x1086100007e0405d015886f01626c0827 [_] [_] hl1 (vp _ rfl)) (by lia)).kst λx z5=>?_;refine dO ?_ (aa _ _ _) rfl;lk;intro y hy;lk;refine⟨y,rfl,(aa _ _ _).trans ?_,(Sub.rfl.upd z5 _).upd ((Sub.rfl.upd z5 _).none hy) _⟩;unfold aR;rw[if_neg h,hg]
noncomputable def bY(start:Int):Nat->Int->Int->Int->List Ev
 |0,_,_,_=>[]
 |c+1,node,o,m=>.bit 9 (start+(1+m/2^c%2)*256+node) (o/2^c%2)::if o/2^c%2=m/2^c%2 then bY start c (node*2+o/2^c%2) o m else az 9 start c (node*2+o/2^c%2) o
theorem fE(start:Int)(c:Nat)(node o m:Int):bY start (c+1) node o m=.bit 9 (start+(1+m/2^c%2)*256+node) (o/2^c%2)::if o/2^c%2=m/2^c%2 then bY start c (node*2+o/2^c%2) o m else az 9 start c (node*2+o/2^c%2) o:=rfl
noncomputable def cq(j:Nat)(row length:Int):List Ev:=
 if length-2<8 then .bit j 0 0::az (j+1) row 3 1 (length-2)
 else .bit j 0 1::if length-2<16 then .bit j 1 0::az (j+2) row 3 1 (length-2-8) else .bit j 1 1::az (j+3) 0 8 1 (length-2-16)
noncomputable def bS(distance length:Int):List Ev:=
 az 6 (cu length) 6 1 (aR distance).1++
  if(aR distance).2.1=0 then[] else
   if(aR distance).1<14 then dr 7 ((bH (aR distance).1).2-(aR distance).1) (aR distance).2.1.toNat 1 (distance-1-(aR distance).2.2)
   else dJ ((aR distance).2.1-4).toNat ((distance-1-(aR distance).2.2)/16)++dr 8 0 4 1 ((distance-1-(aR distance).2.2)%16)
noncomputable def MA.Xq(B:MA)(state place before octet matched:Int):List Ev:=
 .bit 0 (B.cell state place) 0::if state<7 then az 9 (B.lit place before) 8 1 octet else bY (B.lit place before) 8 1 octet matched
noncomputable def MA.WW(B:MA)(state place distance length:Int):List Ev:=
 .bit 0 (B.cell state place) 1::.bit 1 state 0::(cq 10 (8*(place%2^B.pb)) length++bS distance length)
noncomputable def MA.Xg(B:MA)(state place index:Int):List Ev:=
 if index=0 then[.bit 2 state 0,.bit 5 (B.cell state place) 1] else
  .bit 2 state 1::if index=1 then[.bit 3 state 0] else[.bit 3 state 1,.bit 4 state (index-2)]
noncomputable def MA.XZ(B:MA)(state place index length:Int):List Ev:=
 .bit 0 (B.cell state place) 1::.bit 1 state 1::(B.Xg state place index++cq 14 (8*(place%2^B.pb)) length)
noncomputable def MA.Xu(B:MA)(state place:Int):List Ev:=
 [.bit 0 (B.cell state place) 1,.bit 1 state 1,.bit 2 state 0,.bit 5 (B.cell state place) 0]
inductive yr(H:Sg)(y:Ml)(m w:Ml)(pl stt:Int)(rp:Ml):Prop where
 |mk (o:H y=Md (.Wv 822 [(Jt,.ref m),(Jz,.ref w),(Jv,.int pl 0),(Jx,.int stt 0),(Jw,.ref rp)]))
variable{y rp:Ml}{pl stt octet mt':Int}
theorem jn(G:Good Z Kg)(hn:5<=n)(W:WS H J A w b s k)(M:aj H A B)(Y:yr H y B.m w pl stt rp){c d:Nat}(hd:d<=8)(hk:k+c<=900){start:Int}(s0:0<=start)(s1:start+2^d<=A.len 9)(n0:1<=node)(n9:(node+1)*2^c<=2^(d+1))(hc:c<=8)(v0:0<=octet):ac Z n (.ref 644) [.ref y,.int start 0,.int node 0,.int octet 0,.int c 0] J (λr J'=>r=.none/\WS H J' A w b (ah s (az 9 start c node octet)) (k+c)):=by
 refine run G (lq hn rfl) ?_;lk;refine lh (λnode' a a=>[(JM,.ref y),(JF,.int start 0),(IC,.int octet 0),(Kb,.int node' 0)]) (λm node' s' k' J'=>WS H J' A w b s' k'/\ah s' (az 9 start m node' octet)=ah s (az 9 start c node octet)/\k'+m=k+c/\1<=node'/\(node'+1)*2^m<=2^(d+1)) node s k (c:=c) (c6 hc rfl) ⟨W,rfl,rfl,n0,n9⟩ rfl ?_ ?_;·intro m node' s' k' J' Q' hm z6 hnext _;have W':=z6.1;have e:=z6.2.1;have ek:=z6.2.2.1;have n1:=z6.2.2.2.1;have n2:=z6.2.2.2.2;have Ww:=W'.3.1;have Yy:=W'.1 _ _ Y.1;have Mm:=W'.1 _ _ M.1;have hp:(0:Int)<2^m:=NV (by decide);lk;rw[MO,jk (Ob v0 (Nm hp))];have hb01:=ct (octet/2^m);obtain z5:=YF hb01 n1 n2;have hnl:=z5.1;have hst:=z5.2;lk;refine(aX (n:=n-1) G (lp hn rfl) W' (ao KL [] [_,_,_,_] hk ek) (Ms _ _) (ao KG [_,_] [] s0 n1) (ao KV [_,_,_] [_] s1 hnl) hb01).Ws λJ2 W2=>?_;lk;rw[NY 2 node'];refine hnext _ _ _ ⟨W2,e,af KX [] [_,_,_,_] ek,ao KI [_,_] [] n1 (vp _ rfl),hst⟩ rfl
 ·intro node' s' k' J' z4;have W':=z4.1;have e:=z4.2.1;have ek:=z4.2.2.1;have n1:=z4.2.2.2.1;have n2:=z4.2.2.2.2;lk;have e2:s'=ah s (az 9 start c node octet):=e;refine⟨rfl,?_⟩;rw[<-e2,show k+c=k' from ek.symm];exact W'
theorem nP(G:Good Z Kg)(hn:6<=n)(W:WS H J A w b s k)(M:aj H A B)(Y:yr H y B.m w pl stt rp)(hk:k+8<=900){start:Int}(s0:0<=start)(s1:start+768<=A.len 9)(v0:0<=octet)(m0:0<=mt'):ac Z n (.ref 651) [.ref y,.int start 0,.int octet 0,.int mt' 0] J (λr J'=>r=.none/\WS H J' A w b (ah s (bY start 8 1 octet mt')) (k+8)):=by
 refine run G (lq hn rfl) ?_;lk;refine lh (λnode' a a=>[(JM,.ref y),(JF,.int start 0),(IC,.int octet 0),(Ka,.int mt' 0),(Kb,.int node' 0)]) (λm node' s' k' J'=>WS H J' A w b s' k'/\ah s' (bY start m node' octet mt')=ah s (bY start 8 1 octet mt')/\k'+m=k+8/\1<=node'/\(node'+1)*2^m<=2^(8+1)) 1 s k (c:=8) (Ms _ _) ⟨W,rfl,rfl,by decide,by decide⟩ rfl ?_ ?_
 ·intro m node' s' k' J' Q' hm z3 hnext hret;have W':=z3.1;have e:=z3.2.1;have ek:=z3.2.2.1;have n1:=z3.2.2.2.1;have n2:=z3.2.2.2.2;have Ww:=W'.3.1;have Yy:=W'.1 _ _ Y.1;have Mm:=W'.1 _ _ M.1;have hp:(0:Int)<2^m:=NV (by decide);lk;rw[MO,jk (Ob m0 (Nm hp))];have hm01:=ct (mt' / 2^m);lk;rw[jk (Ob v0 (Nm hp))];have hb01:=ct (octet/2^m);obtain z2:=YF hb01 n1 n2;have hnl:=z2.1;have hst:=z2.2;lk;rw[Dh];have h256:node' < 256:=hnl;refine(aX (n:=n-1) G (lp hn rfl) W' (ao 0x10ca10c20002981423890ae09bb4eb84102846a32ae1041318 [] [_,_,_] hk ek) (Ms _ _) (by exact aS Lg [_,_,_] [] s0 n1 (vp _ rfl)) (iX 0x8470048a10c20003c800c8a86a122112cc452277c00416b825bc600260468c82f07f14c [_,_,_,_] [_] s1 hnl (C5 _ rfl) Cs) hb01).Ws λJ2 W2=>?_;have Yy:=W2.1 _ _ Y.1;lk;rw[NY 2 node'];rw[fE,aB] at e;refine aH (λh=>?_) (λh=>?_);·rw[if_pos h] at e;lk;refine hnext _ _ _ ⟨W2,e,af 0x2108009c20001381215c508e09b94ea048575104cf6e53a [] [_,_,_] ek,ao KI [_,_] [] n1 (vp _ rfl),hst⟩ rfl
  ·rw[if_neg h] at e;lk;refine(jn (n:=n-1) (d:=8) G (lp hn rfl) W2 M Y (MD _) (ao 0x108610000f4090ae284704dca75c2081215aacaf8415104cf6e332 [] [_,_,_] hk ek) s0 (ao 0x843080007a002444337c00416b825bcc16701c [_,_] [_] s1 Cs) (ao KI [_,_] [] n1 (vp _ rfl)) hst (Nq hm) v0).Ws λJ3 W3=>?_;lk;refine hret _ _ ⟨rfl,?_⟩;rw[<-e,show k+8=k'+1+m from af 0x2100009c2100138104e242ba11bf4ea5142345c0826953a [] [_,_,_] ek];exact W3
 ·intro node' s' k' J' z1;have W':=z1.1;have e:=z1.2.1;have ek:=z1.2.2.1;have n1:=z1.2.2.2.1;have n2:=z1.2.2.2.2;lk;have e2:s'=ah s (bY start 8 1 octet mt'):=e;refine⟨rfl,?_⟩;rw[<-e2,show k+8=k' from ek.symm];exact W'
theorem oG(M:aj H A B)(h0:0<=place)(b0:0<=before)(b1:before<=255):0<=B.lit place before/\B.lit place before+768<=A.len 9:=by
 have q1:=M.6;have q2:=M.5;rw[M.n9];unfold MA.lit;have h1:B.lp=0∨B.lp=1:=by lia
 have h2:B.lc=0∨B.lc=1:=by lia
 rcases h1 with e1|e1<;>rcases h2 with e2|e2<;>rw[e1,e2]<;>constructor<;>simp<;>lia
theorem WS.le{l:Nat}(W:WS H J A w b s k)(h:k<=l):WS H J A w b s l:=⟨W.1,W.2,W.3,W.4,W.5,W.6,W.7,W.8.le h,W.9⟩
theorem WS.Xf(W:WS H J A w b s k){x:Ml}(hx:J x=Mr)(c:Cell):WS H (upd J x c) A w b s k:=by
 have hn:∀a d,J a=Md d->a≠x:=λa d h z=>by rw[z,hx] at h;cases h
 refine⟨W.1.upd (W.1.none hx) _,λj hj=>?_,⟨(ag _ _ (hn _ _ W.3.1)).trans W.3.1,(ag _ _ (hn _ _ W.3.2)).trans W.3.2⟩,W.4,W.5,W.6,W.7,W.8,W.9⟩;refine(W.2 j hj).keep λa d f e=>(ag _ _ (hn _ _ e)).trans e
theorem WS.sup(W:WS H J A w b s k)(h:Sub J J'):WS H J' A w b s k:=
 ⟨W.1.trans h,λj hj=>(W.2 j hj).keep λa d c e=>h a d e,⟨h _ _ W.3.1,h _ _ W.3.2⟩,W.4,W.5,W.6,W.7,W.8,W.9⟩
theorem bF(M:aj H A B)(h0:0<=state)(h1:state<=11):0<=B.cell state place/\B.cell state place<192:=by have z:=dg (m:=B.pb) M.7;have z1:=Nw place (b:=2^B.pb) (λzz=>fb K8 [_] [] zz z);have z2:=Nj place (b:=2^B.pb) z.1;unfold MA.cell;exact DA 0x109611c0a1002d8490280008a32211290203a022288c0812e63620811810178026020c49be66020c498114f65 [_,_,_] [] h0 h1 z z1 z2
theorem ms(G:Good Z Kg)(hn:7<=n)(W:WS H J A w b s k)(M:aj H A B)(Y:yr H y B.m w pl stt rp)(hk:k+9<=900)(st0:0<=state)(st1:state<=11)(p0:0<=place)(b0:0<=before)(b1:before<=255)(v0:0<=octet)(m0:0<=mt'):ac Z n (.ref 637) [.ref y,.int state 0,.int place 0,.int before 0,.int octet 0,.int mt' 0] J (λr J'=>r=.none/\WS H J' A w b (ah s (B.Xq state place before octet mt')) (k+9)):=by
 have Ww:=W.3.1;have Yy:=W.1 _ _ Y.1;have Mm:=W.1 _ _ M.1;obtain z4:=bF M (place:=place) st0 st1;obtain z3:=oG M p0 b0 b1;refine run G (lq hn rfl) ?_;lk;refine((c4 (n:=n-1) G (lp hn rfl) W.1 M p0)).k01 ?_;lk;refine(aX (n:=n-1) G (lp hn rfl) W (af 0x4200013e10488269328e1041318 [] [_] hk) (Ms _ _) z4.1 (by rw[M.n0];exact z4.2) (.inl rfl)).Ws λJ2 W2=>?_;have Yy:=W2.1 _ _ Y.1;have Mm:=W2.1 _ _ M.1;lk;refine((eT (n:=n-1) G (lp hn rfl) W2.1 M p0 b0)).k01 ?_;lk;refine((gx (n:=n-1) G (lp hn rfl))).k01 ?_;refine x9 (λh=>?_) (λh=>?_);·have h:=of_decide_eq_true h;lk;refine(jn (n:=n-1) (d:=8) (c:=8) G (lp hn rfl) W2 M Y (Ms _ _) hk z3.1 (ao 0x843080007a002444337c00416b825bcc16701c [_,_] [_] z3.2 Cs) (Mt _) (by decide) (Ms _ _) v0).Ws λJ3 W3=>?_;lk;refine⟨rfl,?_⟩;unfold MA.Xq;rw[if_pos h,aB];exact W3
 ·have h:=of_decide_eq_false h;lk;refine(nP (n:=n-1) G (lp hn rfl) W2 M Y hk z3.1 z3.2 v0 m0).Ws λJ3 W3=>?_;lk;refine⟨rfl,?_⟩;unfold MA.Xq;rw[if_neg h,aB];exact W3
inductive tg(H:Sg)(A:Rows)(l:Ml)(j pb:Nat):Prop where
 |mk (o:H l=Md (sr pb (wa A) j))
  (low:j+3<18)
  (n0:A.len j=2)
  (n1:A.len (j+1)=8*2^pb)
  (n2:A.len (j+2)=8*2^pb)
  (n3:A.len (j+3)=256)
theorem aj.aaI(M:aj H A B):tg H A B.l1 10 B.pb:=⟨M.3,by decide,M.n10,M.n11,M.n12,M.n13⟩
theorem aj.aa0(M:aj H A B):tg H A B.l2 14 B.pb:=⟨M.4,by decide,M.n14,M.n15,M.n16,M.n17⟩
theorem ir(G:Good Z Kg)(hn:6<=n)(W:WS H J A w b s k)(M:aj H A B)(Y:yr H y B.m w pl stt rp){l:Ml}(L:tg H A l j B.pb)(hk:k+10<=900)(p0:0<=place)(h0:2<=length)(h1:length<=273):ac Z n (.ref 658) [.ref y,.ref l,.int place 0,.int length 0] J (λr J'=>r=.none/\WS H J' A w b (ah s (cq j (8*(place%2^B.pb)) length)) (k+10)):=by
 have Ww:=W.3.1;have Yy:=W.1 _ _ Y.1;have Mm:=W.1 _ _ M.1;have Ll:=W.1 _ _ L.1;have Pp:=W.1 _ _ M.2;have hj:=L.2;have z:=dg (m:=B.pb) M.7;have z1:=Nw place (b:=2^B.pb) (λzz=>fb K8 [_] [] zz z);have z2:=Nj place (b:=2^B.pb) z.1;have q1:(A.len (j+1):Int)=8*2^B.pb:=by rw[L.4];simp
 have q2:(A.len (j+2):Int)=8*2^B.pb:=by rw[L.5];simp
 refine run G (lq hn rfl) ?_;lk;refine((cG (n:=n-1) G (lp hn rfl) W.1 M p0)).k01 ?_;lk;unfold cq;refine bQ (λh=>?_) (λh=>?_);·rw[if_pos h];lk;refine(aX (n:=n-1) G (lp hn rfl) W (af 0x4200013e10508269328e1041318 [] [_] hk) (by exact af KK [] [_] hj) (Mt _) (by rw[L.3];decide) (.inl rfl)).Ws λJ2 W2=>?_;have Ww:=W2.3.1;have Yy:=W2.1 _ _ Y.1;have Ll:=W2.1 _ _ L.1;lk;refine(jf (n:=n-1) (c:=3) G (lp hn rfl) W2 (Ms _ _) (af 0x2100009f0828413499470831104cf6eb33 [] [_] hk) (by exact af 0x840002721882684219088267c20 [] [_] hj) (by exact af Lw [_] [] z1) (by rw[q1];lia) (ON h0) h).Ws λJ3 W3=>?_;lk;refine⟨rfl,?_⟩;simp only[aB];exact W3.le (ck 0x1a104f1104cf6eb38 [] [_])
 ·rw[if_neg h];lk;refine(aX (n:=n-1) G (lp hn rfl) W (af 0x4200013e10508269328e1041318 [] [_] hk) (by exact af KK [] [_] hj) (Mt _) (by rw[L.3];decide) (.inr rfl)).Ws λJ2 W2=>?_;have Ww:=W2.3.1;have Yy:=W2.1 _ _ Y.1;have Ll:=W2.1 _ _ L.1;lk;refine bQ (λh'=>?_) (λh'=>?_);·rw[if_pos h'];lk;refine(aX (n:=n-1) G (lp hn rfl) W2 (af 0x8400027c20a104d2651c2088267b25 [] [_] hk) (by exact af KK [] [_] hj) (Mt _) (by rw[L.3];decide) (.inl rfl)).Ws λJ3 W3=>?_;have Ww:=W3.3.1;have Yy:=W3.1 _ _ Y.1;have Ll:=W3.1 _ _ L.1;lk;refine(jf (n:=n-1) (c:=3) G (lp hn rfl) W3 (Ms _ _) (af 0x4200013e10508269328e106222099edc75340 [] [_] hk) (Nq hj) (by exact af Lw [_] [] z1) (by rw[q2];lia) (by exact af 0x2100009c0841a79c45021069f40829 [_] [] h) (by lia)).Ws λJ4 W4=>?_;lk;refine⟨rfl,?_⟩;simp only[aB];exact W4.le (ck 0x34209e222099edc75345 [] [_])
  ·rw[if_neg h'];lk;refine(aX (n:=n-1) G (lp hn rfl) W2 (af 0x8400027c20a104d2651c2088267b25 [] [_] hk) (by exact af KK [] [_] hj) (Mt _) (by rw[L.3];decide) (.inr rfl)).Ws λJ3 W3=>?_;have Ww:=W3.3.1;have Yy:=W3.1 _ _ Y.1;have Ll:=W3.1 _ _ L.1;lk;refine(jf (n:=n-1) (c:=8) G (lp hn rfl) W3 (Ms _ _) hk hj (Mt _) (by rw[L.6];decide) (by exact af 0x8400027010834f388e021069f4082a [_] [] h') (ao 0x211420001e8009110cc444102d3010834fb012d [_,_] [] h1 Cs)).Ws λJ4 W4=>?_;lk;refine⟨rfl,?_⟩;simp only[aB];exact W4.le (MD _)
inductive EN(d:Int):Prop
 |small (hd:d<=4) (e:aR d=(d-1,0,d-1))
 |big (g:Nat) (h:Int) (g0:2<=g) (g1:g<=31) (hh:h=0∨h=1) (q0:0<=h) (q1:h<=1) (e:aR d=(2*g+h,(g:Int)-1,(2+h)*2^(g-1))) (eb:bH (2*g+h)=((g:Int)-1,(2+h)*2^(g-1)))
  (r0:0<=d-1-(2+h)*2^(g-1)) (r1:d-1-(2+h)*2^(g-1)<2^(g-1))
variable{d:Int}
theorem dL(h0:1<=d)(h1:d<=2^32):EN d:=by
 by_cases hd:d-1<4;·exact .small (af 0x84000270441a711d820810 [_] [] hd) (by unfold aR;rw[if_pos hd])
 ·obtain⟨x,hx⟩:∃x:Nat,d-1=x:=⟨(d-1).toNat,af 0x2100009c2100138836e2a1cbc41a721c [_] [_] (MF (af 0x42000138220d38e2088340818 [_] [] hd))⟩;have hx4:4<=x:=ao 0x421840003d78834e4390441a71c41403311 [_] [_] hd hx;have hl:=tS (x:=x) (aS 0x42384508000a60000000024446378834e439304074000000004142f [_,_] [_] h1 hx xy) (λzz=>Cz Lb [_] [_] zz hd hx);have hl1:2<=x.log2:=(Nat.le_log2 (λzz=>Cz Lb [_] [_] zz hd hx)).mpr (ao 0x421840003d78834e4390441a71c41403311 [_] [_] hd hx);have b1:2^x.log2<=x:=Nat.log2_self_le (λzz=>Cz Lb [_] [_] zz hd hx);have b2:x<2^(x.log2+1):=Nat.lt_log2_self;obtain⟨g,hg⟩:∃g,x.log2=g+1:=⟨x.log2-1,af Ky [] [_,_] (Mf (af LT [] [_] hl1))⟩;have e0:aR d=(2*((g+1:Nat):Int)+(x:Int)/2^g%2,bH (2*((g+1:Nat):Int)+(x:Int)/2^g%2)):=by unfold aR;rw[if_neg hd,hx,MO,hg];rfl
  rw[hg] at b1 b2 hl hl1;have hp:0<2^g:=Nat.pow_pos (by decide);have p1:2^(g+1)=2*2^g:=by rw[TZ];exact ck 0x403405908288529 [] [_]
  have p2:2^(g+1+1)=4*2^g:=by rw[TZ,TZ];exact ck 0x201a01a42105108f538 [] [_]
  have q1:2<=x/2^g:=(Nat.le_div_iff_mul_le hp).mpr (p1▸b1);have q2:x/2^g<4:=(Nat.div_lt_iff_lt_mul hp).mpr (p2▸b2);have q3:x/2^g*2^g+x%2^g=x:=by rw[QT];exact Nat.div_add_mod x (2^g)
  have q4:x%2^g<2^g:=Nat.mod_lt _ hp;have pc:((2^g:Nat):Int)=2^g:=by simp
  have e1:(x:Int)/2^g%2=((x/2^g-2:Nat):Int):=by rw[<-pc,<-Int.natCast_ediv];exact Dw _ q2 q1
  have hh:=Fa _ q2 q1;have e2:(2+((x/2^g-2:Nat):Int))*2^g=((x/2^g*2^g:Nat):Int):=by rw[show(2:Int)+((x/2^g-2:Nat):Int)=((x/2^g:Nat):Int) from af 0x2108009c200013a8413428ed7bc0569a23 [] [_,_] (Mf q1),Int.natCast_mul,pc]
  rw[e1] at e0;have e3:bH (2*((g+1:Nat):Int)+((x/2^g-2:Nat):Int))=(((g+1:Nat):Int)-1,(2+((x/2^g-2:Nat):Int))*2^g):=by
   unfold bH;rw[if_neg (by exact af 0x218c20000fc41380ac760af104fc05903c0e42 [] [_,_] hl1)];have a1:(2*((g+1:Nat):Int)+((x/2^g-2:Nat):Int))/2-1=(g:Int):=DA 0x84908e100094c2584508404a612211290203a180b0f75e209f80b2078156af104fc05903c0587848af22214bc41a721c [_,_] [_,_] e1 (FI _ rfl) (HD _ rfl) (vp _ rfl) (C5 _ rfl);have a2:(2*((g+1:Nat):Int)+((x/2^g-2:Nat):Int))%2=((x/2^g-2:Nat):Int):=by rw[Int.mul_add_emod_self_left];exact hh.elim (λz=>by rw[z];rfl) (λz=>by rw[z];rfl)
   rw[a1,a2,MO];refine We (by show(g:Int)=_;lia) rfl
  refine .big (g+1) ((x/2^g-2:Nat):Int) hl1 hl hh (Mt _) (ao 0x211421001e84121f78283e2e2812 [_] [_] e1 (C5 _ rfl)) ?_ e3 ?_ ?_;·rw[e0,e3];rfl
  ·rw[hx,Vi,e2];exact af 0x219420001ea54234a8ed7b8b4081f [] [_,_,_] q3
  ·rw[hx,Vi,e2,<-pc];exact ao 0x845084007a5a1609daa11a54765ebdc5aa926 [] [_,_,_,_] q3 q4
theorem wL(h0:1<=d)(h1:d<=2^32):0<=(aR d).1/\(aR d).1<=63:=by
 cases dL h0 h1 with
 |small hd e=>rw[e];exact⟨by show 0<=d-1;exact ON h0,by show d-1<=63;exact af 0x4200013820810fc441a7020 [_] [] hd⟩
 |big g h g0 g1 hh q0 q1 e=>rw[e];exact⟨by show 0<=2*(g:Int)+h;exact ao 0x1086100007e0405d015886f01626c0827 [_] [_] g0 q0,by show 2*(g:Int)+h<=63;exact ao 0x421840001f88203be20989fe3780b136e82f [_] [_] g1 q1⟩
theorem fX(h:2<=length):0<=cu length/\cu length+64<=256:=by unfold cu;split<;>constructor<;>lia
theorem qU:∀g:Fin 7,∀b:Fin 2,2<=g.val->And (0<=(2+(b.val:Int))*2^(g.val-1)-(2*(g.val:Int)+b.val)) ((2+(b.val:Int))*2^(g.val-1)-(2*(g.val:Int)+b.val)+2^(g.val-1)<=115):=by decide +kernel
theorem kz{g:Nat}{q:Int}(g0:2<=g)(h:2*(g:Int)+q<14)(hq:q=0∨q=1):0<=(2+q)*2^(g-1)-(2*(g:Int)+q)/\(2+q)*2^(g-1)-(2*(g:Int)+q)+2^(g-1)<=115:=by
 rcases hq with rfl|rfl;·exact an (qU ⟨g,af 0x8400227c2f01626dc259c41411 [] [_] h⟩ 0 g0)
 ·exact an (qU ⟨g,af 0x8400227c22f01626e0261c41411 [] [_] h⟩ 1 g0)
theorem kL(G:Good Z Kg)(hn:6<=n)(W:WS H J A w b s k)(M:aj H A B)(Y:yr H y B.m w pl stt rp)(hk:k+40<=900)(d0:1<=distance)(d1:distance<=2^32)(h0:2<=length):ac Z n (.ref 665) [.ref y,.int distance 0,.int length 0] J (λr J'=>r=.none/\WS H J' A w b (ah s (bS distance length)) (k+40)):=by
 obtain z5:=fX h0;refine run G (lq hn rfl) ?_;lk;refine(sj (n:=n-1) G (lp hn rfl) d0 d1).aaz λJ1 x hx S1=>?_;have W1:=W.sup S1;have Ww:=W1.3.1;have Yy:=W1.1 _ _ Y.1;have Mm:=W1.1 _ _ M.1;refine dO ?_ hx rfl;lk;refine((iu (n:=n-1) G (lp hn rfl) h0)).k01 ?_;have sl:=wL d0 d1;lk;refine(jf (n:=n-1) (c:=6) G (lp hn rfl) W1 (Ms _ _) (af 0x8400027c20a04135195708308268b27 [] [_] hk) (Ms _ _) z5.1 (by rw[M.n6];exact z5.2) sl.1 (by have:=sl.2;exact ill this rfl)).Ws λJ2 W2=>?_;have Ww:=W2.3.1;have Yy:=W2.1 _ _ Y.1;have Mm:=W2.1 _ _ M.1;lk;unfold bS;refine aH (λh=>?_) (λh=>?_);·rw[if_pos h,NG];lk;exact⟨rfl,W2.le (ck 0x68104f08268b2e [] [_])⟩
 ·rw[if_neg h,bw];cases dL d0 d1 with
  |small _ e=>rw[e] at h;exact absurd rfl h
  |big g q g0 g1 hq q0 q1 e eb r0 r1=>
  generalize ah s (az 6 (cu length) 6 1 (aR distance).1)=s2 at*;rw[e] at sl ⊢;rw[eb];dsimp only at sl ⊢;lk;refine bQ (λh14=>?_) (λh14=>?_);·rw[if_pos h14];lk;refine(eC (n:=n-1) G (lp hn rfl) sl.1 sl.2).Ws λa r2=>?_;refine bI r2 λx' c' z4=>?_;rw[z4.2];have W3:=W2.Xf z4.1 c';rw[eb];dsimp only;have bounds:=kz g0 h14 hq;lk;have eg:((g:Int)-1)=((g-1:Nat):Int):=af 0x8400027084004e8a11a3472bc5c5a9222 [] [_,_] (Mf (af LT [] [_] g0));rw[eg,MO];refine(tK (n:=n-1) (c:=g-1) G (lp hn rfl) W3 (ao 0x108a10000f5e2b8f54445f142315f041314 [] [_,_] g1 eg) (aS 0x211c2184000535e25c8aaa25f890ac5b84140826a32ae1056104d16f334 [] [_,_,_] hk g1 eg) (Ms _ _) bounds.1 (by rw[M.n7];exact bounds.2) r0 r1).Ws λJ3 W4=>?_;lk;exact⟨rfl,W4.le (ao 0x845080007abc4b915544bf12158b50209d6104d16f33b [] [_,_,_] g1 eg)⟩
  ·rw[if_neg h14,bw];have g7:7<=g:=ao 0x108610008f70de02c4dba71844101d703311 [_] [_] q1 h14;lk;rw[HM];have eg:((g:Int)-1-4)=((g-5:Nat):Int):=af 0x1080004e108009d4508d3a3d5e08b8b52b0a31 [] [_,_] (Mf (af 0x1080004ee06623503311 [] [_] g7));have er:(2:Int)^(g-1)=2^(g-5)*16:=by rw[show g-1=(g-5)+4 from ao Le [] [_,_,_] eg (Mf (af 0x218c21001eaf045c5a958518d0230f [] [_,_] eg)),Tj];rfl
   generalize distance-1-(2+q)*2^(g-1)=rest at*;rw[er] at r1;rw[eg,MO];refine(zI (n:=n-1) (c:=g-5) G (lp hn rfl) W2 (ao K6 [] [_,_] g1 eg) (aS 0x108e10c200029af044b9155b2234f890ac5b84140826a32ae1056104d16f334 [] [_,_,_] hk g1 eg) (D9 r0 rfl) (ao 0x4218401e3d1c011120410122488a48e6090e [_,_,_] [] r1 (FI _ rfl))).Ws λJ3 W3=>?_;have Ww:=W3.3.1;have Yy:=W3.1 _ _ Y.1;have Mm:=W3.1 _ _ M.1;lk;rw[show(1*2^Pb 4-1:Int)=15 from rfl,CM r0];refine(tK (n:=n-1) (c:=4) G (lp hn rfl) W3 (Ms _ _) (aS 0x847086100014d78225c8aad911a7c48562dc20a0413519570820ac209a2de76b43 [] [_,_,_] hk g1 eg) (Ms _ _) (by decide) (by rw[M.n8];decide) (Nw _ (by decide)) (Nj _ (by decide))).Ws λJ4 W4=>?_;lk;exact⟨rfl,W4.le (ao 0x211420001eaf044b9155b2234f890ac5a8104e0ac209a2de76b4a [] [_,_,_] g1 eg)⟩
theorem jh(G:Good Z Kg)(hn:7<=n)(W:WS H J A w b s k)(M:aj H A B)(Y:yr H y B.m w pl stt rp)(hk:k+52<=900)(st0:0<=state)(st1:state<=11)(p0:0<=place)(d0:1<=distance)(d1:distance<=2^32)(h0:2<=length)(h1:length<=273):ac Z n (.ref 672) [.ref y,.int state 0,.int place 0,.int distance 0,.int length 0] J (λr J'=>r=.none/\WS H J' A w b (ah s (B.WW state place distance length)) (k+52)):=by have Ww:=W.3.1;have Yy:=W.1 _ _ Y.1;have Mm:=W.1 _ _ M.1;obtain z3:=bF M (place:=place) st0 st1;refine run G (lq hn rfl) ?_;lk;refine((c4 (n:=n-1) G (lp hn rfl) W.1 M p0)).k01 ?_;lk;refine(aX (n:=n-1) G (lp hn rfl) W (af 0x1080004f841a0826a32ae1041318 [] [_] hk) (Ms _ _) z3.1 (by rw[M.n0];exact z3.2) (.inr rfl)).Ws λJ2 W2=>?_;have Ww:=W2.3.1;have Yy:=W2.1 _ _ Y.1;have Mm:=W2.1 _ _ M.1;lk;refine(aX (n:=n-1) G (lp hn rfl) W2 (af 0x2100009f0834104d4655c2088267b25 [] [_] hk) (Ms _ _) st0 (by rw[M.n1];exact ill st1 rfl) (.inl rfl)).Ws λJ3 W3=>?_;have Yy:=W3.1 _ _ Y.1;have Mm:=W3.1 _ _ M.1;lk;refine(ir (n:=n-1) G (lp hn rfl) W3 M Y M.aaI (af 0x4200013e1068209a8cab8414222099edc76342 [] [_] hk) p0 h0 h1).Ws λJ4 W4=>?_;have Yy:=W4.1 _ _ Y.1;lk;refine(kL (n:=n-1) G (lp hn rfl) W4 M Y hk d0 d1 h0).Ws λJ5 W5=>?_;lk;refine⟨rfl,?_⟩;unfold MA.WW;simp only[aB,bw];exact W5.le (MD _)
theorem pH(G:Good Z Kg)(hn:5<=n)(W:WS H J A w b s k)(M:aj H A B)(Y:yr H y B.m w pl stt rp)(hk:k+3<=900){index:Int}(st0:0<=state)(st1:state<=11)(p0:0<=place)(i0:0<=index)(i1:index<=3):ac Z n (.ref 679) [.ref y,.int state 0,.int place 0,.int index 0] J (λr J'=>r=.none/\WS H J' A w b (ah s (B.Xg state place index)) (k+3)):=by
 have Ww:=W.3.1;have Yy:=W.1 _ _ Y.1;have Mm:=W.1 _ _ M.1;obtain z2:=bF M (place:=place) st0 st1;refine run G (lq hn rfl) ?_;lk;unfold MA.Xg;refine aH (λh=>?_) (λh=>?_);·rw[if_pos h];lk;refine(aX (n:=n-1) G (lp hn rfl) W (af 0x1080004f84188268326e1041318 [] [_] hk) (Ms _ _) st0 (by rw[M.n2];exact ill st1 rfl) (.inl rfl)).Ws λJ2 W2=>?_;have Ww:=W2.3.1;have Yy:=W2.1 _ _ Y.1;have Mm:=W2.1 _ _ M.1;lk;refine((c4 (n:=n-1) G (lp hn rfl) W2.1 M p0)).k01 ?_;lk;refine(aX (n:=n-1) G (lp hn rfl) W2 (af Lr [] [_] hk) (Ms _ _) z2.1 (by rw[M.n5];exact z2.2) (.inr rfl)).Ws λJ3 W3=>?_;lk;refine⟨rfl,?_⟩;simp only[aB,dl];exact W3.le (ck 0x388271104cf6e335 [] [_])
 ·rw[if_neg h];lk;refine(aX (n:=n-1) G (lp hn rfl) W (af 0x1080004f84188268326e1041318 [] [_] hk) (Ms _ _) st0 (by rw[M.n2];exact ill st1 rfl) (.inr rfl)).Ws λJ2 W2=>?_;have Ww:=W2.3.1;have Yy:=W2.1 _ _ Y.1;have Mm:=W2.1 _ _ M.1;lk;refine aH (λh'=>?_) (λh'=>?_);·rw[if_pos h'];lk;refine(aX (n:=n-1) G (lp hn rfl) W2 (af Lr [] [_] hk) (Ms _ _) st0 (by rw[M.n3];exact ill st1 rfl) (.inl rfl)).Ws λJ3 W3=>?_;lk;refine⟨rfl,?_⟩;simp only[aB,dl];exact W3.le (ck 0x388271104cf6e335 [] [_])
  ·rw[if_neg h'];lk;refine(aX (n:=n-1) G (lp hn rfl) W2 (af Lr [] [_] hk) (Ms _ _) st0 (by rw[M.n3];exact ill st1 rfl) (.inr rfl)).Ws λJ3 W3=>?_;have Ww:=W3.3.1;have Yy:=W3.1 _ _ Y.1;have Mm:=W3.1 _ _ M.1;lk;refine(aX (n:=n-1) G (lp hn rfl) W3 (Nq hk) (Ms _ _) st0 (by rw[M.n4];exact ill st1 rfl) (by lia)).Ws λJ4 W4=>?_;lk;refine⟨rfl,?_⟩;simp only[aB,dl];exact W4.le (MD _)
theorem pu(G:Good Z Kg)(hn:5<=n)(W:WS H J A w b s k)(M:aj H A B)(Y:yr H y B.m w pl stt rp)(hk:k+4<=900)(st0:0<=state)(st1:state<=11)(p0:0<=place):ac Z n (.ref 693) [.ref y,.int state 0,.int place 0] J (λr J'=>r=.none/\WS H J' A w b (ah s (B.Xu state place)) (k+4)):=by have Ww:=W.3.1;have Yy:=W.1 _ _ Y.1;have Mm:=W.1 _ _ M.1;obtain z1:=bF M (place:=place) st0 st1;refine run G (lq hn rfl) ?_;lk;refine((c4 (n:=n-1) G (lp hn rfl) W.1 M p0)).k01 ?_;lk;refine(aX (n:=n-1) G (lp hn rfl) W (af 0x2100009f08208268b27e1041318 [] [_] hk) (Ms _ _) z1.1 (by rw[M.n0];exact z1.2) (.inr rfl)).Ws λJ2 W2=>?_;have Ww:=W2.3.1;have Yy:=W2.1 _ _ Y.1;have Mm:=W2.1 _ _ M.1;lk;refine(aX (n:=n-1) G (lp hn rfl) W2 (af 0x4200013e104104d164fc2088267b25 [] [_] hk) (Ms _ _) st0 (by rw[M.n1];exact ill st1 rfl) (.inr rfl)).Ws λJ3 W3=>?_;have Ww:=W3.3.1;have Yy:=W3.1 _ _ Y.1;have Mm:=W3.1 _ _ M.1;lk;refine(aX (n:=n-1) G (lp hn rfl) W3 (af 0x8400027c208209a2c9f8411104cf6e332 [] [_] hk) (Ms _ _) st0 (by rw[M.n2];exact ill st1 rfl) (.inl rfl)).Ws λJ4 W4=>?_;have Ww:=W4.3.1;have Yy:=W4.1 _ _ Y.1;have Mm:=W4.1 _ _ M.1;lk;refine((c4 (n:=n-1) G (lp hn rfl) W4.1 M p0)).k01 ?_;lk;refine(aX (n:=n-1) G (lp hn rfl) W4 (Nq hk) (Ms _ _) z1.1 (by rw[M.n5];exact z1.2) (.inl rfl)).Ws λJ5 W5=>?_;lk;refine⟨rfl,?_⟩;unfold MA.Xu;simp only[aB,dl];exact W5.le (MD _)
noncomputable def gQ(state:Int):Int:=if state<4 then 0 else if state<10 then state-3 else state-6
noncomputable def bE(state:Int):Int:=if state<7 then 7 else 10
noncomputable def gk(state:Int):Int:=if state<7 then 8 else 11
noncomputable def cH(state:Int):Int:=if state<7 then 9 else 11
noncomputable def bt(l:List Int):List Value:=l.map λi=>.int i 0
variable{i:Nat}
theorem e9(G:Good Z Kg)(hn:0<n):ac Z n (.ref 220) [.int x 0] J (λv J'=>v=.int (gQ x) 0/\J=J'):=by
 refine run G hn ?_;unfold gQ;lk;refine bQ (λh=>?_) (λh=>?_);·rw[if_pos h];lk;exact⟨rfl,rfl⟩
 ·rw[if_neg h];lk;refine bQ (λh=>?_) (λh=>?_);·rw[if_pos h];lk;exact⟨rfl,rfl⟩
  ·rw[if_neg h];lk;exact⟨rfl,rfl⟩
theorem ca(G:Good Z Kg)(hn:0<n):ac Z n (.ref 227) [.int x 0] J (λv J'=>v=.int (bE x) 0/\J=J'):=by
 refine run G hn ?_;unfold bE;lk;refine bQ (λh=>?_) (λh=>?_);·rw[if_pos h];lk;exact⟨rfl,rfl⟩
 ·rw[if_neg h];lk;exact⟨rfl,rfl⟩
theorem i4(G:Good Z Kg)(hn:0<n):ac Z n (.ref 234) [.int x 0] J (λv J'=>v=.int (gk x) 0/\J=J'):=by
 refine run G hn ?_;unfold gk;lk;refine bQ (λh=>?_) (λh=>?_);·rw[if_pos h];lk;exact⟨rfl,rfl⟩
 ·rw[if_neg h];lk;exact⟨rfl,rfl⟩
theorem gd(G:Good Z Kg)(hn:0<n):ac Z n (.ref 241) [.int x 0] J (λv J'=>v=.int (cH x) 0/\J=J'):=by
 refine run G hn ?_;unfold cH;lk;refine bQ (λh=>?_) (λh=>?_);·rw[if_pos h];lk;exact⟨rfl,rfl⟩
 ·rw[if_neg h];lk;exact⟨rfl,rfl⟩
theorem cA(G:Good Z Kg)(hn:0<n):ac Z n (.ref 588) [.int x 0,u] J (λv J'=>v=.none/\J=J'):=by refine run G hn ?_;lk;refine iy (r:=Mj) ?_ .int;lk;refine iy (r:=Mh) ?_ .aaP;lk;exact⟨rfl,rfl⟩
theorem aZ(G:Good Z Kg)(hn:2<=n){lo hi:Int}(h0:lo<=x)(h1:x<=hi):ac Z n (.ref 595) [.int x 0,.int lo 0,.int hi 0,u] J (λv J'=>v=.none/\J=J'):=by refine run G (lq hn rfl) ?_;lk;refine((cA (n:=n-1) G (lp hn rfl))).k01 ?_;lk;refine bQ (λh=>fb 0x210c20001ec8843a6080e [_,_] [] h0 h) (λa=>?_);lk;lk;refine nv (λh=>fb 0x210c20001ec8843a6080e [_,_] [] h1 h) (λa=>?_);lk;exact⟨rfl,rfl⟩
theorem sk(G:Good Z Kg)(hn:7<=n)(W:WS H J A w b s k)(M:aj H A B)(Y:yr H y B.m w pl stt rp)(hk:k+15<=900){index:Int}(st0:0<=state)(st1:state<=11)(p0:0<=place)(i0:0<=index)(i1:index<=3)(h0:2<=length)(h1:length<=273):ac Z n (.ref 686) [.ref y,.int state 0,.int place 0,.int index 0,.int length 0] J (λr J'=>r=.none/\WS H J' A w b (ah s (B.XZ state place index length)) (k+15)):=by have Ww:=W.3.1;have Yy:=W.1 _ _ Y.1;have Mm:=W.1 _ _ M.1;obtain z1:=bF M (place:=place) st0 st1;refine run G (lq hn rfl) ?_;lk;refine((aZ (n:=n-1) G (lp hn rfl) i0 i1)).k01 ?_;lk;refine((c4 (n:=n-1) G (lp hn rfl) W.1 M p0)).k01 ?_;lk;refine(aX (n:=n-1) G (lp hn rfl) W (af 0x4200013e10788269328e1041318 [] [_] hk) (Ms _ _) z1.1 (by rw[M.n0];exact z1.2) (.inr rfl)).Ws λJ2 W2=>?_;have Ww:=W2.3.1;have Yy:=W2.1 _ _ Y.1;have Mm:=W2.1 _ _ M.1;lk;refine(aX (n:=n-1) G (lp hn rfl) W2 (af 0x8400027c20f104d2651c2088267b25 [] [_] hk) (Ms _ _) st0 (by rw[M.n1];exact ill st1 rfl) (.inr rfl)).Ws λJ3 W3=>?_;have Yy:=W3.1 _ _ Y.1;have Mm:=W3.1 _ _ M.1;lk;refine(pH (n:=n-1) G (lp hn rfl) W3 M Y (af 0x4200013e10788269328e106222099edc75340 [] [_] hk) st0 st1 p0 i0 i1).Ws λJ4 W4=>?_;have Yy:=W4.1 _ _ Y.1;have Mm:=W4.1 _ _ M.1;lk;refine(ir (n:=n-1) G (lp hn rfl) W4 M Y M.aa0 hk p0 h0 h1).Ws λJ5 W5=>?_;lk;refine⟨rfl,?_⟩;unfold MA.XZ;simp only[aB,bw];exact W5.le (MD _)
inductive eW(J:Sg)(rp q:Ml)(l:List Int):Prop where
 |mk (o:J rp=Md (.Wv 407 [(Jr,.ref q)]))
  (q:J q=Md (.list (bt l)))
  (len:l.length=4)
noncomputable def fQ(l:List Int)(i:Nat):List Int:=l.getD i 0::(l.take i++l.drop (i+1))
theorem fK(h:i<l.length):(bt l)[i]?=Md (.int (l.getD i 0) 0):=by unfold bt;rw[MM,MH h,Mx,MH h];rfl
theorem bp(G:Good Z Kg)(hn:0<n)(R:eW J rp q l):ac Z n (.ref 383) [.ref rp] J (λv J'=>v=.int (l.getD 0 0) 0/\J=J'):=by have h1:=R.1;refine run G hn ?_;lk;refine av R.2 (by decide) (by decide) (fK (i:=0) (by rw[R.3];decide)) ?_;lk;exact⟨rfl,rfl⟩
theorem mW(G:Good Z Kg)(hn:0<n)(S:Sub H J)(R:eW J rp q l)(hr:H rp=Mr):ac Z n (.ref 397) [.ref rp,.int d 0] J (λv J'=>v=.none/\Sub H J'/\∃q',J q'=Mr/\eW J' rp q' (d::l.take 3)/\∀a c,a≠rp->J a=Md c->J' a=Md c):=by
 have h1:=R.1;have hlen:(bt l).length=4:=by unfold bt;rw[Mu];exact R.3
 have ne:∀{a x:Ml}{c:Cell}{τ:Sg},τ a=Md c->τ x=Mr->a≠x:=λe e' z=>by rw[z,e'] at e;cases e
 refine run G hn ?_;lk;intro x hx;have e1:=(ag J (.list [.int d 0]) (ne h1 hx)).trans h1;have e2:=(ag J (.list [.int d 0]) (ne R.2 hx)).trans R.2;lk;refine ix e2 (i:=0) (j:=3) rfl (Dq hlen rfl) ?_;intro z hz;have hxz:x≠z:=ne (aa J x (.list [.int d 0])) hz;refine d7 ((ag _ _ hxz).trans (aa _ _ _)) (aa _ _ _) (by simp[hlen]) ?_;intro v hv;have e3:=(ag (upd J x (.list [.int d 0])) (.list (((bt l).take 3).drop 0)) (ne e1 hz)).trans e1;have e4:=(ag _ (.list ([OD d 0]++((bt l).take 3).drop 0)) (ne e3 hv)).trans e3;refine jP ?_ rfl;refine gV e4 rfl rfl ?_;lk;have S1:=S.upd (S.none hx) (.list [.int d 0]);have S2:=S1.upd (S1.none hz) (.list (((bt l).take 3).drop 0));have S3:=S2.upd (S2.none hv) (.list ([OD d 0]++((bt l).take 3).drop 0));have hvr:v≠rp:=(ne e3 hv).symm;have hσv:J v=none:=by
  have hvz:v≠z:=λe=>by rw[e,aa] at hv;cases hv
  have hvx:v≠x:=λe=>by rw[e,ag _ _ hxz,aa] at hv;cases hv
  rw[ag _ _ hvz,ag _ _ hvx] at hv;exact hv
 refine⟨rfl,S3.upd hr _,v,hσv,⟨aa _ _ _,(ag _ _ hvr).trans ((aa _ _ _).trans ?_),?_⟩,λa c ha e=>?_⟩;·simp[bt,Rx]
 ·simp[R.3]
 ·have a1:=(ag J (.list [.int d 0]) (ne e hx)).trans e;have a2:=(ag _ (.list (((bt l).take 3).drop 0)) (ne a1 hz)).trans a1;have a3:=(ag _ (.list ([OD d 0]++((bt l).take 3).drop 0)) (ne a2 hv)).trans a2;exact(ag _ _ ha).trans a3
theorem Wu{x:Ml}(h:J x=Mr)(c:Cell):Sub J (upd J x c):=Sub.rfl.upd h c
theorem mV(G:Good Z Kg)(hn:0<n)(hi:i<=3)(S:Sub H J)(R:eW J rp q l)(hr:H rp=Mr):ac Z n (.ref 390) [.ref rp,.int i 0] J (λv J'=>v=.int (l.getD i 0) 0/\Sub H J'/\∃q',J q'=Mr/\eW J' rp q' (fQ l i)/\∀a c,a≠rp->J a=Md c->J' a=Md c):=by
 have h1:=R.1;have hlen:(bt l).length=4:=by unfold bt;rw[Mu];exact R.3
 refine run G hn ?_;lk;refine av R.2 (Mt _) (FN hi rfl) (fK (i:=i) (by rw[R.3];exact kI hi rfl)) ?_;lk;intro x hx;have T1:=Wu hx (.list [.int (l.getD i 0) 0]);have e1:=T1 _ _ h1;lk;refine ix (T1 _ _ R.2) (i:=0) (j:=i) ((sF (Mt _) (FN hi rfl)).trans (by rw[MO])) (Dq hlen rfl) ?_;intro z hz;have T2:=T1.trans (Wu hz (.list (((bt l).take i).drop 0)));refine d7 (Wu hz _ _ _ (aa _ _ _)) (aa _ _ _) (by simp[hlen];exact ao 0x421840003d504c3f142312c3500a0467b2c [] [_,_] hi (OS _ _)) ?_;intro v hv;have T3:=T2.trans (Wu hv (.list ([OD (l.getD i 0) 0]++((bt l).take i).drop 0)));have e3:=T3 _ _ h1;refine jP (AW ?_ e3 rfl) rfl;lk;refine ix (T3 _ _ R.2) (i:=i+1) (j:=4) ((qv (Mt _) (ao 0x422840003d000000000000000020a4dc41310c413e911c [_] [_] hi d5)).trans (by rw[hlen];congr 1)) (Dq hlen rfl) ?_;intro u hu;have T4:=T3.trans (Wu hu (.list (((bt l).take 4).drop (i+1))));refine d7 (Wu hu _ _ _ (aa _ _ _)) (aa _ _ _) (by simp[hlen];exact ao 0x421840003d89508d2a4128262186a015104cf6e339 [] [_,_,_] (OS _ _) (Mf hi)) ?_;intro p hp;have T5:=T4.trans (Wu hp (.list (([OD (l.getD i 0) 0]++((bt l).take i).drop 0)++((bt l).take 4).drop (i+1))));refine jP ?_ rfl;refine gV (T5 _ _ h1) rfl rfl ?_;lk;have hσp:J p=none:=by
  cases e:J p with
  |none=>rfl
  |some c=>have:=T4 _ _ e;rw[hp] at this;cases this
 have hpr:p≠rp:=El hσp h1;refine⟨rfl,(S.trans T5).upd hr _,p,hσp,⟨aa _ _ _,(ag _ _ hpr).trans ((aa _ _ _).trans ?_),?_⟩,λa c ha e=>(ag _ _ ha).trans (T5 _ _ e)⟩;·have:(bt l).take 4=bt l:=PM (Ot hlen);rw[this];simp[bt,fQ,Rx,Tz]
 ·simp[fQ,R.3];exact AA _ hi
structure LS where
 pl:Int
 st:Int
 back:List Int
inductive LW(H J:Sg)(A:Rows)(B:MA)(w b y rp q:Ml)(s:CS)(k:Nat)(v:LS):Prop where
 |mk(W:WS H J A w b s k)
  (yo:J y=Md (.Wv 822 [(Jt,.ref B.m),(Jz,.ref w),(Jv,.int v.pl 0),(Jx,.int v.st 0),(Jw,.ref rp)]))
  (hy:H y=Mr)
  (R:eW J rp q v.back)
  (hr:H rp=Mr)
  (off:∀j,j<18->A.ra j≠q/\A.da j≠q)
  (st0:0<=v.st)
  (st1:v.st<=11)
  (pl0:0<=v.pl)
noncomputable def lN(y rp q:Ml):Ml->Prop:=λa=>a=y∨a=rp∨a=q
theorem aj.Wr(M:aj H A B)(S:Sub H H'):aj H' A B:=⟨S _ _ M.1,S _ _ M.2,S _ _ M.3,S _ _ M.4,M.5,M.6,M.7,M.8⟩
theorem Sub.Xy(S:Sub H J)(P:Ml->Prop):Sub H (aU H J P):=λa c e=>by
 unfold aU;split;·exact S a c e
 ·exact e
theorem WS.held(W:WS H J A w b s k)(hw:¬P w)(hb:¬P b)(hP:∀j,j<18->¬P (A.ra j)/\¬P (A.da j)):WS (aU H J P) J A w b s k:=
 ⟨W.1.WU P,W.2,W.3,ai hw W.4,ai hb W.5,λj hj=>⟨ai (hP j hj).1 (W.6 j hj).1,ai (hP j hj).2 (W.6 j hj).2⟩,W.7,W.8,W.9⟩
theorem WS.Zl{s':CS}{k':Nat}(W:WS H J A w b s k)(W':WS (aU H J P) J' A w b s' k'):WS H J' A w b s' k':=
 ⟨W.1.Xk W'.1,W'.2,W'.3,W.4,W.5,W.6,W'.7,W'.8,W'.9⟩
theorem WS.upd(W:WS H J A w b s k)(ha:H a=Mr)(c:Cell)(hw:w≠a)(hb:b≠a)(hr:∀j,j<18->A.ra j≠a/\A.da j≠a):WS H (Internal.upd J a c) A w b s k:=
 ⟨W.1.upd ha c,λj hj=>(W.2 j hj).upd (hr j hj).1 (hr j hj).2,⟨(ag _ _ hw).trans W.3.1,(ag _ _ hb).trans W.3.2⟩,W.4,W.5,W.6,W.7,W.8,W.9⟩
theorem WS.neI(W:WS H J A w b s k){C:Nat}(h:J a=Md (.Wv C fs))(h1:C≠159)(h2:C≠1095):w≠a/\b≠a/\∀j,j<18->A.ra j≠a/\A.da j≠a:=
 ⟨λz=>by have:=W.3.1;rw[z,h] at this;cases this;exact h2 rfl,λz=>by(have:=W.3.2;rw[z,h] at this;cases this),λj hj=>(W.2 j hj).neI h h1⟩
section
variable{st:List Me}{k body:T}
end
variable{v:LS}
theorem LW.hyp(L:LW H J A B w b y rp q s k v):¬lN y rp q w/\¬lN y rp q b/\∀j,j<18->¬lN y rp q (A.ra j)/\¬lN y rp q (A.da j):=by
 have a1:=L.1.neI L.2 (by decide) (by decide);have a2:=L.1.neI L.4.1 (by decide) (by decide);have a3:w≠q:=mn L.1.3.1 L.4.2 rfl;have a4:b≠q:=mn L.1.3.2 L.4.2 rfl;refine⟨?_,?_,λj hj=>⟨?_,?_⟩⟩
 ·rintro(z|z|z);·exact a1.1 z
  ·exact a2.1 z
  ·exact a3 z
 ·rintro(z|z|z);·exact a1.2.1 z
  ·exact a2.2.1 z
  ·exact a4 z
 ·rintro(z|z|z);·exact(a1.2.2 j hj).1 z
  ·exact(a2.2.2 j hj).1 z
  ·exact(L.6 j hj).1 z
 ·rintro(z|z|z);·exact(a1.2.2 j hj).2 z
  ·exact(a2.2.2 j hj).2 z
  ·exact(L.6 j hj).2 z
theorem LW.WH(L:LW H J A B w b y rp q s k v):WS (aU H J (lN y rp q)) J A w b s k:=L.1.held L.hyp.1 L.hyp.2.1 L.hyp.2.2
theorem tu{c:Cell}(hp:P a)(e:J a=Md c):aU H J P a=Md c:=by unfold aU;rw[if_pos hp];exact e
theorem LW.cod(L:LW H J A B w b y rp q s k v):yr (aU H J (lN y rp q)) y B.m w v.pl v.st rp:=⟨tu (.inl rfl) L.2⟩
theorem LW.next(L:LW H J A B w b y rp q s k v){s':CS}{k':Nat}(W':WS (aU H J (lN y rp q)) J' A w b s' k'):LW H J' A B w b y rp q s' k' v:=
 ⟨L.1.Zl W',W'.1.at (.inl rfl) L.2,L.3,⟨W'.1.at (.inr (.inl rfl)) L.4.1,W'.1.at (.inr (.inr rfl)) L.4.2,L.4.3⟩,L.5,L.6,L.7,L.8,L.9⟩
theorem LW.set(L:LW H J A B w b y rp q s k v){st:Int}(h0:0<=st)(h1:st<=11)(h2:0<=pl)(e:J'=Internal.upd J y (.Wv 822 [(Jt,.ref B.m),(Jz,.ref w),(Jv,.int pl 0),(Jx,.int st 0),(Jw,.ref rp)])):LW H J' A B w b y rp q s k ⟨pl,st,v.back⟩:=by have a1:=L.1.neI L.2 (by decide) (by decide);have n1:rp≠y:=tA L.4.1 L.2 (by decide);have n2:q≠y:=mn L.4.2 L.2 rfl;subst e;exact⟨L.1.upd L.3 _ a1.1 a1.2.1 a1.2.2,aa _ _ _,L.3,⟨(ag _ _ n1).trans L.4.1,(ag _ _ n2).trans L.4.2,L.4.3⟩,L.5,L.6,h0,h1,h2⟩
theorem jI(h0:0<=x)(h1:x<=11):0<=gQ x/\gQ x<=11:=by unfold gQ;split<;>(try split)<;>constructor<;>lia
theorem sN(G:Good Z Kg)(hn:8<=n)(L:LW H J A B w b y rp q s k v)(M:aj H A B)(hk:k+9<=900)(o0:0<=octet)(o1:octet<=255)(b0:0<=before)(b1:before<=255)(m0:0<=mt')(m1:mt'<=255):ac Z n (.ref 756) [.ref y,.int octet 0,.int before 0,.int mt' 0] J (λr J'=>r=.none/\LW H J' A B w b y rp q (ah s (B.Xq v.st v.pl before octet mt')) (k+9) ⟨v.pl+1,gQ v.st,v.back⟩):=by
 have Yy:=L.2;refine run G (lq hn rfl) ?_;lk;intro x hx;have hq:q≠x:=yx L.4.2 hx;have L1:LW H (upd J x (.tup [.int octet 0,.int before 0,.int mt' 0])) A B w b y rp q s k v:=
  ⟨L.1.Xf hx _,Wu hx _ _ _ L.2,L.3,⟨Wu hx _ _ _ L.4.1,Wu hx _ _ _ L.4.2,L.4.3⟩,L.5,L.6,L.7,L.8,L.9⟩
 generalize hσ1:upd J x (.tup [.int octet 0,.int before 0,.int mt' 0])=J1 at*;have hx1:J1 x=Md (.tup [.int octet 0,.int before 0,.int mt' 0]):=by rw[<-hσ1];exact aa _ _ _
 refine qC [(JM,.ref y),(IC,.int octet 0),(JV,.int before 0),(Ka,.int mt' 0)] hx1 rfl ?_ ?_;·intro j u Q' hu hnext;refine ae (Eg (P:=λu=>∃i:Int,u=.int i 0/\0<=i/\i<=255) ⟨octet,rfl,o0,o1⟩ ⟨before,rfl,b0,b1⟩ ⟨mt',rfl,m0,m1⟩ hu) λi z9=>?_;have i0:=z9.2.1;have i1:=z9.2.2;rw[z9.1];lk;refine((aZ (n:=n-1) G (lp hn rfl) i0 i1)).k01 ?_;lk;exact hnext rfl
 ·clear Yy;have Yy:=L1.2;lk;refine(ms (n:=n-1) G (lp hn rfl) L1.WH (M.Wr (L1.1.1.Xy _)) L1.cod hk L1.7 L1.8 L1.9 b0 b1 o0 m0).Ws λJ2 W2=>?_;have L2:=L1.next W2;have Yy:=L2.2;lk;refine((e9 (n:=n-1) G (lp hn rfl))).k01 ?_;lk;obtain z2:=jI L.7 L.8;have z0:=z2.1;have z1:=z2.2;exact⟨rfl,L2.set z0 z1 (by have:=L.9;exact BS this rfl) rfl⟩
theorem bO{d:Ml}{len:Nat}(R:Row J r d len f):J r≠Mr/\J d≠none:=by
 rcases R with⟨rfl,xs,e,_⟩|⟨e,m,em,_⟩;·exact⟨by rw[e];exact nofun,by rw[e];exact nofun⟩
 ·exact⟨by rw[e];exact nofun,by rw[em];exact nofun⟩
theorem LW.Zm(L:LW H J A B w b y rp q s k v){q':Ml}(hq:J q'=Mr)(R:eW J' rp q' l)(keep:∀a c,a≠rp->J a=Md c->J' a=Md c):LW H J' A B w b y rp q' s k ⟨v.pl,v.st,l⟩:=by
 have a2:=L.1.neI L.4.1 (by decide) (by decide);have n1:y≠rp:=tA L.2 L.4.1 (by decide);refine⟨⟨λa c e=>keep a c (yx e L.5) (L.1.1 a c e),λj hj=>(L.1.2 j hj).keep λa c h e=>keep a c (λz=>?_) e,⟨keep _ _ a2.1 L.1.3.1,keep _ _ a2.2.1 L.1.3.2⟩,L.1.4,L.1.5,L.1.6,L.1.7,L.1.8,L.1.9⟩,
  keep _ _ n1 L.2,L.3,R,L.5,λj hj=>⟨λz=>(bO (L.1.2 j hj)).1 (by rw[z];exact hq),λz=>(bO (L.1.2 j hj)).2 (by rw[z];exact hq)⟩,L.7,L.8,L.9⟩
 rcases h with h|h;·exact(a2.2.2 j hj).1 (h.symm.trans z)
 ·exact(a2.2.2 j hj).2 (h.symm.trans z)
theorem cC(G:Good Z Kg)(hn:2<=n)(L:LW H J A B w b y rp q s k v)(h0:1<=d)(h1:d<=v.pl):ac Z n (.ref 742) [.ref y,.int d 0] J (λr J'=>r=.none/\J=J'):=by have Yy:=L.2;refine run G (lq hn rfl) ?_;lk;refine((cA (n:=n-1) G (lp hn rfl))).k01 ?_;lk;refine jN (λa=>?_) (λh=>fb 0x108610000f60418470200e [_] [] h0 h);lk;refine vW (λa=>?_) (λh=>fb 0x108610000f4c118466080e [_,_] [] h1 h);lk;exact⟨rfl,rfl⟩
theorem fU(G:Good Z Kg)(hn:3<=n)(h0:2<=d)(h1:d<=273):ac Z n (.ref 749) [u,.int d 0] J (λr J'=>r=.none/\J=J'):=by refine run G (lq hn rfl) ?_;lk;refine((aZ (n:=n-1) G (lp hn rfl) h0 h1)).k01 ?_;lk;exact⟨rfl,rfl⟩
theorem bZ:(0<=bE x/\bE x<=11)/\(0<=gk x/\gk x<=11)/\0<=cH x/\cH x<=11:=by unfold bE gk cH;refine⟨?_,?_,?_⟩<;>split<;>exact⟨by decide,by decide⟩
theorem wg(G:Good Z Kg)(hn:8<=n)(L:LW H J A B w b y rp q s k v)(M:aj H A B)(hk:k+52<=900)(d0:1<=distance)(d1:distance<=v.pl)(d2:v.pl<=2^32)(h0:2<=length)(h1:length<=273):ac Z n (.ref 763) [.ref y,.int distance 0,.int length 0] J (λr J'=>r=.none/\∃q',LW H J' A B w b y rp q' (ah s (B.WW v.st v.pl distance length)) (k+52) ⟨v.pl+length,bE v.st,distance::v.back.take 3⟩):=by have Yy:=L.2;refine run G (lq hn rfl) ?_;lk;refine((cC (n:=n-1) G (lp hn rfl) L d0 d1)).k01 ?_;lk;refine((fU (n:=n-1) G (lp hn rfl) h0 h1)).k01 ?_;lk;refine(jh (n:=n-1) G (lp hn rfl) L.WH (M.Wr (L.1.1.Xy _)) L.cod hk L.7 L.8 L.9 d0 (OV d1 d2) h0 h1).Ws λJ2 W2=>?_;have L2:=L.next W2;have Yy:=L2.2;have Rr:=L2.4.1;lk;refine(mW (n:=n-1) G (lp hn rfl) L2.1.1 L2.4 L2.5).Ws λJ3 r1=>?_;refine ae r1.2 λq' z2=>?_;have L3:=L2.Zm z2.1 z2.2.1 z2.2.2;have Yy:=L3.2;lk;refine((ca (n:=n-1) G (lp hn rfl))).k01 ?_;lk;have z:=(bZ (x:=v.st)).1;exact⟨rfl,q',L3.set z.1 z.2 (by have:=L.9;show 0<=v.pl+length;exact aS 0x845086100014cc0502588a03e302012982c0818 [_,_,_] [] d0 d1 h0) rfl⟩
theorem Cx(G:Good Z Kg)(hn:8<=n)(L:LW H J A B w b y rp q s k v)(M:aj H A B)(hk:k+15<=900)(hi:i<=3)(d0:1<=v.back.getD i 0)(d1:v.back.getD i 0<=v.pl)(h0:2<=length)(h1:length<=273):ac Z n (.ref 770) [.ref y,.int i 0,.int length 0] J (λr J'=>r=.none/\∃q',LW H J' A B w b y rp q' (ah s (B.XZ v.st v.pl i length)) (k+15) ⟨v.pl+length,gk v.st,fQ v.back i⟩):=by have Yy:=L.2;have Rr:=L.4.1;refine run G (lq hn rfl) ?_;lk;refine((aZ (n:=n-1) G (lp hn rfl) (Mt _) (nF hi))).k01 ?_;lk;refine av L.4.2 (Mt _) (FN hi rfl) (fK (i:=i) (by rw[L.4.3];exact kI hi rfl)) ?_;lk;refine((cC (n:=n-1) G (lp hn rfl) L d0 d1)).k01 ?_;lk;refine((fU (n:=n-1) G (lp hn rfl) h0 h1)).k01 ?_;lk;refine(sk (n:=n-1) G (lp hn rfl) L.WH (M.Wr (L.1.1.Xy _)) L.cod hk L.7 L.8 L.9 (Mt _) (nF hi) h0 h1).Ws λJ2 W2=>?_;have L2:=L.next W2;have Yy:=L2.2;have Rr:=L2.4.1;lk;refine(mV (n:=n-1) G (lp hn rfl) hi L2.1.1 L2.4 L2.5).Ws λJ3 r2=>?_;refine ae r2.2 λq' z1=>?_;have L3:=L2.Zm z1.1 z1.2.1 z1.2.2;have Yy:=L3.2;lk;refine((i4 (n:=n-1) G (lp hn rfl))).k01 ?_;lk;have z:=(bZ (x:=v.st)).2.1;exact⟨rfl,q',L3.set z.1 z.2 (by have:=L.9;show 0<=v.pl+length;exact aS 0x845086100014cc0502588a03e302012982c0818 [_,_,_] [] d0 d1 h0) rfl⟩
theorem wP(G:Good Z Kg)(hn:8<=n)(L:LW H J A B w b y rp q s k v)(M:aj H A B)(hk:k+4<=900)(d0:1<=v.back.getD 0 0)(d1:v.back.getD 0 0<=v.pl):ac Z n (.ref 777) [.ref y] J (λr J'=>r=.none/\LW H J' A B w b y rp q (ah s (B.Xu v.st v.pl)) (k+4) ⟨v.pl+1,cH v.st,v.back⟩):=by have Yy:=L.2;have Rr:=L.4.1;refine run G (lq hn rfl) ?_;lk;refine((bp (n:=n-1) G (lp hn rfl) L.4)).k01 ?_;lk;refine((cC (n:=n-1) G (lp hn rfl) L d0 d1)).k01 ?_;lk;refine(pu (n:=n-1) G (lp hn rfl) L.WH (M.Wr (L.1.1.Xy _)) L.cod hk L.7 L.8 L.9).Ws λJ2 W2=>?_;have L2:=L.next W2;have Yy:=L2.2;lk;refine((gd (n:=n-1) G (lp hn rfl))).k01 ?_;lk;have z:=(bZ (x:=v.st)).2.2;exact⟨rfl,L2.set z.1 z.2 (by have:=L.9;show 0<=v.pl+1;exact ao 0x108610000f64401d302011882c0818 [_,_] [] d0 d1) rfl⟩
theorem qH(G:Good Z Kg)(hn:8<=n)(L:LW H J A B w b y rp q s k v)(M:aj H A B)(hk:k+52<=900):ac Z n (.ref 784) [.ref y] J (λr J'=>r=.none/\LW H J' A B w b y rp q (ah s (B.WW v.st v.pl (2^32) 2)) (k+52) ⟨v.pl,bE v.st,v.back⟩):=by have Yy:=L.2;refine run G (lq hn rfl) ?_;lk;refine(jh (n:=n-1) (distance:=4294967296) G (lp hn rfl) L.WH (M.Wr (L.1.1.Xy _)) L.cod hk L.7 L.8 L.9 (by decide) (by decide) (by decide) (by decide)).Ws λJ2 W2=>?_;have L2:=L.next W2;have Yy:=L2.2;lk;refine((ca (n:=n-1) G (lp hn rfl))).k01 ?_;lk;have z:=(bZ (x:=v.st)).1;exact⟨rfl,L2.set z.1 z.2 L.9 rfl⟩
section
variable{st:List Me}{k body:T}
end
noncomputable def au(o:Array UInt8)(i:Int):Int:=((o.getD i.toNat 0).toNat:Int)
theorem aJ(o:Array UInt8)(i:Int):0<=au o i/\au o i<=255:=by unfold au;have:=(o.getD i.toNat 0).toNat_lt;exact af 0x2100009c3000138008282ffe2e28b8107f31 [] [_] this
variable{p:aI}{o:Array UInt8}{at':Int}
theorem jp{i:Int}{Q:Me->Sg->Prop}(hs:o.size<=1000000)(h0:0<=i)(h1:i<o.size)(h:Q (.int (au o i) 0) J):fy Z n J Q (.bytes o t) (.int i t'):=by have hl:i.toNat<o.size:=ao 0x108610000f6e2a0faf0488d4140f [_] [_,_] h1 (MF h0);refine .bytes hs h0 (aS 0x847086100014c0000000000000000911285e090ff4240104c8a6090e [_,_] [_] hs h1 d5) (Qp hl) ?_;unfold au at h;rw[P8,Qp hl] at h;exact h
theorem fS(G:Good Z Kg)(hn:0<n)(hs:o.size<=1000000)(d0:1<=d)(d1:d<=at')(d2:at'<=o.size):ac Z n (.ref 616) [.bytes o 0,.int at' 0,.int d 0] J (λr J'=>r=.int (au o (at' - d)) 0/\J=J'):=by refine run G hn ?_;lk;refine nv (λh=>fb 0x210c20001ec8843a6080e [_,_] [] d1 h) (λa=>?_);lk;refine jp hs (ON d1) (ao 0x210c20001ebc101f302011bcc1a711c [_,_] [_] d0 d2) ?_;lk;exact⟨rfl,rfl⟩
theorem kx(G:Good Z Kg)(hn:2<=n)(L:LW H J A B w b y rp q s k v)(hs:o.size<=1000000)(d0:¬v.st<7->1<=v.back.getD 0 0/\v.back.getD 0 0<=at')(d2:at'<=o.size):ac Z n (.ref 791) [.ref y,.bytes o 0,.int at' 0] J (λr J'=>r=.int (if v.st<7 then 0 else au o (at' - v.back.getD 0 0)) 0/\J=J'):=by
 have Yy:=L.2;have Rr:=L.4.1;refine run G (lq hn rfl) ?_;lk;refine((gx (n:=n-1) G (lp hn rfl))).k01 ?_;refine x9 (λh=>?_) (λh=>?_);·have h:=of_decide_eq_true h;lk;exact⟨by rw[if_pos h],rfl⟩
 ·have h:=of_decide_eq_false h;lk;refine((bp (n:=n-1) G (lp hn rfl) L.4)).k01 ?_;lk;refine((fS (n:=n-1) G (lp hn rfl) hs (d0 h).1 (d0 h).2 d2)).k01 ?_;lk;exact⟨by rw[if_neg h],rfl⟩
theorem rY(G:Good Z Kg)(hn:0<n){len:Nat}(hs:o.size<=100000)(d0:1<=d)(d1:d<=at')(d2:at'+len<=o.size)(same:∀j:Nat,j<len->au o (at'+j)=au o (at'+j-d)):ac Z n (.ref 609) [.bytes o 0,.int at' 0,.int d 0,.int len 0] J (λr J'=>r=.bool Mj/\J=J'):=by
 refine run G hn ?_;lk;refine jN (λa=>?_) (λh=>fb 0x108610000f60418470200e [_] [] d0 h);lk;refine vW (λa=>?_) (λh=>fb 0x108610000f4c118466080e [_,_] [] d1 h);lk;refine .bytes (c6 hs rfl) ?_;refine nv (λh=>fb 0x843080007af05d71c8fd7bc16781f [_] [_,_] d2 h) (λa=>?_);lk;refine uq (c:=len) [(IY,.bytes o 0),(JT,.int d 0)] (ao 0x843080007b2200e981008c080b [_,_] [] d0 d1) (ao 0x108610000f57bc16781fc3500a1190fa1200bc16782f [_] [_,_] hs d2) rfl ?_ ?_;·intro j Q' hj hnext _;lk;refine jp (c6 hs rfl) (ao 0x10c210c200029c8803a604023782c0819 [_,_] [_] d0 d1) (ao 0x421840003d2828215e5e0b481157bc16791f [_] [_,_,_] d2 hj) ?_;lk;refine jp (c6 hs rfl) (af 0x218420001ec8803a6f059f40826 [_,_] [_] d1) (aS 0x845086100014ca0a08579782d2045302011af3782cfae12c [_,_] [_,_,_] d0 d2 hj) ?_;lk;refine aH (λa=>?_) (λh=>absurd (same j hj) h);lk;exact hnext rfl
 ·lk;exact⟨rfl,rfl⟩
inductive aI where
 |lit
 |mat(d sz:Int)
 |rep(i:Nat)(sz:Int)
 |short
noncomputable def aI.vals:aI->List Me
 |.lit=>[.str "lit" 0]
 |.mat d sz=>[.str "match" 0,.int d 0,.int sz 0]
 |.rep i sz=>[.str "rep" 0,.int i 0,.int sz 0]
 |.short=>[.str "short" 0]
noncomputable def aI.len:aI->Int
 |.lit=>1
 |.mat _ sz=>sz
 |.rep _ sz=>sz
 |.short=>1
theorem mX(G:Good Z Kg)(hn:3<=n)(h:J a=Md (.tup p.vals))(l0:1<=p.len)(l1:p.len<=273)(l2:∀d sz,p=.mat d sz->2<=sz)(l3:∀i sz,p=.rep i sz->2<=sz):ac Z n (.ref 602) [.ref a] J (λr J'=>r=.int p.len 0/\J=J'):=by
 refine run G (lq hn rfl) ?_;lk;refine iy (r:=Mj) ?_ (.tup h);lk;refine jy h (by cases p<;>exact MG rfl) ?_;refine aA (aH (λz=>by cases p<;>exact absurd (Int.ofNat.inj z) (Nat.succ_ne_zero _)) (λb=>?_));induction p with
 |lit=>lk;refine am h (by decide) (by decide) rfl ?_;refine cx (r:=Mj) (r':=Mh) ?_ (by decide) rfl;lk;refine am h (by decide) (by decide) rfl ?_;refine cx (r:=Mj) (r':=Mj) ?_ (by decide) rfl;lk;refine jy h (MG rfl) ?_;refine aA (aH (λb=>?_) (λz=>absurd rfl z));lk;exact⟨rfl,rfl⟩
 |mat d sz=>lk;refine am h (by decide) (by decide) rfl ?_;refine cx (r:=Mj) (r':=Mh) ?_ (by decide) rfl;lk;refine am h (by decide) (by decide) rfl ?_;refine cx (r:=Mh) (r':=Mh) ?_ (by decide) rfl;lk;refine jy h (MG rfl) ?_;refine aA (aH (λb=>?_) (λz=>absurd rfl z));lk;refine am h (by decide) (by decide) rfl ?_;lk;refine((cA (n:=n-1) G (lp hn rfl))).k01 ?_;lk;refine am h (by decide) (by decide) rfl ?_;lk;refine((aZ (n:=n-1) G (lp hn rfl) (l2 _ _ rfl) l1)).k01 ?_;lk;refine am h (by decide) (by decide) rfl ?_;lk;exact⟨rfl,rfl⟩
 |rep i sz=>lk;refine am h (by decide) (by decide) rfl ?_;refine cx (r:=Mj) (r':=Mh) ?_ (by decide) rfl;lk;refine am h (by decide) (by decide) rfl ?_;refine cx (r:=Mh) (r':=Mh) ?_ (by decide) rfl;lk;refine jy h (MG rfl) ?_;refine aA (aH (λb=>?_) (λz=>absurd rfl z));lk;refine am h (by decide) (by decide) rfl ?_;lk;refine((cA (n:=n-1) G (lp hn rfl))).k01 ?_;lk;refine am h (by decide) (by decide) rfl ?_;lk;refine((aZ (n:=n-1) G (lp hn rfl) (l3 _ _ rfl) l1)).k01 ?_;lk;refine am h (by decide) (by decide) rfl ?_;lk;exact⟨rfl,rfl⟩
 |short=>lk;refine am h (by decide) (by decide) rfl ?_;refine cx (r:=Mj) (r':=Mh) ?_ (by decide) rfl;lk;refine am h (by decide) (by decide) rfl ?_;refine cx (r:=Mj) (r':=Mj) ?_ (by decide) rfl;lk;refine jy h (MG rfl) ?_;refine aA (aH (λb=>?_) (λz=>absurd rfl z));lk;exact⟨rfl,rfl⟩
noncomputable def aI.Y7(v:LS):aI->Int
 |.mat d _=>d
 |.rep i _=>v.back.getD i 0
 |_=>v.back.getD 0 0
noncomputable def aI.next(v:LS):aI->LS
 |.lit=>⟨v.pl+1,gQ v.st,v.back⟩
 |.mat d sz=>⟨v.pl+sz,bE v.st,d::v.back.take 3⟩
 |.rep i sz=>⟨v.pl+sz,gk v.st,fQ v.back i⟩
 |.short=>⟨v.pl+1,cH v.st,v.back⟩
noncomputable def aI.evs(B:MA)(o:Array UInt8)(v:LS):aI->List Ev
 |.lit=>B.Xq v.st v.pl (if 0<v.pl then au o (v.pl-1) else 0) (au o v.pl) (if v.st<7 then 0 else au o (v.pl-v.back.getD 0 0))
 |.mat d sz=>B.WW v.st v.pl d sz
 |.rep i sz=>B.XZ v.st v.pl i sz
 |.short=>B.Xu v.st v.pl
inductive aI.X8(o:Array UInt8)(v:LS)(p:aI):Prop where
 |mk (small:o.size<=1000)
  (fit:v.pl+p.len<=o.size)
  (mat:∀d sz,p=.mat d sz->2<=sz/\sz<=273)
  (rep:∀i sz,p=.rep i sz->i<=3/\2<=sz/\sz<=273)
  (lit:p=.lit->¬v.st<7->1<=v.back.getD 0 0/\v.back.getD 0 0<=v.pl)
  (far:p≠.lit->1<=p.Y7 v/\p.Y7 v<=v.pl)
  (same:p≠.lit->∀j:Nat,j<p.len->au o (v.pl+j)=au o (v.pl+j-p.Y7 v))
theorem l7(G:Good Z Kg)(hn:3<=n)(L:LW H J A B w b y rp q s k v)(h:J a=Md (.tup p.vals))(hl:p≠.lit)(hr:∀i sz,p=.rep i sz->i<=3):ac Z n (.ref 798) [.ref y,.ref a] J (λr J'=>r=.int (p.Y7 v) 0/\J=J'):=by
 have Yy:=L.2;have Rr:=L.4.1;refine run G (lq hn rfl) ?_;induction p with
 |lit=>exact absurd rfl hl
 |mat d sz=>lk;refine am h (by decide) (by decide) rfl ?_;refine aA (aO (r:=Mj) ?_ (by decide));lk;refine am h (by decide) (by decide) rfl ?_;lk;exact⟨rfl,rfl⟩
 |rep i sz=>have hi:=hr i sz rfl;lk;refine am h (by decide) (by decide) rfl ?_;refine aA (aO (r:=Mh) ?_ (by decide));lk;refine am h (by decide) (by decide) rfl ?_;refine aA (aO (r:=Mj) ?_ (by decide));lk;refine am h (by decide) (by decide) rfl ?_;lk;refine((aZ (n:=n-1) G (lp hn rfl) (Mt _) (nF hi))).k01 ?_;lk;refine am h (by decide) (by decide) rfl ?_;refine Dt ?_;refine av L.4.2 (Mt _) (FN hi rfl) (fK (i:=i) (by rw[L.4.3];exact kI hi rfl)) ?_;lk;exact⟨rfl,rfl⟩
 |short=>lk;refine am h (by decide) (by decide) rfl ?_;refine aA (aO (r:=Mh) ?_ (by decide));lk;refine am h (by decide) (by decide) rfl ?_;refine aA (aO (r:=Mh) ?_ (by decide));lk;refine((bp (n:=n-1) G (lp hn rfl) L.4)).k01 ?_;lk;exact⟨rfl,rfl⟩
theorem nD(G:Good Z Kg)(hn:9<=n)(L:LW H J A B w b y rp q s k v)(M:aj H A B)(hk:k+52<=900)(ha:H a=Md (.tup p.vals))(V:p.X8 o v):ac Z n (.ref 805) [.ref y,.ref a,.bytes o 0,.int v.pl 0] J (λr J'=>r=.int (v.pl+p.len) 0/\∃q',LW H J' A B w b y rp q' (ah s (p.evs B o v)) (k+52) (p.next v)):=by
 have Yy:=L.2;have pa:=L.1.1 _ _ ha;have hs:=V.1;have hf:=V.2;have hp0:=L.9;have hlen:1<=p.len/\p.len<=273:=by
  induction p with
  |lit=>exact⟨by decide,by decide⟩
  |mat d sz=>have:=V.3 d sz rfl;exact⟨by show 1<=sz;exact af 0x42000138888230141fcbb0200e [_] [] this,this.2⟩
  |rep i sz=>have:=V.4 i sz rfl;exact⟨by show 1<=sz;exact af 0x84200271110460283fe209a1d1f0200e [_] [_] this,this.2.2⟩
  |short=>exact⟨by decide,by decide⟩
 refine run G (lq hn rfl) ?_;lk;refine((mX (n:=n-1) G (lp hn rfl) pa hlen.1 hlen.2 (λd sz e=>(V.3 d sz e).1) (λi sz e=>(V.4 i sz e).2.1))).k01 ?_;lk;refine .bytes (c6 hs rfl) ?_;refine nv (λh=>fb 0x210c20001e982ee291cbcc16701c [_,_] [_] hf h) (λc=>?_);lk;by_cases hl:p=.lit
 ·subst hl;refine am pa (by decide) (by decide) rfl ?_;refine aA (aO (r:=Mj) ?_ (by decide));lk;have tail:∀before:Int,before=(if 0<v.pl then au o (v.pl-1) else 0)->0<=before->before<=255->∀Q':Out->Sg->Prop,(∀r J',(r=.int (v.pl+aI.lit.len) 0/\∃q',LW H J' A B w b y rp q' (ah s (aI.lit.evs B o v)) (k+52) (aI.lit.next v))->Q' (.ret r) J')->
    X Z (n-1) Q' [] J [(JM,.ref y),(IY,.bytes o 0),(IX,.int v.pl 0)] [.int before 0] (.st JV<|.ld JM<|.meth 30515246123868524<|.ld IY<|.ld IX<|.idx<|.ld JV<|.ld JM<|.meth IW<|.ld IY<|.ld IX<|.XM 2<|.XM 3<|.pop<|.ld IX<|.cst (.int 1 0)<|.bin .add<|.ret):=by
   intro before hb b0 b1 Q' hQ
   lk
   refine jp (c6 hs rfl) hp0 (by have:v.pl+1<=o.size:=hf;exact this) ?_
   lk
   refine((kx (n:=n-1) G (lp hn rfl) L (c6 hs rfl) (V.5 rfl) (Nm hf))).k01 ?_
   have z1:=aJ o v.pl
   have z2:=aJ o (v.pl-v.back.getD 0 0)
   lk
   refine(sN (n:=n-1) G (lp hn rfl) L M (af 0x1080004f841a0826a32ae10488269328 [] [_] hk) z1.1 z1.2 b0 b1 (by split<;>exact Mt _) (by have:=z2.2;split<;>lia)).Ws λJ2 L2=>?_
   lk
   refine hQ _ _ ⟨rfl,q,?_⟩
   rw[hb] at L2
   exact⟨L2.1.le (ck 0xe8209c8826932f [] [_]),L2.2,L2.3,L2.4,L2.5,L2.6,L2.7,L2.8,L2.9⟩
  refine nv (λh=>?_) (λh=>?_);·lk;refine((fS (n:=n-1) G (lp hn rfl) (c6 hs rfl) (Mt _) h (Nm hf))).k01 ?_;have z:=aJ o (v.pl-1);exact tX (fP (tail _ (if_pos h).symm z.1 z.2 _ λr J' hr=>hr) rfl)
  ·exact aA (tX (fP (tail _ (if_neg h).symm (by decide) (by decide) _ λr J' hr=>hr) rfl))
 ·refine am (v:=p.vals.headD .none) pa (by decide) (by decide) (by cases p<;>rfl) ?_;have e0:∃x:Np,p.vals.headD .none=.str x 0/\M3 (x=("lit":Np))=false:=by
   cases p with
   |lit=>exact absurd rfl hl
   |mat d sz=>exact⟨_,rfl,by decide⟩
   |rep i sz=>exact⟨_,rfl,by decide⟩
   |short=>exact⟨_,rfl,by decide⟩
  refine ae e0 λx z5=>?_;rw[z5.1];refine aA (aO (r:=Mh) ?_ z5.2);lk;refine((l7 (n:=n-1) G (lp hn rfl) L pa hl (λi sz e=>(V.4 i sz e).1))).k01 ?_;have hd:=V.6 hl;lk;refine((cC (n:=n-1) G (lp hn rfl) L hd.1 hd.2)).k01 ?_;lk;have el:p.len=((p.len.toNat:Nat):Int):=ao 0x42100138400027b8a83ef0407de0a0f [_] [_] (Ni _) (MF (af 0x42000138888230203b96c080b [_] [] hlen));rw[el];refine((rY (n:=n-1) G (lp hn rfl) (c6 hs rfl) hd.1 hd.2 (ao 0x108a10000f5e444255e60b380f57bc16781f [_,_] [_,_] hf el) (λj hj=>V.7 hl j (ao 0x108a10800f54140faf0508ee290f [_] [_,_] el hj)))).k01 ?_;lk;induction p with
  |lit=>exact absurd rfl hl
  |mat d sz=>obtain z4:=V.3 d sz rfl;refine am pa (by decide) (by decide) rfl ?_;refine aA (aO (r:=Mj) ?_ (by decide));lk;rw[<-el];refine(wg (n:=n-1) G (lp hn rfl) L M hk hd.1 hd.2 (iX 0x10961142184000690000000012223188888a230204b9ade3059e077e8104c626080e [_,_,_] [_] hs hf hlen xy) z4.1 z4.2).Ws λJ2 r1=>?_;refine ae r1 λq' L2=>?_;lk;exact⟨rfl,q',L2⟩
  |rep i sz=>obtain z3:=V.4 i sz rfl;refine am pa (by decide) (by decide) rfl ?_;refine aA (aO (r:=Mh) ?_ (by decide));lk;refine am pa (by decide) (by decide) rfl ?_;refine aA (aO (r:=Mj) ?_ (by decide));lk;refine am pa (by decide) (by decide) rfl ?_;lk;rw[<-el];refine(Cx (n:=n-1) G (lp hn rfl) L M (af 0x1080004f841a0826a32ae10788269328 [] [_] hk) z3.1 hd.1 hd.2 z3.2.1 z3.2.2).Ws λJ2 r2=>?_;refine ae r2 λq' L2=>?_;lk;exact⟨rfl,q',L2.1.le (ck 0xe8209f8826932f [] [_]),L2.2,L2.3,L2.4,L2.5,L2.6,L2.7,L2.8,L2.9⟩
  |short=>refine am pa (by decide) (by decide) rfl ?_;refine aA (aO (r:=Mh) ?_ (by decide));lk;refine am pa (by decide) (by decide) rfl ?_;refine aA (aO (r:=Mh) ?_ (by decide));lk;refine(wP (n:=n-1) G (lp hn rfl) L M (af 0x8400027c20d04135195708208268b27 [] [_] hk) hd.1 hd.2).Ws λJ2 L2=>?_;lk;exact⟨rfl,q,L2.1.le (ck 0x74104e08268b2e [] [_]),L2.2,L2.3,L2.4,L2.5,L2.6,L2.7,L2.8,L2.9⟩
noncomputable def dK(H:Sg)(sa:Ml)(ps:List aI):Prop:=∃as:List Ml,H sa=Md (.list (as.map MK))/\as.length=ps.length/\∀(j:Nat)(p:aI),ps[j]?=Md p->∃a,as[j]?=Md a/\H a=Md (.tup p.vals)
noncomputable def f7(B:MA)(o:Array UInt8):CS->LS->List aI->CS×LS
 |s,v,[]=>(s,v)
 |s,v,p::r=>f7 B o (ah s (p.evs B o v)) (p.next v) r
noncomputable def aW(o:Array UInt8):LS->List aI->Prop
 |_,[]=>True
 |v,p::r=>p.X8 o v/\aW o (p.next v) r
theorem gY(v:LS)(p:aI):(p.next v).pl=v.pl+p.len:=by cases p<;>rfl
variable{ps:List aI}{sa:Ml}
theorem mT(G:Good Z Kg)(hn:10<=n)(L:LW H J A B w b y rp q s k v)(M:aj H A B)(hk:k+52*ps.length<=900)(hs:dK H sa ps)(V:aW o v ps):ac Z n (.ref 812) [.ref y,.ref sa,.bytes o 0,.int v.pl 0] J (λr J'=>r=.int (f7 B o s v ps).2.pl 0/\∃q',LW H J' A B w b y rp q' (f7 B o s v ps).1 (k+52*ps.length) (f7 B o s v ps).2):=by
 refine ae hs λas z7=>?_;refine run G (lq hn rfl) ?_;lk;refine eL (xs:=as.map MK) (λ_ (v':LS) _=>[(JM,.ref y),(IY,.bytes o 0),(IX,.int v'.pl 0)]) (λj s' v' q' J'=>∃k',j<=ps.length/\LW H J' A B w b y rp q' s' k' v'/\aW o v' (ps.drop j)/\f7 B o s' v' (ps.drop j)=f7 B o s v ps/\k'+52*(ps.length-j)=k+52*ps.length) s v q ⟨k,Nc _,L,V,rfl,rfl⟩ (by rfl) ?_ ?_ ?_;·exact λc c c c c I0=>I0.elim λc z6=>z6.2.1.1.1 _ _ z7.1
 ·intro j u s' v' q' J' Q' hu I0 hnext _;refine ae I0 λk' z5=>?_;have V':=z5.2.2.1;have e:=z5.2.2.2.1;have hlt:j<ps.length:=by have:=(ML.mp hu).1;rw[Mu] at this;exact ao 0x422840003d28282152168954140f [] [_,_,_] z7.2.1 this
  refine ae (z7.2.2 j _ (MH hlt)) λa z4=>?_;rw[MM,z4.1] at hu;obtain rfl:MK a=u:=MJ hu;rw[Oh hlt] at V' e;have Yy:=z5.2.1.2;lk;refine(nD (n:=n-1) G (lp hn rfl) z5.2.1 M (iX 0x6862e861c21840007d28b42b52914a21a0a4b404ca11eb404c827154fe104b404ca11c8ceb841a0826a32a [] [_,_,_,_,_] hk z5.2.2.2.2 hlt (Mf (af Kx [] [_,_] hlt))) z4.2 V'.1).Ws λJ2 r1=>?_;refine ae r1 λq2 L2=>?_;lk;exact hnext _ _ q2 ⟨_,hlt,L2,V'.2,e,aS 0x1a189a18708400cf4317430a100019eaa8866ad23d45433a11c14bb5a026485716809904e3aa3ad013242bad01334104d479d61 [] [_,_,_,_,_,_] z5.2.2.2.2 (Mf (af KB [] [_,_] hlt)) (Mf (af Kx [] [_,_] hlt))⟩ (by show Wk _ [_,_,(IX,.int (aI.next v' ps[j]).pl 0)];rw[gY];rfl)
 ·intro s' v' q' J' r2;refine ae r2 λk' z3=>?_;have e:=z3.2.2.2.1;rw[Mu,z7.2.1] at*;rw[TU] at e;have e1:s'=(f7 B o s v ps).1:=congrArg RC e;have e2:v'=(f7 B o s v ps).2:=congrArg Vn e;lk;refine⟨by rw[<-e2],q',?_⟩;rw[<-e1,<-e2];have:k'=k+52*ps.length:=ao 0x1a185084008f430e100011ca5a15a74865a026508f5a0264138aa7cb404ca11c152f [] [_,_,_,_] z3.2.2.2.2 (Mf (ck 0x34130d [] [_]));rw[<-this];exact z3.2.1
noncomputable def ES.init:ES:=⟨[],0,4294967295,0,1⟩
theorem pG:ES.init.Ok 0:=⟨⟨by decide,by decide,by decide,by decide,by decide,by decide,by decide⟩,by decide⟩
theorem bA(G:Good Z Kg)(hn:0<n){C f:Ml}{Q:Me->Sg->Prop}(hf:mt C 6872327479327219551=Md f)(h:∀x,J x=Mr->ac Z (n-1) (.ref f) (.ref x::args) (upd J x (.Wv C [])) (λv J'=>v=.none/\Q (.ref x) J')):ac Z n (.ref C) args J Q:=by obtain⟨m,rfl⟩:∃m,n=m+1:=⟨n-1,af Ky [] [_,_] (Mf (af 0x2100009c060650230f [] [_] hn))⟩;exact aay G.base hf h
theorem nN(G:Good Z Kg)(hn:2<=n):ac Z n (.ref 1095) [] J (λr J'=>bM λw b=>r=.ref w/\J w=Mr/\J b=Mr/\Sub J J'/\vw J' w b ES.init Mh):=by
 refine bA G (lq hn rfl) eN λx hx=>?_;refine run G (Ow hn) ?_;lk;refine pN λz hz=>?_;have hxz:x≠z:=λe=>by rw[<-e,aa] at hz;cases hz
 have hzx:=hxz.symm;have hσz:J z=none:=by rw[ag _ _ hzx] at hz;exact hz
 lk;refine⟨rfl,x,z,rfl,hx,hσz,((Sub.rfl.upd hx _).upd hσz _).upd hx _,aa _ _ _,(ag _ _ hzx).trans (aa _ _ _)⟩
noncomputable def ES.WX(e:ES):ES:=e.WB.WB.WB.WB.WB
noncomputable def xQ:Nat->ES->ES
 |0,e=>e
 |c+1,e=>xQ c e.WB
theorem tQ(G:Good Z Kg)(hn:2<=n)(W:WS H J A w b s k)(hk:k+5<=900):ac Z n (.ref 1092) [.ref w] J (λr J'=>r=.bytes s.1.WX.made.toArray 0/\Sub H J'/\aD J' A s.2):=by
 obtain⟨sub,rows,wri,hw,hb,off,apt,ok,mok⟩:=W;have hwb:w≠b:=mn wri.1 wri.2 rfl;have hbw:=hwb.symm;have Ww:=wri.1;have P:∀l,l<18->∀a,(a=A.ra l∨a=A.da l)->a≠w/\a≠b:=λl hl a ha=>by
  have h1:=(rows l hl).neI wri.1 (by decide);have h2:=(rows l hl).neB wri.2;rcases ha with rfl|rfl
  ·exact⟨h1.1,h2.1⟩
  ·exact⟨h1.2,h2.2⟩
 refine run G (lq hn rfl) ?_;lk;refine fj (λ_ (_ _:Unit)=>[(JM,.ref w)]) (λj e' d d J'=>j<=5/\Sub (aU H J λa=>∃l,l<18/\(a=A.ra l∨a=A.da l)) J'/\vw J' w b e' Mh/\ES.Ok (k+j) e'/\xQ (5-j) e'=s.1.WX)
  s.1 () () (c:=5) (by decide) ⟨by decide,sub.WU _,wri,ok,rfl⟩ rfl ?_ ?_
 ·intro j e' _ _ J' Q' hj z2 hnext _;have Ww:=z2.2.2.1.1;lk;refine(qI (n:=n-1) G (lp hn rfl) z2.2.1 (ai (λz=>ae z λl z=>(P l z.1 w z.2).1 rfl) hw) (ai (λz=>ae z λl z=>(P l z.1 b z.2).2 rfl) hb) z2.2.2.1 z2.2.2.2.1.toWk (ao 0x108610000f5142413e105104d164fc20a8267b25 [] [_,_] hk hj)).XS λJ2 S2 W2=>?_;lk;refine hnext e'.WB () () ⟨hj,S2,W2,z2.2.2.2.1.toWk.WB,?_⟩ rfl;·rw[<-z2.2.2.2.2,show 5-j=(5-(j+1))+1 from ao 0x108a10800f423840003d4448574237e97512826851f8a11c151c [] [_,_,_] (Mf (af 0x1080004e882823441311 [] [_] hj)) (Mf (af 0x2100009d105046888267b1e [] [_] hj))];rfl
 ·intro e' _ _ J' z1;have Ww:=z1.2.2.1.1;have Bb:=z1.2.2.1.2;have e5:e'=s.1.WX:=z1.2.2.2.2;lk;refine rn ?_ ((ag _ _ hbw).trans Bb) (by have:=z1.2.2.2.1.Wm;have:=z1.2.2.2.1.held;lia);lk;refine⟨by rw[<-e5],(sub.Xk z1.2.1).upd hw _,λl hl=>?_⟩;have r0:Row J' (A.ra l) (A.da l) (A.len l) (s.2 l):=(rows l hl).keep λa c h e=>z1.2.1.at ⟨l,hl,h⟩ e;exact r0.upd (P l hl _ (.inl rfl)).1 (P l hl _ (.inr rfl)).1
variable{marked:Bool}
theorem kJ(G:Good Z Kg)(hn:2<=n)(HT:Z.kt 361=Md (bt [1,1,1,1])):ac Z n (.ref 407) [] J (λr J'=>bM λrp q=>r=.ref rp/\J rp=Mr/\J q=Mr/\Sub J J'/\eW J' rp q [1,1,1,1]):=by
 refine bA G (lq hn rfl) jU λx hx=>?_;have T1:=Wu hx (.Wv 407 []);refine run G (Ow hn) ?_;lk;refine wv HT (by decide) λz hz=>?_;have T2:=T1.trans (Wu hz (.list (bt [1,1,1,1])));have hxz:x≠z:=λe=>by rw[<-e,aa] at hz;cases hz
 have hzx:=hxz.symm;lk;exact⟨rfl,x,z,rfl,hx,T1.none hz,T2.upd hx _,aa _ _ _,(ag _ _ hzx).trans (aa _ _ _),rfl⟩
theorem pC(G:Good Z Kg)(hn:4<=n)(HT:Z.kt 361=Md (bt [1,1,1,1])){m:Ml}:ac Z n (.ref 822) [.ref m,.ref w] J (λr J'=>nW λy rp q=>r=.ref y/\J y=Mr/\J rp=Mr/\J q=Mr/\Sub J J'/\ J' y=Md (.Wv 822 [(Jt,.ref m),(Jz,.ref w),(Jv,.int 0 0),(Jx,.int 0 0),(Jw,.ref rp)])/\eW J' rp q [1,1,1,1]):=by
 refine bA G (lq hn rfl) fD λx hx=>?_;refine run G (yq hn rfl) ?_;lk;refine run G (aS KZ [] [_,_,_] hn (Mf (af KJ [] [_] hn)) (Mf (ao KP [] [_,_] hn (Mf (af KJ [] [_] hn))))) ?_;lk;lk;have T1:=Wu hx (.Wv 822 (sf (sf (sf (sf [] Jt (.ref m)) Jz (.ref w)) Jv (.int 0 0)) Jx (.int 0 0)));refine(kJ (n:=n-1-1) G (aS Lx [] [_,_,_] hn (Mf (af KJ [] [_] hn)) (Mf (ao KP [] [_,_] hn (Mf (af KJ [] [_] hn))))) HT).Wr (MD _) ?_;intro _ J2 I0;refine bI I0 λrp q z1=>?_;rw[z1.1];have h1:=z1.2.1;have h2:=z1.2.2.1;have Xx:=z1.2.2.2.1 _ _ (aa _ _ _);have hxr:rp≠x:=λe=>by rw[e,aa] at h1;cases h1
 have hxq:q≠x:=λe=>by rw[e,aa] at h2;cases h2
 lk;refine⟨rfl,x,rp,q,rfl,hx,T1.none h1,T1.none h2,(T1.trans z1.2.2.2.1).upd hx _,aa _ _ _,(ag _ _ hxr).trans z1.2.2.2.2.1,(ag _ _ hxq).trans z1.2.2.2.2.2,rfl⟩
noncomputable def v0:LS:=⟨0,0,[1,1,1,1]⟩
noncomputable def fH(B:MA)(o:Array UInt8)(C:Nat->Int->Int)(ps:List aI)(marked:Bool):CS:=
 if marked then ah (f7 B o (ES.init,C) v0 ps).1 (B.WW (f7 B o (ES.init,C) v0 ps).2.st (f7 B o (ES.init,C) v0 ps).2.pl (2^32) 2) else(f7 B o (ES.init,C) v0 ps).1
theorem gF(G:Good Z Kg)(hn:12<=n)(S:Sub H J)(R:aD J A C)(off:Off H A)(apt:A.Apt)(M:aj H A B)(mok:oC C)(HT:Z.kt 361=Md (bt [1,1,1,1]))(hps:ps.length<=4)(hs:dK H sa ps)(osm:o.size<=1000)(V:aW o v0 ps)(fin:(f7 B o (ES.init,C) v0 ps).2.pl=o.size):ac Z n (.ref 1160) [.ref B.m,.ref sa,.bytes o 0,.bool marked] J (λr J'=>r=.bytes (fH B o C ps marked).1.WX.made.toArray 0/\Sub H J'/\aD J' A (fH B o C ps marked).2/\oC (fH B o C ps marked).2):=by
 refine run G (lq hn rfl) ?_;lk;refine(nN (n:=n-1) G (lp hn rfl)).aab λJ1 w b hw hb S1 W1=>?_;lk;refine(pC (n:=n-1) G (lp hn rfl) HT).abc λJ2 y rp q hy hr hq S2 Yo Rp=>?_;have L:LW H J2 A B w b y rp q (ES.init,C) 0 v0:=by have S12:=S1.trans S2;refine⟨⟨S.trans S12,λj hj=>(R j hj).keep λa c a e=>S12 _ _ e,⟨S2 _ _ W1.1,S2 _ _ W1.2⟩,S.none hw,S.none hb,off,apt,pG,mok⟩,Yo,(S.trans S1).none hy,Rp,(S.trans S1).none hr,λj hj=>?_,by decide,by decide,by decide⟩;have hsome:=bO ((R j hj).keep (J':=J1) λa c a e=>S1 _ _ e);exact⟨λz=>hsome.1 (by rw[z];exact hq),λz=>hsome.2 (by rw[z];exact hq)⟩
 have Yy:=L.2;lk;refine(mT (n:=n-1) (v:=v0) G (yq hn rfl) L M (af 0x1a1800031041311e105a026016f334 [] [_] hps) hs V).Ws λJ3 r1=>?_;refine ae r1 λq3 L3=>?_;have Yy:=L3.2;have Ww:=L3.1.3.1;lk;refine .bytes (c6 osm rfl) ?_;refine aH (λa=>?_) (λh=>absurd fin h);lk;induction marked with
 |true=>lk;refine(qH (n:=n-1) G (lp hn rfl) L3 M (af 0x6860000c4104c47841a0b404c02de78346 [] [_] hps)).Ws λJ4 L4=>?_;have Yy:=L4.2;have Ww:=L4.1.3.1;lk;refine(tQ (n:=n-1) G (lp hn rfl) L4.1 (af 0x343000062082623c20a3416809805bcf07fb55 [] [_] hps)).XS λJ5 S5 R5=>?_;lk;exact⟨rfl,S5,R5,L4.1.9⟩
 |false=>lk;refine(tQ (n:=n-1) G (lp hn rfl) L3.1 (af 0xd0c00018820988f0828b404c02de76b43 [] [_] hps)).XS λJ5 S5 R5=>?_;lk;exact⟨rfl,S5,R5,L3.1.9⟩
structure DS where
 place:Int
 span:Int
 WG:Int
inductive uR(J:Sg)(r:Ml)(o:Array UInt8)(d:DS):Prop where
 |mk (r:J r=Md (.Wv 1011 [(JD,.bytes o 0),(1937010544,.int o.size 0),(JF,.int 0 0),(Jv,.int d.place 0),(JE,.int d.span 0),(JC,.int d.WG 0)]))
inductive DS.Ok(d:DS):Prop where
 |mk (p0:0<=d.place)
  (c0:0<=d.WG)
  (c1:d.WG<d.span)
  (s1:d.span<4294967296)
noncomputable def DS.room(o:Array UInt8)(d:DS):Prop:=d.span<16777216->d.place<o.size
noncomputable def DS.fill(o:Array UInt8)(d:DS):DS:=if d.span<16777216 then⟨d.place+1,d.span*256,d.WG*256+au o d.place⟩ else d
noncomputable def DS.get(d:DS)(m:Int):Int:=if d.span/2048*m<=d.WG then 1 else 0
noncomputable def DS.pre(d:DS)(m:Int):DS:=if d.span/2048*m<=d.WG then⟨d.place,d.span-d.span/2048*m,d.WG-d.span/2048*m⟩ else⟨d.place,d.span/2048*m,d.WG⟩
noncomputable def DS.YQ(d:DS):Int:=if d.span/2<=d.WG then 1 else 0
noncomputable def DS.WE(d:DS):DS:=if d.span/2<=d.WG then⟨d.place,d.span/2,d.WG-d.span/2⟩ else⟨d.place,d.span/2,d.WG⟩
variable{d:DS}
theorem DS.Ok.pre(h:d.Ok){m:Int}(m0:0<=m)(m1:m<=2048):(d.pre m).Ok:=by obtain⟨h1,h2,h3,h4⟩:=h;obtain z3:=i7 (s:=d.span) (ao 0x108610000f64421d204074080b [_,_] [] h2 h3) m0 m1;have p1:=z3.1;have p2:=z3.2;unfold DS.pre;split<;>refine⟨?_,?_,?_,?_⟩<;>dsimp only<;>lia
theorem DS.Ok.fill(h:d.Ok)(o:Array UInt8):(d.fill o).Ok:=by
 obtain⟨h1,h2,h3,h4⟩:=h;obtain z2:=aJ o d.place;have p1:=z2.1;have p2:=z2.2;unfold DS.fill;split;·refine⟨?_,?_,?_,?_⟩<;>dsimp only<;>lia
 ·exact⟨h1,h2,h3,h4⟩
theorem kq(G:Good Z Kg)(hn:0<n)(S:Sub H J)(hr:H r=Mr)(D:uR J r o d)(os:o.size<=1000000)(p0:0<=d.place)(p1:d.place<o.size):ac Z n (.ref 952) [.ref r] J (λv J'=>v=.int (au o d.place) 0/\Sub H J'/\uR J' r o ⟨d.place+1,d.span,d.WG⟩):=by have Rr:=D.1;refine run G hn ?_;lk;refine wT (λh=>fb 0x843080007b71407de090f [_] [_] p1 h) (λa=>?_);lk;refine jp os (af 0x42000138101711059d40825 [_] [] p0) (af 0x4200013bc121f78882cead929 [_] [_] p1) ?_;lk;exact⟨by rw[show d.place+1-1=d.place from ck 0x4038882ceada25 [_] []],S.upd hr _,⟨aa _ _ _⟩⟩
theorem rA(G:Good Z Kg)(hn:2<=n)(S:Sub H J)(hr:H r=Mr)(D:uR J r o d)(os:o.size<=1000000)(ok:d.Ok)(rm:d.room o):ac Z n (.ref 980) [.ref r] J (λv J'=>v=.none/\Sub H J'/\uR J' r o (d.fill o)):=by
 have Rr:=D.1;have c0:=ok.2;have c1:=ok.3;have s1:=ok.4;refine run G (lq hn rfl) ?_;lk;refine bQ (λh=>?_) (λh=>?_);·lk;rw[Dh];refine(kq (n:=n-1) (d:=⟨d.place,d.span*256,d.WG⟩) G (lp hn rfl) (S.upd hr _) hr ⟨aa _ _ _⟩ os ok.1 (rm h)).XS λJ2 S2 D2=>?_;have Rr:=D2.1;have z:=aJ o d.place;have eo:Oc (d.WG*256) (au o d.place)=d.WG*256+au o d.place:=pM (k:=8) c0 z.1 (ao 0x211c21001e8009110cff88220417ca66090e [_,_] [] z Cs);lk;rw[show({place:=d.place,span:=d.span*256,WG:=d.WG}:DS).place=d.place from rfl,eo];refine⟨rfl,S2.upd hr _,⟨(aa _ _ _).trans ?_⟩⟩;unfold DS.fill;rw[if_pos h];rfl
 ·lk;exact⟨rfl,S,by unfold DS.fill;rw[if_neg h];exact D⟩
theorem yV(G:Good Z Kg)(hn:4<=n)(S:Sub H J)(hr:H r=Mr)(D:uR J r o d)(os:o.size<=1000000)(ok:d.Ok){e:Ml}{len:Nat}{i:Int}(R:Row J a e len f)(ha:H a=Mr)(he:H e=Mr)(i0:0<=i)(i1:i<len)(hlen:len<1000000)(m0:0<=f i)(m1:f i<=2048)(rm:(d.pre (f i)).room o):ac Z n (.ref 987) [.ref r,.ref a,.int i 0] J (λv J'=>v=.int (d.get (f i)) 0/\Sub H J'/\uR J' r o ((d.pre (f i)).fill o)/\Row J' a e len (put f i (Xv (f i) (d.get (f i))))):=by
 have Rr:=D.1;obtain z1:=R.neI Rr (by decide);have har:=z1.1;have her:=z1.2;have c0:=ok.2;have c1:=ok.3;have s1:=ok.4;have ps:=i7 (s:=d.span) (ao 0x108610000f64421d204074080b [_,_] [] c0 c1) m0 m1;refine run G (lq hn rfl) ?_;lk;refine R.idx G (lp hn rfl) i0 i1 hlen ?_;lk;rw[DR];refine tU (tF ?_);have ef:(if yu .ge d.WG (d.span/2048*f i)=Mj then(1:Int) else 0)=d.get (f i):=by
  unfold DS.get yu;by_cases z:d.span/2048*f i<=d.WG;·simp[z]
  ·simp[z]
 rw[ef];have tail:∀J1:Sg,Sub H J1->uR J1 r o (d.pre (f i))->Row J1 a e len f->
   ac Z (n-1) (.ref 916) [.int (f i) 0,.int (d.get (f i)) 0] J1 λv J'=>X Z (n-1) (bV (λv J'=>v=.int (d.get (f i)) 0/\Sub H J'/\uR J' r o ((d.pre (f i)).fill o)/\Row J' a e len (put f i (Xv (f i) (d.get (f i)))))) [] J' [(JM,.ref r),(Jt,.ref a),(JN,.int i 0),(JX,.int (d.get (f i)) 0)] [v] (.ld Jt<|.ld JN<|.XF<|.ld JM<|.meth IZ<|.XM 0<|.pop<|.ld JX<|.ret):=by
  clear Rr
  intro J1 S1 D1 R1
  refine((iz G (lp hn rfl))).k01 ?_
  lk
  refine R1.set G (lp hn rfl) i0 i1 hlen (S1.WU λx=>x=r) (ai har ha) (ai her he) ?_
  intro J2 R2 S3
  have V3:=S3.at rfl D1.1
  have S4:=S1.Xk S3
  lk
  refine(rA (n:=n-1) G (lp hn rfl) (S4.WU λx=>x=a∨x=e) (ai (λz=>z.elim (λz=>har z.symm) (λz=>her z.symm)) hr) ⟨V3⟩ os (ok.pre m0 m1) rm).XS λJ3 S6 D3=>?_
  lk
  exact⟨rfl,S4.Xk S6,D3,R2.keep λx c h e=>S6.at h e⟩
 lk;refine aH (λh=>?_) (λh=>?_)
 ·have hz:¬d.span/2048*f i<=d.WG:=λz=>by unfold DS.get at h;rw[if_pos z] at h;cases h
  lk;refine(tail _ (S.upd hr _) ⟨(aa _ _ _).trans ?_⟩ (R.upd har her)).Wr (MD _) λb b q=>fP q rfl;unfold DS.pre;rw[if_neg hz];rfl
 ·have hz:d.span/2048*f i<=d.WG:=by
   by_cases z:d.span/2048*f i<=d.WG;·exact z
   ·exact absurd (by unfold DS.get;rw[if_neg z]) h
  lk;refine(tail _ (S.upd hr _) ⟨(aa _ _ _).trans ?_⟩ (R.upd har her)).Wr (MD _) λb b q=>fP q rfl;unfold DS.pre;rw[if_pos hz];rfl
abbrev RT:=DS×(Nat->Int->Int)
noncomputable def gG(o:Array UInt8)(x:RT):Ev->RT
 |.bit j i b=>((x.1.pre (x.2 j i)).fill o,vo x.2 j i (Xv (x.2 j i) b))
 |.dir _=>(x.1.WE.fill o,x.2)
noncomputable def ak(o:Array UInt8)(x:RT)(l:List Ev):RT:=l.foldl (gG o) x
noncomputable def Zq(o:Array UInt8)(x:RT):Ev->Prop
 |.bit j i b=>x.1.get (x.2 j i)=b/\(x.1.pre (x.2 j i)).room o
 |.dir b=>x.1.YQ=b/\x.1.WE.room o/\x.1.WE.WG<x.1.WE.span
noncomputable def ay(o:Array UInt8):RT->List Ev->Prop
 |_,[]=>True
 |x,v::l=>Zq o x v/\ay o (gG o x v) l
theorem sY(o:Array UInt8)(x:RT):ak o x []=x:=rfl
theorem cJ(o:Array UInt8)(x:RT)(v:Ev)(l:List Ev):ak o x (v::l)=ak o (gG o x v) l:=rfl
theorem bx(o:Array UInt8)(x:RT)(l l':List Ev):ak o x (l++l')=ak o (ak o x l) l':=Ti ..
theorem aY{o:Array UInt8}:∀{l l':List Ev}{x:RT},ay o x (l++l')↔ay o x l/\ay o (ak o x l) l'
 |[],l',x=>⟨λh=>⟨trivial,h⟩,λh=>h.2⟩
 |v::l,l',x=>by show(Zq o x v/\ay o (gG o x v) (l++l'))↔(Zq o x v/\ay o (gG o x v) l)/\ay o (ak o (gG o x v) l) l';rw[aY,qm]
inductive RS(H J:Sg)(A:Rows)(r:Ml)(o:Array UInt8)(x:RT):Prop where
 |mk(sub:Sub H J)
  (rows:aD J A x.2)
  (rdr:uR J r o x.1)
  (hr:H r=Mr)
  (off:Off H A)
  (apt:A.Apt)
  (ok:x.1.Ok)
  (mok:oC x.2)
  (os:o.size<=100000)
variable{b v:Int}{x:RT}
theorem br(G:Good Z Kg)(hn:4<=n)(R:RS H J A r o x)(hj:j<18){i:Int}(i0:0<=i)(i1:i<A.len j)(h:Zq o x (.bit j i b)):ac Z n (.ref 987) [.ref r,.ref (A.ra j),.int i 0] J (λv J'=>v=.int b 0/\RS H J' A r o (gG o x (.bit j i b))):=by
 obtain⟨sub,rows,rdr,hr,off,apt,ok,mok,os⟩:=R;have m:=mok j i;have hne:∀l,l<18->l≠j->∀a,(a=A.ra l∨a=A.da l)->a≠A.ra j/\a≠A.da j:=by
  rintro l hl hlj a (rfl|rfl);·exact⟨apt.1 _ _ hl hj hlj,apt.2 _ _ hl hj hlj⟩
  ·exact⟨λz=>apt.2 _ _ hj hl (Qj hlj) z.symm,apt.3 _ _ hl hj hlj⟩
 have P:∀l,l<18->∀a,(a=A.ra l∨a=A.da l)->a≠r:=λl hl a ha=>by
  have h1:=(rows l hl).neI rdr.1 (by decide);rcases ha with rfl|rfl
  ·exact h1.1
  ·exact h1.2
 refine(yV G hn (sub.WU λa=>∃l,l<18/\l≠j/\(a=A.ra l∨a=A.da l)) (ai (λz=>ae z λl z=>P l z.1 r z.2.2 rfl) hr) rdr (c6 os rfl) ok (rows j hj)
  (ai (λz=>ae z λl z=>(hne l z.1 z.2.1 _ z.2.2).1 rfl) (off j hj).1) (ai (λz=>ae z λl z=>(hne l z.1 z.2.1 _ z.2.2).2 rfl) (off j hj).2) i0 i1 (apt.4 j) (af K7 [_] [] m) (af K2 [_] [] m) h.2).Ws λJ' r1=>?_
 have R:=r1.2.2;rw[h.1] at R;refine⟨by rw[h.1],sub.Xk r1.1,λl hl=>?_,r1.2.1,hr,off,apt,(ok.pre (af K7 [_] [] m) (af K2 [_] [] m)).fill o,mok.up j i (mj m),os⟩;by_cases hlj:l=j;·subst hlj;show Row J' _ _ _ (vo x.2 l i _ l);unfold vo;rw[if_pos rfl];exact R
 ·show Row J' _ _ _ (vo x.2 j i _ l);unfold vo;rw[if_neg hlj];exact(rows l hl).keep λa c h e=>r1.1.at ⟨l,hl,hlj,h⟩ e
theorem jc(G:Good Z Kg)(hn:5<=n)(R:RS H J A r o x){c:Nat}(hc:c<=60)(hj:j<18){start:Int}(s0:0<=start)(s1:start+2^c<=A.len j)(v0:0<=v)(v1:v<2^c)(F:ay o x (az j start c 1 v)):ac Z n (.ref 1001) [.ref r,.ref (A.ra j),.int start 0,.int c 0] J (λu J'=>u=.int v 0/\RS H J' A r o (ak o x (az j start c 1 v))):=by
 refine run G (lq hn rfl) ?_;lk;refine fj (λnode b b=>[(JM,.ref r),(Jt,.ref (A.ra j)),(JF,.int start 0),(I9,.int c 0),(Kb,.int node 0)]) (λm node x' b J'=>m<=c/\node=2^m+v/2^(c-m)/\RS H J' A r o x'/\ay o x' (az j start (c-m) node v)/\ak o x' (az j start (c-m) node v)=ak o x (az j start c 1 v)) 1 x () (c6 hc rfl) ⟨Nc _,by rw[Vu,Ue v0 v1];rfl,R,F,rfl⟩ rfl ?_ ?_
 ·intro m node x' _ J' Q' hm I0 hnext _;have F':=I0.2.2.2.1;have e:=I0.2.2.2.2;obtain⟨l,hl⟩:∃l,c-m=l+1:=⟨c-m-1,af Ky [] [_,_] (Mf (ao KM [] [_,_,_] hm (Mf (af Kx [] [_,_] hm))))⟩;have hl':c-(m+1)=l:=aS Kw [] [_,_,_,_,_] hl (Mf (af KB [] [_,_] hm)) (Mf (af Kx [] [_,_] hm));have Rr:=I0.2.2.1.3.1;have p1:(0:Int)<2^m:=NV (by decide);have p2:(0:Int)<2^l:=NV (by decide);have q0:0<=v/2^l:=Ob v0 (Nm p2);have eq:v/2^(c-m)=v/2^l/2:=by rw[hl,gc]
  have hlt:v/2^(c-m)<2^m:=by rw[Int.ediv_lt_iff_lt_mul (NV (by decide)),<-Tj,show m+(c-m)=c from af 0x8420027080004e5508cfa3b2a8267d1d [] [_,_,_] (Mf (af Kx [] [_,_] hm))];exact v1
  have hmc:(2:Int)^(m+1)<=2^c:=by
   have:=Ph (n:=2) (by decide) (show m+1<=c from hm);have e1:((2^(m+1):Nat):Int)=2^(m+1):=by simp
   have e2:((2^c:Nat):Int)=2^c:=by simp
   exact nF this
  have hm2:(2:Int)^(m+1)=2^m*2:=NM ..;have h60:=mK hc;have hv0:0<=v/2^(c-m):=by rw[eq];exact D9 q0 rfl
  have hb01:=ct (v/2^l);have enode:node*2+v/2^l%2=2^(m+1)+v/2^l:=by rw[I0.2.1,hm2,eq];exact af 0x8420027080004f330164457022ecc20c3dc613059d1c75250 [_,_,_,_] [] (HJ _ _)
  have hN:=I0.2.1.symm;rw[hl] at F' e hlt hv0 hN;lk;refine(br (n:=n-1) G (lp hn rfl) I0.2.2.1 hj (by exact iX 0x108e1142184000693988ad344190203e20487c080b982c0818 [_,_,_,_] [] s0 p1 hv0 hN) (by lia) F'.1).Ws λJ2 R2=>?_;lk;rw[gL (a:=node) (aS 0x108a10c200029c6446921c88101f204874080b [_,_,_] [] p1 hv0 hN) hb01,enode];lk;refine hnext (2^(m+1)+v/2^l) _ () ⟨hm,by rw[hl'],R2,?_,?_⟩ rfl;·rw[hl',<-enode];exact F'.2
  ·rw[hl',<-enode];exact e
 ·intro node x' _ J' I0;have e:=I0.2.2.2.2;have e1:=I0.2.1;rw[Nr] at e e1;rw[Oa,OZ] at e1;have h60:=mK hc;lk;rw[MO];have e2:x'=ak o x (az j start c 1 v):=e;refine⟨by rw[show node-1*2^c=v from af 0x421001384000271911c14391981241ada29 [_,_,_] [] e1],?_⟩;rw[<-e2];exact I0.2.2.1
theorem uy(x l:Nat):Oc (x:Int) (l:Int)=((x ||| l:Nat):Int):=by
 unfold Oc Wf OB;have h1:M3 ((0:Int)<=-(x:Int)-1)=false:=by simp;exact ck 0x860002717c4115 [] [_]
 have h2:M3 ((0:Int)<=-(l:Int)-1)=false:=by simp;exact ck 0x860002717c4115 [] [_]
 simp only[h1,h2];have h3:(-(-(x:Int)-1)-1).toNat=x:=af KU [] [_,_] (MF (ck Lv [] [_]));have h4:(-(-(l:Int)-1)-1).toNat=l:=af KU [] [_,_] (MF (ck Lv [] [_]));show -(-(((-(-(x:Int)-1)-1).toNat ||| (-(-(l:Int)-1)-1).toNat:Nat):Int)-1)-1=_;rw[h3,h4];exact ck 0x100de22f88b98b2a33 [] [_]
theorem B8{m:Nat}(h:0<=v):Oc (v%2^m) (v/2^m%2*2^m)=v%2^(m+1):=by
 refine ae (MX h) λx z4=>?_;rw[z4];have e1:(x:Int)%2^m=((x%2^m:Nat):Int):=by simp
 have e2:(x:Int)/2^m%2*2^m=((x/2^m%2*2^m:Nat):Int):=by simp
 have e3:(x:Int)%2^(m+1)=((x%2^(m+1):Nat):Int):=by simp
 rw[e1,e2,e3,uy,Nat.or_comm,Nat.mod_pow_succ,QT,<-Sn (Nat.mod_lt _ (Nat.pow_pos (by decide))),Nat.add_comm]
theorem RS.Xf(R:RS H J A r o x)(ha:J a=Mr)(c:Cell):RS H (upd J a c) A r o x:=by have S:=Wu ha c;exact⟨R.1.trans S,λj hj=>(R.2 j hj).keep λb d b e=>S _ _ e,⟨S _ _ R.3.1⟩,R.4,R.5,R.6,R.7,R.8,R.9⟩
theorem ub(G:Good Z Kg)(hn:5<=n)(R:RS H J A r o x){c:Nat}(hc:c<=60)(hj:j<18){start:Int}(s0:0<=start)(s1:start+2^c<=A.len j)(v0:0<=v)(v1:v<2^c)(F:ay o x (dr j start c 1 v)):ac Z n (.ref 1008) [.ref r,.ref (A.ra j),.int start 0,.int c 0] J (λu J'=>u=.int v 0/\RS H J' A r o (ak o x (dr j start c 1 v))):=by
 refine run G (lq hn rfl) ?_;lk;intro z hz;have R1:=R.Xf hz (.tup [.int 1 0,.int 0 0]);refine dO ?_ (aa _ _ _) rfl;lk;refine fj (λnode val b=>[(JM,.ref r),(Jt,.ref (A.ra j)),(JF,.int start 0),(Kd,.int val 0),(Kb,.int node 0)]) (λm node val x' J'=>m<=c/\val=v%2^m/\RS H J' A r o x'/\ay o x' (dr j start (c-m) node (v/2^m))/\ak o x' (dr j start (c-m) node (v/2^m))=ak o x (dr j start c 1 v)/\1<=node/\(node+1)*2^(c-m)<=2^(c+1)) 1 0 x (c6 hc rfl) ⟨Nc _,by rw[Oa,Int.emod_one],R1,?_,?_,by decide,by rw[NM];show 2*2^c<=_;exact ck 0xc20cc0587827 [_] []⟩ rfl ?_ ?_;·rw[Oa,OZ];exact F
 ·rw[Oa,OZ];rfl
 ·intro m node val x' J' Q' hm I0 hnext _;have R':=I0.2.2.1;have F':=I0.2.2.2.1;have e:=I0.2.2.2.2.1;have n1:=I0.2.2.2.2.2.1;have n2:=I0.2.2.2.2.2.2;obtain⟨l,hl⟩:∃l,c-m=l+1:=⟨c-m-1,af Ky [] [_,_] (Mf (ao KM [] [_,_,_] hm (Mf (af Kx [] [_,_] hm))))⟩;have hl':c-(m+1)=l:=aS Kw [] [_,_,_,_,_] hl (Mf (af KB [] [_,_] hm)) (Mf (af Kx [] [_,_] hm));rw[hl] at F' e n2;have Rr:=R'.3.1;have hb01:=ct (v/2^m);have h60:=mK hc;obtain z2:=YF hb01 n1 n2;have hnl:=z2.1;have hst:=z2.2;lk;refine(br (n:=n-1) G (lp hn rfl) R' hj (ao KG [_,_] [] s0 n1) (ao KV [_,_,_] [_] s1 hnl) F'.1).Ws λJ2 R2=>?_;lk;rw[gL (a:=node) (sR n1 rfl) hb01];lk;rw[MO,I0.2.1,B8 v0];refine hnext (node*2+v/2^m%2) _ _ ⟨hm,rfl,R2,?_,?_,ao KI [_,_] [] n1 (vp _ rfl),by rw[hl'];exact hst⟩ rfl;·rw[hl',<-gc];exact F'.2
  ·rw[hl',<-gc];exact e
 ·intro node val x' J' I0;have e:=I0.2.2.2.2.1;rw[Nr] at e;lk;have e2:x'=ak o x (dr j start c 1 v):=e;refine⟨by rw[I0.2.1,Tn v0 v1],?_⟩;rw[<-e2];exact I0.2.2.1
theorem tL(h:d.Ok)(q:d.WE.WG<d.WE.span):d.WE.Ok:=by obtain⟨h1,h2,h3,h4⟩:=h;unfold DS.WE at q ⊢;split at q<;>rename_i z<;>simp only[z]<;>refine⟨?_,?_,?_,?_⟩<;>simp_all<;>lia
theorem zk(G:Good Z Kg)(hn:2<=n)(R:RS H J A r o x)(F:Zq o x (.dir b))(h:J1=upd J r (.Wv 1011 [(JD,.bytes o 0),(1937010544,.int o.size 0),(JF,.int 0 0),(Jv,.int x.1.WE.place 0),(JE,.int x.1.WE.span 0),(JC,.int x.1.WE.WG 0)])):ac Z n (.ref 980) [.ref r] J1 (λv J'=>v=.none/\RS H J' A r o (gG o x (.dir b))):=by
 obtain⟨sub,rows,rdr,hr,off,apt,ok,mok,os⟩:=R;have P:∀l,l<18->∀a,(a=A.ra l∨a=A.da l)->a≠r:=λl hl a ha=>by
  have h1:=(rows l hl).neI rdr.1 (by decide);rcases ha with rfl|rfl
  ·exact h1.1
  ·exact h1.2
 have sub1:Sub H J1:=by rw[h];exact sub.upd hr _
 have rows1:aD J1 A x.2:=λl hl=>by rw[h];exact(rows l hl).upd (P l hl _ (.inl rfl)) (P l hl _ (.inr rfl))
 refine(rA G hn (sub1.WU λa=>∃l,l<18/\(a=A.ra l∨a=A.da l)) (ai (λz=>ae z λl z=>P l z.1 r z.2 rfl) hr) (d:=x.1.WE) ⟨by rw[h];exact aa _ _ _⟩ (c6 os rfl) (tL ok F.2.2) F.2.1).XS λJ' S D=>?_;exact⟨rfl,sub1.Xk S,λl hl=>(rows1 l hl).keep λa c h e=>S.at ⟨l,hl,h⟩ e,D,hr,off,apt,(tL ok F.2.2).fill o,mok,os⟩
theorem zm(G:Good Z Kg)(hn:5<=n)(R:RS H J A r o x){c:Nat}(hc:c<=60)(v0:0<=v)(v1:v<2^c)(F:ay o x (dJ c v)):ac Z n (.ref 994) [.ref r,.int c 0] J (λu J'=>u=.int v 0/\RS H J' A r o (ak o x (dJ c v))):=by
 refine run G (lq hn rfl) ?_;lk;refine fj (λval b b=>[(JM,.ref r),(Kd,.int val 0)]) (λm val x' b J'=>m<=c/\val=v/2^(c-m)/\RS H J' A r o x'/\ay o x' (dJ (c-m) v)/\ak o x' (dJ (c-m) v)=ak o x (dJ c v)) 0 x () (c6 hc rfl) ⟨Nc _,by rw[Vu,Ue v0 v1],R,F,rfl⟩ rfl ?_ ?_
 ·intro m val x' _ J' Q' hm I0 hnext _;have F':=I0.2.2.2.1;have e:=I0.2.2.2.2;have ev:=I0.2.1;obtain⟨l,hl⟩:∃l,c-m=l+1:=⟨c-m-1,af Ky [] [_,_] (Mf (ao KM [] [_,_,_] hm (Mf (af Kx [] [_,_] hm))))⟩;have hl':c-(m+1)=l:=aS Kw [] [_,_,_,_,_] hl (Mf (af KB [] [_,_] hm)) (Mf (af Kx [] [_,_] hm));rw[hl] at F' e ev;have Rr:=I0.2.2.1.3.1;have f1:=F'.1.1;have hb01:=ct (v/2^l);have p2:(0:Int)<2^l:=NV (by decide);have q0:0<=v/2^l:=Ob v0 (Nm p2);have eq:val=v/2^l/2:=by rw[ev,gc]
  have qb:val<2^60:=by rw[ev];have h60:=mK hc;have p3:(0:Int)<2^(l+1):=NV (by decide);have:v/2^(l+1)<=v:=Int.ediv_le_self _ v0;exact iX 0x42484508610001a400000000000000048893630407c00000000000000064509d988a44e6090e [_,_,_,_] [] v1 h60 this G9
  lk;rw[Fx];refine tU (tF ?_);have ef:(if yu .ge x'.1.WG (x'.1.span/2)=Mj then(1:Int) else 0)=x'.1.YQ:=by
   unfold DS.YQ yu;by_cases z:x'.1.span/2<=x'.1.WG;·simp[z]
   ·simp[z]
  rw[ef,f1];have tail:∀J1,J1=upd J' r (.Wv 1011 [(JD,.bytes o 0),(1937010544,.int o.size 0),(JF,.int 0 0),(Jv,.int x'.1.WE.place 0),(JE,.int x'.1.WE.span 0),(JC,.int x'.1.WE.WG 0)])->
    X Z (n-1) Q' [] J1 [(JM,.ref r),(Kd,.int val 0),(JX,.int (v/2^l%2) 0)] [] (.ld Kd<|.cst (.int 1 0)<|.bin .shl<|.ld JX<|.bin .bor<|.st Kd<|.ld JM<|.meth IZ<|.XM 0<|.pop<|.Wz):=by
   intro J1 h1
   clear Rr
   subst h1
   lk
   rw[gL (a:=val) (aS 0x84708508004aa1180b1372212e8c141f204074080b [_,_,_] [] q0 eq (HD _ rfl)) hb01,show val*2+v/2^l%2=v/2^l by exact ao 0x108e104007e11420000fc73016488e045d98283e330830f6e22a [_,_,_,_] [] eq (HJ _ _)]
   lk
   refine(zk (n:=n-1) G (lp hn rfl) I0.2.2.1 F'.1 rfl).Ws λJ2 R2=>?_
   lk
   refine hnext (v/2^l) _ () ⟨hm,by rw[hl'],R2,?_,?_⟩ rfl
   ·rw[hl'];exact F'.2
   ·rw[hl'];exact e
  have f3:=F'.1.2.2;lk;refine aH (λh=>?_) (λh=>?_)
  ·have hz:x'.1.span/2<=x'.1.WG:=by
    by_cases z:x'.1.span/2<=x'.1.WG;·exact z
    ·unfold DS.YQ at f1;rw[if_neg z] at f1;exact fb 0x423842003d1050740a0b [_] [] f1 h
   have ep:x'.1.WE=⟨x'.1.place,x'.1.span/2,x'.1.WG-x'.1.span/2⟩:=by unfold DS.WE;rw[if_pos hz]
   rw[ep] at f3;dsimp only at f3;lk;refine wT (λz=>fb 0x843080007a60d9100dccc1a711b [_,_] [] f3 z) (λb=>?_);exact nM (nM (fP (tail _ (by rw[ep];rfl)) rfl))
  ·have hz:¬x'.1.span/2<=x'.1.WG:=λz=>by unfold DS.YQ at f1;rw[if_pos z] at f1;lia
   have ep:x'.1.WE=⟨x'.1.place,x'.1.span/2,x'.1.WG⟩:=by unfold DS.WE;rw[if_neg hz]
   exact nM (fP (tail _ (by rw[ep];rfl)) rfl)
 ·intro val x' _ J' I0;have e:=I0.2.2.2.2;rw[Nr] at e;lk;have e2:x'=ak o x (dJ c v):=e;refine⟨by rw[I0.2.1,Nr,Oa,OZ],?_⟩;rw[<-e2];exact I0.2.2.1
variable{pb:Nat}
theorem RS.sup(R:RS H J A r o x)(S:Sub J J'):RS H J' A r o x:=
 ⟨R.1.trans S,λj hj=>(R.2 j hj).keep λb d a e=>S _ _ e,⟨S _ _ R.3.1⟩,R.4,R.5,R.6,R.7,R.8,R.9⟩
theorem dm(G:Good Z Kg)(hn:6<=n)(R:RS H J A r o x){l:Ml}(hpb:pb<=4)(L:tg H A l j pb){pos:Int}(p0:0<=pos)(p1:pos<2^pb)(h0:2<=length)(h1:length<=273)(F:ay o x (cq j (8*pos) length)):ac Z n (.ref 418) [.ref r,.ref l,.int pos 0] J (λu J'=>u=.int length 0/\RS H J' A r o (ak o x (cq j (8*pos) length))):=by
 have Rr:=R.3.1;have Ll:=R.1 _ _ L.1;have hj:=L.2;have z:=dg (m:=pb) hpb;have q1:(A.len (j+1):Int)=8*2^pb:=by rw[L.4];simp
 have q2:(A.len (j+2):Int)=8*2^pb:=by rw[L.5];simp
 refine run G (lq hn rfl) ?_;lk;unfold cq at F ⊢;by_cases h:length-2<8;·rw[if_pos h] at F ⊢;refine(br (n:=n-1) G (lp hn rfl) R (by exact af KK [] [_] hj) (Mt _) (by rw[L.3];decide) F.1).Ws λJ2 R2=>?_;have Rr:=R2.3.1;have Ll:=R2.1 _ _ L.1;refine aA (aH (λa=>?_) (λz=>absurd rfl z));lk;refine(jc (n:=n-1) (c:=3) G (lp hn rfl) R2 (Ms _ _) (by exact af 0x840002721882684219088267c20 [] [_] hj) (by exact af Lw [_] [] p0) (by rw[q1];lia) (ON h0) h F.2).Ws λJ3 R3=>?_;lk;refine⟨by rw[show(2:Int)+(length-2)=length from ck 0x100e106c056ea27 [_] []],?_⟩;rw[cJ];exact R3
 ·rw[if_neg h] at F ⊢;refine(br (n:=n-1) G (lp hn rfl) R (by exact af KK [] [_] hj) (Mt _) (by rw[L.3];decide) F.1).Ws λJ2 R2=>?_;have Rr:=R2.3.1;have Ll:=R2.1 _ _ L.1;refine aA (aH (λz=>by cases z) (λa=>?_));lk;have F2:=F.2;by_cases h':length-2<16;·rw[if_pos h'] at F2 ⊢;refine(br (n:=n-1) G (lp hn rfl) R2 (by exact af KK [] [_] hj) (Mt _) (by rw[L.3];decide) F2.1).Ws λJ3 R3=>?_;have Rr:=R3.3.1;have Ll:=R3.1 _ _ L.1;refine aA (aH (λa=>?_) (λz=>absurd rfl z));lk;refine(jc (n:=n-1) (c:=3) G (lp hn rfl) R3 (Ms _ _) (Nq hj) (by exact af Lw [_] [] p0) (by rw[q2];lia) (by exact af 0x2100009c0841a79c45021069f40829 [_] [] h) (by lia) F2.2).Ws λJ4 R4=>?_;lk;refine⟨by rw[show(2:Int)+8+(length-2-8)=length from ck 0x100e0420d3ec080ad57ea47 [_] []],?_⟩;simp only[cJ];exact R4
  ·rw[if_neg h'] at F2 ⊢;refine(br (n:=n-1) G (lp hn rfl) R2 (by exact af KK [] [_] hj) (Mt _) (by rw[L.3];decide) F2.1).Ws λJ3 R3=>?_;have Rr:=R3.3.1;have Ll:=R3.1 _ _ L.1;refine aA (aH (λz=>by cases z) (λa=>?_));lk;refine(jc (n:=n-1) (c:=8) G (lp hn rfl) R3 (Ms _ _) hj (Mt _) (by rw[L.6];decide) (by exact af 0x8400027010834f388e021069f4082a [_] [] h') (ao 0x211420001e8009110cc444102d3010834fb012d [_,_] [] h1 Cs) F2.2).Ws λJ4 R4=>?_;lk;refine⟨by rw[show(2:Int)+2*8+(length-2-16)=length by lia],?_⟩;simp only[cJ];exact R4
theorem eS(G:Good Z Kg)(hn:6<=n)(R:RS H J A r o x)(M:aj H A B)(d0:1<=distance)(d1:distance<=2^32)(h0:2<=length)(F:ay o x (bS distance length)):ac Z n (.ref 425) [.ref r,.ref B.m,.int length 0] J (λu J'=>u=.int distance 0/\RS H J' A r o (ak o x (bS distance length))):=by
 have Rr:=R.3.1;have Mm:=R.1 _ _ M.1;obtain z5:=fX h0;have sl:=wL d0 d1;refine run G (lq hn rfl) ?_;lk;refine((iu (n:=n-1) G (lp hn rfl) h0)).k01 ?_;lk;unfold bS at F ⊢;obtain z4:=aY.mp F;have F2:=z4.2;rw[bx];refine(jc (n:=n-1) (c:=6) G (lp hn rfl) R (Ms _ _) (Ms _ _) z5.1 (by rw[M.n6];exact z5.2) sl.1 (by have:=sl.2;exact ill this rfl) z4.1).Ws λJ2 R2=>?_;have Rr:=R2.3.1;have Mm:=R2.1 _ _ M.1;generalize ak o x (az 6 (cu length) 6 1 (aR distance).1)=x2 at*;lk;cases dL d0 d1 with
 |small hd e=>rw[e] at F2 sl ⊢;refine bQ (λa=>?_) (λh=>by dsimp only at h;exact fb 0x210c20001e8220d38e20820810 [_] [] hd h);lk;refine⟨by dsimp only;rw[show distance-1+1=distance from ck 0x40388834e6da25 [_] []],?_⟩;rw[if_pos rfl];exact R2
 |big g q g0 g1 hq q0 q1 e eb r0 r1=>
  rw[e] at F2 sl ⊢;dsimp only at sl F2 ⊢;rw[if_neg (by exact λzz=>fb 0x108a10000f50158845c5a921b [] [_] zz g0)] at F2 ⊢;rw[eb] at F2 ⊢;dsimp only at F2 ⊢;refine bQ (λh=>absurd h (ao 0x1086100007e0405d0158841bc0589b74e2f [_] [_] g0 q0)) (λa=>?_);lk;refine(fh (n:=n-1) G (lp hn rfl) sl.1 sl.2).kst λz z3=>?_;rw[eb];have R3:=R2.Xf z3 (.tup [.int ((g:Int)-1) 0,.int ((2+q)*2^(g-1)) 0]);refine dO ?_ (aa _ _ _) rfl;generalize hσ3:upd J2 z (.tup [.int ((g:Int)-1) 0,.int ((2+q)*2^(g-1)) 0])=J3 at*;have Rr:=R3.3.1;have Mm:=R3.1 _ _ M.1;lk;refine bQ (λh14=>?_) (λh14=>?_);·rw[if_pos h14] at F2 ⊢;lk;refine(eC (n:=n-1) G (lp hn rfl) sl.1 sl.2).Ws λa r3=>?_;refine bI r3 λx' c' z2=>?_;rw[z2.2];have R4:=R3.Xf z2.1 c';rw[eb];dsimp only;have bounds:=kz g0 h14 hq;lk;have eg:((g:Int)-1)=((g-1:Nat):Int):=af 0x8400027084004e8a11a3472bc5c5a9222 [] [_,_] (Mf (af LT [] [_] g0));rw[eg,MO] at F2 ⊢;refine(ub (n:=n-1) (c:=g-1) G (lp hn rfl) R4 (ao 0x108a10000f5e2b8f54445f142315f041314 [] [_,_] g1 eg) (Ms _ _) bounds.1 (by rw[M.n7];exact bounds.2) r0 r1 F2).Ws λJ5 R5=>?_;lk;exact⟨by congr 1;exact ck 0x100cc6244a8d82e57923f [_,_] [],R5⟩
  ·rw[if_neg h14] at F2 ⊢;obtain z1:=aY.mp F2;have F3:=z1.1;have F4:=z1.2;rw[bx];lk;have eg:((g:Int)-1-4)=((g-5:Nat):Int):=af 0x1080004e108009d4508d3a3d5e08b8b52b0a31 [] [_,_] (Mf (ao 0x108610008f70de02c4dba71844101d503311 [_] [_] q1 h14));have er:(2:Int)^(g-1)=2^(g-5)*16:=by rw[show g-1=(g-5)+4 by exact ao Le [] [_,_,_] eg (Mf (af 0x218c21001eaf045c5a958518d0230f [] [_,_] eg)),Tj];rfl
   have e5:=mK (c:=g-5) (ao K6 [] [_,_] g1 eg);generalize hb:(2+q)*2^(g-1)=base at*;rw[er] at r1;rw[eg,MO] at F3 F4 ⊢;refine(zm (n:=n-1) (c:=g-5) G (lp hn rfl) R3 (ao K6 [] [_,_] g1 eg) (v:=(distance-1-base)/16) (D9 r0 rfl) (ao 0x108610078f66222d4ae0088903b8091266222d4ac04fa6090e [_,_,_,_] [] r1 (FI _ rfl)) F3).Ws λJ4 R4=>?_;have Rr:=R4.3.1;have Mm:=R4.1 _ _ M.1;lk;rw[HM];refine(ub (n:=n-1) (c:=4) G (lp hn rfl) R4 (Ms _ _) (Ms _ _) (by decide) (by rw[M.n8];decide) (v:=(distance-1-base)%16) (Nw _ (by decide)) (Nj _ (by decide)) F4).Ws λJ5 R5=>?_;lk;exact⟨by dsimp only;congr 1;lia,R5⟩
theorem yd:∀k:Nat,k<256->∀m:Nat,m<8->And (2^(8-(m+1))+(k:Int)/2^(m+1)<256) (And (1<=2^(8-(m+1))+(k:Int)/2^(m+1)) ((2^(8-(m+1))+(k:Int)/2^(m+1))*2+(k:Int)/2^m%2=2^(8-m)+(k:Int)/2^m)):=by decide +kernel
theorem g9{m:Nat}(hm:m<8)(v0:0<=v)(v1:v<256)(en:node=2^(8-(m+1))+v/2^(m+1)):node<256/\1<=node/\node*2+v/2^m%2=2^(8-m)+v/2^m:=by refine ae (MX v0) λk z3=>?_;obtain rfl:=z3;subst en;have z:=yd k (Sd.mp v1) m hm;exact⟨z.1,z.2.1,z.2.2⟩
theorem kT(G:Good Z Kg)(hn:6<=n)(R:RS H J A r o x){start:Int}(s0:0<=start)(s1:start+256<=A.len 9)(v0:0<=v)(v1:v<256)(F:ay o x (az 9 start 8 1 v)):ac Z n (.ref 432) [.ref r,.ref (A.ra 9),.int start 0] J (λu J'=>u=.int v 0/\RS H J' A r o (ak o x (az 9 start 8 1 v))):=by
 refine run G (lq hn rfl) ?_;lk;refine x6 (m:=8) (λm E J'=>m<=8/\bM λx' node=>E=[(JW,.ref r),(ID,.ref (A.ra 9)),(JF,.int start 0),(JX,.int node 0)]/\RS H J' A r o x'/\ay o x' (az 9 start m node v)/\ak o x' (az 9 start m node v)=ak o x (az 9 start 8 1 v)/\node=2^(8-m)+v/2^m)
  (λρ J'=>ρ=[(JX,.int (256+v) 0)]/\RS H J' A r o (ak o x (az 9 start 8 1 v))) ?_ ?_ ?_
 ·exact⟨_,⟨MD _,x,1,rfl,R,F,rfl,by show(1:Int)=2^0+v/256;lia⟩,rfl⟩
 ·intro m E J' Q' I0 hnext hbrk _;have hm:=I0.1;refine bI I0.2 λx' node z2=>?_;rw[z2.1];have R':=z2.2.1;have F':=z2.2.2.1;have e:=z2.2.2.2.1;have en:=z2.2.2.2.2;have Rr:=R'.3.1;lk;induction m with
  |zero=>
   have en':node=256+v:=by rw[en];show(2:Int)^8+v/2^0=_;rw[Oa,OZ];rfl
   refine bQ (λh=>by lia) (λb=>?_);refine hbrk ⟨_,⟨rfl,?_⟩,by rw[<-en'];rfl⟩;rw[<-e];exact R'
  |succ m=>have hb01:=ct (v/2^m);have fact:=g9 hm v0 v1 en;obtain z1:=g9 hm v0 v1 en;have n1:=z1.1;have n2:=z1.2.1;refine bQ (λb=>?_) (λh=>fb 0x109210000f4004138673115cc20c3db8b0203bc00412b76e [_,_,_,_] [] fact h);lk;refine(br (n:=n-1) G (lp hn rfl) R' (Ms _ _) (ao 0x211420001e8722b8c244893814c0811f00122167bcc080b982c0818 [_,_,_,_,_] [] s0 fact) (ao 0x421840003d0e4571848912702981023e002442cf79bc00416b024bcc16711c [_,_,_,_,_] [_] s1 fact) F'.1).Ws λJ2 R2=>?_;lk;rw[gL (a:=node) (af 0x8420027988ae61061edc58101de002095bb74080b [_,_,_,_] [] fact) hb01];lk;refine hnext m (Na m) ⟨_,⟨Nq hm,_,_,rfl,R2,F'.2,e,fact.2.2⟩,rfl⟩
 ·intro E J' r1;rw[r1.1];have R':=r1.2;lk;exact⟨by rw[show(256:Int)+v-256=v from ck 0x403800c0018d6b5a35 [_] []],R'⟩
theorem xB:∀k:Nat,k<256->∀m:Nat,m<8->And (0<=(k:Int)*2^(8-(m+1))) (And ((k:Int)*2^(8-(m+1))/128%2=(k:Int)/2^m%2) (And ((k:Int)*2^(8-(m+1))*2=(k:Int)*2^(8-m)) ((k:Int)*2^(8-(m+1))<2^60))):=by decide +kernel
theorem vf{m:Nat}(hm:m<8)(b0:0<=b)(b1:b<256):0<=b*2^(8-(m+1))/\b*2^(8-(m+1))/128%2=b/2^m%2/\b*2^(8-(m+1))*2=b*2^(8-m)/\b*2^(8-(m+1))<2^60:=by refine ae (MX b0) λk z7=>?_;obtain rfl:=z7;have z:=xB k (Sd.mp b1) m hm;exact⟨z.1,z.2.1,z.2.2.1,z.2.2.2⟩
theorem kY(G:Good Z Kg)(hn:6<=n)(R:RS H J A r o x){start:Int}(s0:0<=start)(s1:start+768<=A.len 9)(v0:0<=v)(v1:v<256)(b0:0<=b)(b1:b<256)(F:ay o x (bY start 8 1 v b)):ac Z n (.ref 439) [.ref r,.ref (A.ra 9),.int start 0,.int b 0] J (λu J'=>u=.int v 0/\RS H J' A r o (ak o x (bY start 8 1 v b))):=by
 refine run G (lq hn rfl) ?_;lk;intro z hz;have R1:=R.Xf hz (.tup [.int 1 0,.int b 0]);refine dO ?_ (aa _ _ _) rfl;lk;refine x6 (m:=8) (λm E J'=>m<=8/\bM λx' node=>E=[(JW,.ref r),(ID,.ref (A.ra 9)),(JF,.int start 0),(JX,.int node 0),(JY,.int (b*2^(8-m)) 0)]/\RS H J' A r o x'/\ay o x' (bY start m node v b)/\ak o x' (bY start m node v b)=ak o x (bY start 8 1 v b)/\node=2^(8-m)+v/2^m)
  (λρ J'=>nW λm x' node=>m<=8/\ρ=[(JW,.ref r),(ID,.ref (A.ra 9)),(JF,.int start 0),(JX,.int node 0)]/\RS H J' A r o x'/\ay o x' (az 9 start m node v)/\ak o x' (az 9 start m node v)=ak o x (bY start 8 1 v b)/\node=2^(8-m)+v/2^m) ?_ ?_ ?_
 ·refine⟨_,⟨MD _,x,1,rfl,R1,F,rfl,by show(1:Int)=2^0+v/256;lia⟩,?_⟩;rw[Nr,Oa,RB];rfl
 ·intro m E J' Q' I0 hnext hbrk _;have hm:=I0.1;refine bI I0.2 λx' node z6=>?_;rw[z6.1];have R':=z6.2.1;have F':=z6.2.2.1;have e:=z6.2.2.2.1;have en:=z6.2.2.2.2;have Rr:=R'.3.1;lk;induction m with
  |zero=>
   have en':node=256+v:=by rw[en];show(2:Int)^8+v/2^0=_;rw[Oa,OZ];rfl
   refine bQ (λh=>by lia) (λc=>?_);exact hbrk ⟨_,⟨0,x',node,by decide,rfl,R',F',e,en⟩,rfl⟩
  |succ m=>
   have hb01:=ct (v/2^m);have hd01:=ct (b/2^m);obtain z5:=g9 hm v0 v1 en;have n1:=z5.1;have n2:=z5.2.1;have n3:=z5.2.2;obtain z4:=vf (m:=m) hm b0 b1;have c0:=z4.1;have c1:=z4.2.1;have c2:=z4.2.2.1;have c3:=z4.2.2.2;generalize hrest:b*2^(8-(m+1))=rest at*;refine bQ (λc=>?_) (λh=>fb 0x108610000f4004138660020916 [_] [] n1 h);lk;rw[H7,jk (D9 c0 rfl),c1];lk;rw[Dh];rw[fE] at F' e;refine(br (n:=n-1) G (lp hn rfl) R' (Ms _ _) (aS Lg [_,_,_] [] s0 n2 (vp _ rfl)) (aS 0x2009142184000630910894004452357c00416b825bc600260468c82f07f14c [_,_,_] [_] s1 n1 (C5 _ rfl)) F'.1).Ws λJ2 R2=>?_;lk;rw[gL (a:=node) (sR n2 rfl) hb01,Fx,c2];lk;have F2:=F'.2;rw[cJ] at e;refine aH (λh=>?_) (λh=>?_);·rw[if_pos h] at F2 e;lk;refine hnext m (Na m) ⟨_,⟨Nq hm,_,_,rfl,R2,F2,e,n3⟩,rfl⟩
   ·rw[if_neg h] at F2 e;lk;exact hbrk ⟨_,⟨m,_,_,Nq hm,rfl,R2,F2,e,n3⟩,rfl⟩
 ·intro E J' I0;refine ga I0 λm0 x0 node0 z3=>?_;have hm0:=z3.1;rw[z3.2.1];have R0:=z3.2.2.1;have F0:=z3.2.2.2.1;have e0:=z3.2.2.2.2.1;have en0:=z3.2.2.2.2.2;lk;refine x6 (m:=m0) (λm E J'=>m<=8/\bM λx' node=>E=[(JW,.ref r),(ID,.ref (A.ra 9)),(JF,.int start 0),(JX,.int node 0)]/\RS H J' A r o x'/\ay o x' (az 9 start m node v)/\ak o x' (az 9 start m node v)=ak o x (bY start 8 1 v b)/\node=2^(8-m)+v/2^m)
   (λρ J'=>ρ=[(JX,.int (256+v) 0)]/\RS H J' A r o (ak o x (bY start 8 1 v b))) ⟨_,⟨hm0,x0,node0,rfl,R0,F0,e0,en0⟩,rfl⟩ ?_ ?_
  ·intro m E J' Q' I0 hnext hbrk _;have hm:=I0.1;refine bI I0.2 λx' node z2=>?_;rw[z2.1];have R':=z2.2.1;have F':=z2.2.2.1;have e:=z2.2.2.2.1;have en:=z2.2.2.2.2;have Rr:=R'.3.1;lk;induction m with
   |zero=>
    have en':node=256+v:=by rw[en];show(2:Int)^8+v/2^0=_;rw[Oa,OZ];rfl
    refine bQ (λh=>by lia) (λc=>?_);refine hbrk ⟨_,⟨rfl,?_⟩,by rw[<-en'];rfl⟩;rw[<-e];exact R'
   |succ m=>have hb01:=ct (v/2^m);obtain z1:=g9 hm v0 v1 en;have n1:=z1.1;have n2:=z1.2.1;have n3:=z1.2.2;refine bQ (λc=>?_) (λh=>fb 0x108610000f4004138660020916 [_] [] n1 h);lk;refine(br (n:=n-1) G (lp hn rfl) R' (Ms _ _) (ao KG [_,_] [] s0 n2) (ao 0x843080007a002442337c00416b825bcc16711c [_,_] [_] s1 n1) F'.1).Ws λJ2 R2=>?_;lk;rw[gL (a:=node) (sR n2 rfl) hb01];lk;refine hnext m (Na m) ⟨_,⟨Nq hm,_,_,rfl,R2,F'.2,e,n3⟩,rfl⟩
  ·intro E J' r1;rw[r1.1];have R':=r1.2;lk;exact⟨by rw[show(256:Int)+v-256=v from ck 0x403800c0018d6b5a35 [_] []],R'⟩
inductive vy(J:Sg)(x rb:Ml)(l:List UInt8):Prop where
 |mk (o:J x=Md (.Wv 905 [(I8,.int 256 0),(500086104428,.int l.length 0),(JA,.ref rb),(JB,.int l.length 0)]))
  (b:J rb=Md (.WK l))
variable{d:Int}{l:List UInt8}{rb:Ml}
section
variable{x:Ml}
theorem pF(G:Good Z Kg)(hn:0<n)(W:vy J x rb l)(hl:l.length<256):ac Z n (.ref 852) [.ref x] J (λv J'=>v=.int l.length 0/\J=J'):=by have h1:=W.1;refine run G hn ?_;lk;refine qh W.2 (af 0x84000270010505fd090041322 [] [_] hl) ?_;lk;exact⟨rfl,rfl⟩
theorem rC(G:Good Z Kg)(hn:2<=n)(W:vy J x rb l)(hl:l.length<256)(d0:1<=d)(d1:d<=l.length):ac Z n (.ref 874) [.ref x,.int d 0] J (λv J'=>v=.none/\J=J'):=by have h1:=W.1;refine run G (lq hn rfl) ?_;lk;refine bQ (λh=>fb 0x210c20001e88243b0200e [_] [] d0 h) (λa=>?_);lk;refine sg (C:=905) (f:=852) ?_ h1 rfl;refine((pF (n:=n-1) G (lp hn rfl) W hl)).k01 ?_;refine⟨rfl,?_⟩;refine nv (λh=>fb 0x843080007b71487de080f [_] [_] d1 h) (λa=>?_);lk;exact⟨rfl,rfl⟩
theorem AR(G:Good Z Kg)(hn:3<=n)(W:vy J x rb l)(hl:l.length<256){d:Nat}(d0:1<=d)(d1:d<=l.length):ac Z n (.ref 881) [.ref x,.int d 0] J (λv J'=>v=.int ((l.getD (l.length-d) 0).toNat) 0/\J=J'):=by
 have h1:=W.1;refine run G (lq hn rfl) ?_;lk;refine((rC (n:=n-1) G (lp hn rfl) W hl (nF d0) (nF d1))).k01 ?_;lk;refine wT (λa=>?_) (λh=>fb 0x421840003d7ae3d0231154130f [] [_,_] d1 h);lk;have hlt:l.length-d<l.length:=by lia
 refine xq (u:=l.getD (l.length-d) 0) W.2 (af Mo [] [_,_] d1) (aS 0x108e10c200029800000000000000010526d408c460020a0bebdc5aa91f [_] [_,_] hl d0 d5) ?_ ?_;·rw[show((l.length:Int)-(d:Int)).toNat=l.length-d from aS K4 [] [_,_,_,_] (Ni _) (MF (af Mo [] [_,_] d1)) (Mf d1),MH hlt,Mx,MH hlt];rfl
 ·lk;exact⟨rfl,rfl⟩
theorem tz(G:Good Z Kg)(hn:0<n)(S:Sub H J)(W:vy J x rb l)(hx:H x=Mr)(hb:H rb=Mr)(hl:l.length<255){u:Int}(u0:0<=u)(u1:u<256):ac Z n (.ref 860) [.ref x,.int u 0] J (λv J'=>v=.none/\Sub H J'/\vy J' x rb (l++[u8 u])):=by have h1:=W.1;have h2:=W.2;have hxb:x≠rb:=mn h1 h2 rfl;have hbx:=hxb.symm;refine run G hn ?_;lk;refine qh W.2 (af 0x4200013ff10505bd090041322 [] [_] hl) ?_;lk;refine bQ (λa=>?_) (λh=>fb 0x108610000f4005c53877fc41416 [] [_] hl h);lk;refine mh h2 ⟨u0,u1⟩ (af 0x8400027fe20a0b61a804131f [] [_] hl) ?_;lk;refine aH (λh=>fb 0x422840003d0011715a489ffc41416 [] [_] hl h) (λa=>?_);lk;refine⟨rfl,(S.upd hb _).upd hx _,(aa _ _ _).trans ?_,(ag _ _ hbx).trans (aa _ _ _)⟩;rw[MI,Nh];rfl
end
noncomputable def bf(l:List UInt8)(d:Nat):Nat->List UInt8
 |0=>[]
 |c+1=>l.getD (l.length-d) 0::bf (l++[l.getD (l.length-d) 0]) d c
theorem iG(l:List UInt8)(d c:Nat):bf l d (c+1)=l.getD (l.length-d) 0::bf (l++[l.getD (l.length-d) 0]) d c:=rfl
section
variable{x:Ml}
theorem qN(u:UInt8):PB ((u.toNat:Int)).toNat=u:=by rw[MO];exact Vz
theorem ny(G:Good Z Kg)(hn:3<=n):ac Z n (.ref 905) [.int 256 0] J (λr J'=>bM λx rb=>r=.ref x/\J x=Mr/\J rb=Mr/\Sub J J'/\vy J' x rb []):=by
 refine bA G (lq hn rfl) iS λx hx=>?_;refine run G (yq hn rfl) ?_;lk;refine bQ (λh=>by lia) (λa=>?_);lk;refine run G (aS 0x42484508000a65104cfa3b51215a547eb02b1280c0c [] [_,_,_] hn (Mf (af 0x2100009d8158850230f [] [_] hn)) (Mf (ao 0x422840003d5104cfa3958158950230f [] [_,_] hn (Mf (af 0x2100009d8158850230f [] [_] hn))))) ?_;lk;refine pN λz hz=>?_;have hxz:x≠z:=λe=>by rw[<-e,aa] at hz;cases hz
 have hzx:=hxz.symm;have hσz:J z=none:=by rw[ag _ _ hzx] at hz;exact hz
 lk;lk;exact⟨rfl,x,z,rfl,hx,hσz,((Sub.rfl.upd hx _).upd hσz _).upd hx _,aa _ _ _,(ag _ _ hzx).trans (aa _ _ _)⟩
theorem yU(G:Good Z Kg)(hn:4<=n)(S:Sub H J)(W:vy J x rb l)(hx:H x=Mr)(hb:H rb=Mr){d c:Nat}(d0:1<=d)(d1:d<=l.length)(hl:l.length+c<256):ac Z n (.ref 888) [.ref x,.int d 0,.int c 0] J (λv J'=>v=.bytes (bf l d c).toArray 0/\Sub H J'/\vy J' x rb (l++bf l d c)):=by
 have h1:=W.1;refine run G (lq hn rfl) ?_;lk;refine((rC (n:=n-1) G (yq hn rfl) W (af 0x10c610000f40054133e1240041417 [] [_,_] hl) (nF d0) (nF d1))).k01 ?_;refine tM (pN λz hz=>?_);have N:=Wu hz (.WK []);have hzx:z≠x:=El hz h1;have hzb:z≠rb:=El hz W.2;have hxz:=hzx.symm;have hbz:=hzb.symm;have hHz:H z=none:=S.none hz;lk;refine fj (λb b b=>[(JM,.ref x),(JT,.int d 0),(1953459300,.ref z)]) (λm l' done b J'=>m<=c/\Sub H J'/\vy J' x rb l'/\J' z=Md (.WK done)/\
  l'=l++done/\done++bf l' d (c-m)=bf l d c/\done.length=m) l [] () (aS 0x42284308000a600290ad084b2a11895408c47d090041322 [] [_,_,_] d0 d1 hl) ⟨Nc _,S.trans N,⟨N _ _ W.1,N _ _ W.2⟩,aa _ _ _,by simp,rfl,rfl⟩ rfl ?_ ?_
 ·intro m l' done _ J' Q' hm z2 hnext _;have hz':=z2.2.2.2.1;have ed:=z2.2.2.2.2.2.1;have hll:l'.length=l.length+m:=by rw[z2.2.2.2.2.1,MI,z2.2.2.2.2.2.2]
  obtain⟨e,he⟩:∃e,c-m=e+1:=⟨c-m-1,af Ky [] [_,_] (Mf (ao KM [] [_,_,_] hm (Mf (af Kx [] [_,_] hm))))⟩;have he':c-(m+1)=e:=aS Kw [] [_,_,_,_,_] he (Mf (af KB [] [_,_] hm)) (Mf (af Kx [] [_,_] hm));rw[he] at ed;have Xx:=z2.2.2.1.1;lk;refine((AR (n:=n-1) G (lp hn rfl) z2.2.2.1 (aS 0x42284308000a7542382a3b2d0b04e00254234a13c0041417 [] [_,_,_,_] hl hm hll) d0 (ao Lf [] [_,_,_,_] d1 hll))).k01 ?_;have hu:=(l'.getD (l'.length-d) 0).toNat_lt;lk;refine(tz (n:=n-1) G (lp hn rfl) (z2.2.1.WU λa=>a=z) z2.2.2.1 (ai hxz hx) (ai hbz hb) (aS 0x2114218400053aa11c151d96858270012a11a509ffc41416 [] [_,_,_,_] hl hm hll) (Mt _) (nF hu)).XS λJ2 S2 W2=>?_;have hz2:=S2.at rfl hz';lk;refine mh hz2 ⟨Mt _,nF hu⟩ (DA 0x21242384508610001fc505447510d0520035215a70a2542312a81188e1a804131f [] [_,_,_,_,_] d0 d1 hl hm z2.2.2.2.2.2.2) ?_;lk;refine hnext _ _ () ⟨hm,(z2.2.1.Xk S2).upd hHz _,⟨(ag _ _ hxz).trans W2.1,(ag _ _ hbz).trans W2.2⟩,aa _ _ _,?_,?_,?_⟩ rfl;·rw[z2.2.2.2.2.1];simp[u8]
  ·rw[he',<-ed,u8,qN];rw[iG,NJ];rfl
  ·simp[z2.2.2.2.2.2.2]
 ·intro l' done _ J' z1;have ed:=z1.2.2.2.2.2.1;rw[Nr] at ed;have ed':done=bf l d c:=by rw[<-ed,show bf l' d 0=[] from rfl,NG]
  lk;refine rn ?_ z1.2.2.2.1 (iX 0x211c2284308000d35054420035215a70a2542312a81188e1a804131f [] [_,_,_,_] d0 d1 hl z1.2.2.2.2.2.2);lk;exact⟨by rw[ed'],z1.2.1,by rw[<-ed',<-z1.2.2.2.2.1];exact z1.2.2.1⟩
end
noncomputable def codeAt(o:Array UInt8):Nat->Int
 |0=>0
 |m+1=>codeAt o m*256+au o ((1:Int)+m)
theorem db(o:Array UInt8):∀m:Nat,0<=codeAt o m/\codeAt o m<256^m
 |0=>⟨QM _,by show(0:Int)<256^0;rw[Oa];decide⟩
 |m+1=>by have ih:=db o m;have z:=aJ o ((1:Int)+m);show 0<=codeAt o m*256+au o ((1:Int)+m)/\codeAt o m*256+au o ((1:Int)+m)<256^(m+1);rw[NM];exact ao 0x211c0121002684500480009bfc48824083b97c6098105f2380088b260020c59c6660020c598116f7c [_,_,_] [] ih z
noncomputable def cX(o:Array UInt8):DS:=⟨5,4294967295,codeAt o 4⟩
theorem CA:∀m:Fin 4,(256:Int)^m.val<=16777216:=by decide
theorem nH(G:Good Z Kg)(hn:4<=n)(hs:o.size<=100000)(h5:5<=o.size)(h0:au o 0=0)(hc:codeAt o 4≠4294967295):ac Z n (.ref 1011) [.bytes o 0] J (λv J'=>∃r,v=.ref r/\J r=Mr/\Sub J J'/\uR J' r o (cX o)):=by
 refine bA G (lq hn rfl) eO λx hx=>?_;refine run G (yq hn rfl) ?_;lk;refine wY ?_;lk;lk;refine .bytes (c6 hs rfl) ?_;lk;refine jN (λa=>?_) (λh=>by lia);lk;refine jN (λa=>?_) (λh=>fb 0x108610000f5c08c25503311 [] [_] h5 h);lk;refine .bytes (c6 hs rfl) ?_;refine vW (λa=>?_) (λh=>CL 0x1080004ef714616 [] [_] h);lk;refine(kq (n:=n-1-1) (H:=J) (o:=o) (d:=⟨0,4294967295,0⟩) G (aS KZ [] [_,_,_] hn (Mf (af KJ [] [_] hn)) (Mf (ao KP [] [_,_] hn (Mf (af KJ [] [_] hn))))) (Wu hx _) hx ⟨aa _ _ _⟩ (c6 hs rfl) (by decide) (by dsimp only;exact af 0x4200013a81988dc090f [] [_] h5)).XS λJ1 S1 D1=>?_;dsimp only at D1 ⊢;rw[h0];refine aA (aH (λa=>?_) (λh=>absurd rfl h));lk;refine fj (λ(_ _ _:Unit)=>[(JM,.ref x)]) (λm a a a J'=>Sub J J'/\uR J' x o ⟨(1:Int)+m,4294967295,codeAt o m⟩) () () () (c:=4) (Ms _ _) ⟨S1,D1⟩ rfl ?_ ?_;·intro m _ _ _ J' Q' hm I0 hnext _;have S':=I0.1;have D':=I0.2;have Rr:=D'.1;have cr:=db o m;obtain z1:=db o m;have c1:=z1.1;have c2:=z1.2;have cp:=CA ⟨m,hm⟩;replace cp:(256:Int)^m<=16777216:=cp;dsimp only at Rr;lk;refine(kq (n:=n-1-1) (H:=J) (d:=⟨(1:Int)+m,4294967295,codeAt o m⟩) G (aS KZ [] [_,_,_] hn (Mf (af KJ [] [_] hn)) (Mf (ao KP [] [_,_] hn (Mf (af KJ [] [_] hn))))) S' hx D' (c6 hs rfl) (by dsimp only;exact Mt _) (by dsimp only;exact ao 0x843080007a082823540cc4ebde0469122 [] [_,_] h5 hm)).XS λJ2 S2 D2=>?_;dsimp only at D2 ⊢;have Rr:=D2.1;dsimp only at Rr;have z:=aJ o ((1:Int)+m);lk;rw[Dh,show Oc (codeAt o m*256) (au o ((1:Int)+m))=codeAt o m*256+au o ((1:Int)+m) from pM (k:=8) cr.1 z.1 (ao 0x211c21001e8009110cff88220417ca66090e [_,_] [] z Cs)];refine hnext () () () ⟨S2.upd hx _,⟨(aa _ _ _).trans ?_⟩⟩ rfl;·rw[show(1:Int)+((m+1:Nat):Int)=1+m+1 by lia];rfl
 ·intro _ _ _ J' r1;have S':=r1.1;have D':=r1.2;have Rr:=D'.1;dsimp only at Rr;lk;refine aH (λh=>absurd h hc) (λa=>?_);lk;exact⟨rfl,x,rfl,hx,S',D'⟩
variable{v:Ev}
section
open PySem
noncomputable def num(l:List UInt8):Int:=l.foldl (λa b=>a*256+(b.toNat:Int)) 0
theorem mR(l:List UInt8)(b:UInt8):num (l++[b])=num l*256+(b.toNat:Int):=by unfold num;rw[Ti];rfl
theorem CH{x:Int}(h0:0<=x)(h1:x<256):((u8 x).toNat:Int)=x:=by unfold u8;rw[Vj];have:x.toNat%2^8=x.toNat:=Nat.mod_eq_of_lt (by lia);rw[this];exact af 0x8420027080004f71507ee2a0f [_] [_] (MF h0)
theorem num_rep(l:List UInt8)(b:UInt8):∀n:Nat,num (l++M9 n b)*255=(num l*255+(b.toNat:Int))*256^n-(b.toNat:Int)
 |0=>by simp
 |n+1=>by rw[List.replicate_succ',<-NJ,mR,Ta,Nl,NY 256 255,<-Nl,num_rep l b n,NM,Int.sub_mul,Nl];lia
inductive Enc(e:ES)(k:Nat)(T:Int):Prop where
 |mk (ex:∃h:Nat,e.held=h+1/\e.made.length+h=k/\T=((num e.made*256+e.cache)*256^h+(256^h-1))*4294967296+e.low)
  (low0:0<=e.low)
  (low1:e.low+e.span<=8589934592)
  (c0:0<=e.cache)
  (c1:e.cache<256)
  (full:e.cache=255->e.low+e.span<=4294967296)
  (s0:0<e.span)
theorem jG:Enc ES.init 0 0:=⟨⟨0,rfl,rfl,by decide⟩,by decide,by decide,by decide,by decide,by decide,by decide⟩
theorem qk(h:Nat):(0:Int)<256^h:=NV (by decide)
theorem uj(x:Int):x=x/4294967296*4294967296+x/16777216%256*16777216+x%16777216:=by lia
theorem u9{made:List UInt8}{cache:Int}{h:Nat}(c0:0<=cache)(hc:cache+d<256)(q0:0<=d)(q1:d<=1):num (made++[u8 ((cache+d)%256)]++M9 h (u8 ((255+d)%256)))=(num made*256+cache)*256^h+(256^h-1)+d:=by
 have n2:=num_rep (made++[u8 ((cache+d)%256)]) (u8 ((255+d)%256)) h;have d0:0<=cache+d:=Us c0 q0;have d01:d=0∨d=1:=by lia
 rw[mR,Tn d0 hc,CH d0 hc] at n2;rw[Tn d0 hc];generalize num made*256=X at*;generalize(256:Int)^h=p at*;rcases d01 with rfl|rfl
 ·rw[show((u8 ((255+0)%256)).toNat:Int)=255 from by decide,Ta,Nl,NY 255 p,<-Nl] at n2;rw[PF] at*;generalize(X+cache)*p=Y at*;exact af 0x843fc27083f84ffc7f888b3fc489187d5ff1062a9b2222d911bee0a32 [_,_,_] [] n2
 ·rw[show((u8 ((255+1)%256)).toNat:Int)=0 from by decide,<-To,PF,Nl,NY 255 p,<-Nl,Ta (X+cache),Pz] at n2;generalize(X+cache)*p=Y at*;exact af 0x1087f84e107f09ff88c88d2935ff1062a9362222d911bee0a36 [_,_,_] [] n2
theorem Enc.WB{T:Int}(E:Enc e k T)(hs:e.span<16777216):Enc (ES.WB {e with span:=e.span*256}) (k+1) (T*256):=by
 obtain⟨⟨h,e1,e2,e3⟩,l0,l1,c0,c1,cf,s0⟩:=E;obtain⟨made,low,span,cache,held⟩:=e;dsimp only at*;have L:=uj low;have r0:=Nw low (show(16777216:Int)≠0 by decide);have r1:=Nj low (show(0:Int)<16777216 by decide);have k0:=Nw (low/16777216) (show(256:Int)≠0 by decide);have k1:=Nj (low/16777216) (show(0:Int)<256 by decide);unfold ES.WB ES.put;dsimp only;generalize low%16777216=r at*;generalize low/16777216%256=c at*;generalize low/4294967296=d at*;subst L;have d0:0<=d:=by lia
 have d1:d<=1:=by lia
 by_cases hl:d*4294967296+c*16777216+r<4278190080∨4294967296<=d*4294967296+c*16777216+r
 ·rw[if_pos hl];have hh:(held-1).toNat=h:=ao 0x108e10800f422840003d106dc543915c77050f54150f [_] [_,_] e1 (MF (af 0x218421001e8b8ae0a1c88340818 [_] [_] e1));rw[hh];have q0:cache=255->d<=0:=λz=>by have:=cf z;lia
  have hc:cache+d<256:=by
   rcases Int.lt_or_le cache 255 with q|q;·exact ao 0x421840003dfe20915891008c004c167123 [_,_] [] d1 q
   ·have:=q0 (Int.le_antisymm (Int.le_of_lt_add_one c1) q);exact ao 0x843080007a4401b001048b4004c167123 [_,_] [] c1 this
  have N:=u9 (made:=made) (h:=h) c0 hc d0 d1;refine⟨⟨0,rfl,?_,?_⟩,?_,?_,k0,k1,λz=>?_,?_⟩<;>dsimp only;·simp only[MI,NX,Nh];exact af 0x421001384000272a8267d1d890aea2099edc72d40 [] [_,_,_] e2
  ·rw[N,e3,Oa];generalize(num made*256+cache)*256^h=Y at*;generalize(256:Int)^h=p at*;lia
  ·exact af 0x20090000dc080b8008300820 [_] [] r0
  ·exact ao K0 [_,_] [] hs r1
  ·subst z;rcases hl with hl|hl<;>lia
  ·exact af 0x20090000dc090b8008300920 [_] [] s0
 ·rw[if_neg hl];have hla:4278190080<=d*4294967296+c*16777216+r:=Q7.mp λz=>hl (.inl z);have hlb:d*4294967296+c*16777216+r<4294967296:=Sq.mp λz=>hl (.inr z);have dz:d=0:=by lia
  have cz:c=255:=by lia
  subst dz cz;refine⟨⟨h+1,af 0x8420027080004e2e2b828722209f49c4167236 [_] [_] e1,af 0x2108009c200013954133e8ec48571423826e537 [] [_,_,_] e2,?_⟩,?_,?_,c0,c1,λz=>?_,?_⟩<;>dsimp only;·rw[e3,NM,<-Nl];generalize(num made*256+cache)*256^h=Y at*;generalize(256:Int)^h=p at*;lia
  ·exact af 0x20090000dc080b8008300820 [_] [] r0
  ·exact ao K0 [_,_] [] hs r1
  ·have:=cf z;lia
  ·exact af 0x20090000dc090b8008300920 [_] [] s0
theorem Enc.abb{k':Nat}{T T':Int}(E:Enc e k T)(E':Enc e k' T'):k=k'/\T=T':=by refine ae E.1 λh z3=>?_;refine ae E'.1 λh' z2=>?_;have:h=h':=ao 0x108e10000f422842003d15c77050f45c57050e54150f [_] [_,_] z3.1 z2.1;subst this;exact⟨ao 0x108e10000f422842003d5a90ad3a416a42b4e8f54150f [] [_,_,_,_] z3.2.1 z2.2.1,by rw[z3.2.2,z2.2.2]⟩
noncomputable def kP(s:CS):Ev->Int
 |.bit j i b=>if b=0 then 0 else s.1.span/2048*s.2 j i
 |.dir b=>if b=1 then s.1.span/2 else 0
noncomputable def jS(s:CS):Ev->Int
 |.bit j i b=>if b=0 then s.1.span/2048*s.2 j i else s.1.span-s.1.span/2048*s.2 j i
 |.dir _=>s.1.span/2
noncomputable def yZ:Ev->Prop
 |.bit _ _ b=>b=0∨b=1
 |.dir b=>b=0∨b=1
inductive Wide(e:ES):Prop where
 |mk (lo:16777216<=e.span)
  (hi:e.span<4294967296)
theorem yj{s m:Int}(h0:16777216<=s)(h1:31<=m/\m<=2017):65536<=s/2048*m/\65536<=s-s/2048*m:=by
 have q:8192<=s/2048:=by lia
 have a:=Nt h1.1 (show 0<=s/2048 from sR q rfl);have b:=Nt h1.2 (show 0<=s/2048 from sR q rfl);generalize s/2048*m=x at*;constructor<;>lia
theorem vL(W:Wide s.1)(M:oC s.2):0<=kP s v/\65536<=jS s v/\kP s v+jS s v<=s.1.span:=by
 have lo:=W.1;induction v with
 |bit j i b=>obtain z1:=yj lo (M j i);have b1:=z1.1;have b2:=z1.2;unfold kP jS;dsimp only;generalize s.1.span/2048*s.2 j i=x at*;split<;>refine⟨?_,?_,?_⟩<;>lia
 |dir b=>unfold kP jS;dsimp only;split<;>refine⟨?_,?_,?_⟩<;>lia
theorem Enc.pre{e':ES}{T t:Int}(E:Enc e k T)(h1:e'.made=e.made)(h2:e'.cache=e.cache)(h3:e'.held=e.held)(h4:e'.low=e.low+t)(h5:0<=t)(h6:t+e'.span<=e.span)(h7:0<e'.span):Enc e' k (T+t):=by obtain⟨⟨h,e1,e2,e3⟩,l0,l1,c0,c1,cf,s0⟩:=E;refine⟨⟨h,by rw[h3];exact e1,by rw[h1];exact e2,by rw[h1,h2,h4,e3];lia⟩,aS 0x108e11421002990203a20407c6447050e4080b [_,_,_] [] h4 h5 l0,aS 0x108e11420002980000000043115a810a19c8ad2043988ae0a1d8000000004c16703c [_,_,_,_,_] [] h4 h6 l1,by rw[h2];exact c0,by rw[h2];exact c1,λq=>?_,h7⟩;have:=cf (by rw[<-h2];exact q);lia
theorem jr{T:Int}(E:Enc s.1 k T)(W:Wide s.1)(M:oC s.2):Wide (dy s v).1/\oC (dy s v).2/\ ((jS s v<16777216/\Enc (dy s v).1 (k+1) ((T+kP s v)*256)/\(dy s v).1.span=jS s v*256)∨(16777216<=jS s v/\Enc (dy s v).1 k (T+kP s v)/\(dy s v).1.span=jS s v)):=by
 have q:=vL (v:=v) W M;have hi:=W.2;have body:∀e':ES,e'.made=s.1.made->e'.cache=s.1.cache->e'.held=s.1.held->e'.low=s.1.low+kP s v->e'.span=jS s v->
   Wide e'.fill/\((jS s v<16777216/\Enc e'.fill (k+1) ((T+kP s v)*256)/\e'.fill.span=jS s v*256)∨(16777216<=jS s v/\Enc e'.fill k (T+kP s v)/\e'.fill.span=jS s v)):=by
  intro e' h1 h2 h3 h4 h5
  have E':Enc e' k (T+kP s v):=E.pre h1 h2 h3 h4 q.1 (ao 0x847088007b3222128e60b3c660000141178105f5c8cc16701c [_,_,_,_] [] q h5) (ao 0x212421001e8c141f98c88d211800005045e4083bb14090b [_,_,_,_] [] q h5)
  unfold ES.fill
  split
  ·rename_i hs;have sp:(ES.WB {e' with span:=e'.span*256}).span=e'.span*256:=by unfold ES.WB ES.put;dsimp only;split<;>rfl
   refine⟨⟨by rw[sp];exact ao 0x2009240121002e8c141f98c88d211800005045e4083bb14004190000000e03b [_,_,_,_] [] q h5,by rw[sp];exact af 0x80240003700000010493400000000400418b143 [_] [] hs⟩,.inl ⟨ao 0x422842003d000000122129c8883a00000020926 [_,_] [] h5 hs,E'.WB hs,by rw[sp,h5]⟩⟩
  ·rename_i hs;exact⟨⟨Q7.mp hs,aS 0x109211c22840006918283e00000000322932cc6446908c00002822f2041dd8a000000002092e [_,_,_,_] [] q hi h5⟩,.inr ⟨ao 0x211420001e8000000910e2cc8883b0000000e026 [_,_] [] h5 hs,E',h5⟩⟩
 induction v with
 |bit j i b=>
  refine⟨?_,M.up j i (mj (M j i)),?_⟩;·refine(body (s.1.pre (s.2 j i) b) ?_ ?_ ?_ ?_ ?_).1<;>unfold ES.pre<;>(try unfold kP)<;>(try unfold jS)<;>(try dsimp only)<;>split<;>simp
  ·refine(body (s.1.pre (s.2 j i) b) ?_ ?_ ?_ ?_ ?_).2<;>unfold ES.pre<;>(try unfold kP)<;>(try unfold jS)<;>(try dsimp only)<;>split<;>simp
 |dir b=>
  refine⟨?_,M,?_⟩;·refine(body (s.1.WE b) ?_ ?_ ?_ ?_ ?_).1<;>unfold ES.WE<;>(try unfold kP)<;>(try unfold jS)<;>(try dsimp only)<;>split<;>simp
  ·refine(body (s.1.WE b) ?_ ?_ ?_ ?_ ?_).2<;>unfold ES.WE<;>(try unfold kP)<;>(try unfold jS)<;>(try dsimp only)<;>split<;>simp
end
section
open PySem
theorem kj{a:Int}(h:a<=b)(n:Nat):a*256^n<=b*256^n:=Px h (Nm (qk n))
theorem nest{Tf:Int}{N:Nat}:∀(l:List Ev)(s:CS)(k:Nat)(T:Int),Enc s.1 k T->Wide s.1->oC s.2->Enc (ah s l).1 N Tf-> ∃r:Nat,N=k+r/\T*256^r<=Tf/\Tf+(ah s l).1.span<=(T+s.1.span)*256^r/\Wide (ah s l).1/\oC (ah s l).2
 |[],s,k,T,E,W,M,F=>by obtain z7:=E.abb F;rw[<-z7.1];rw[<-z7.2];exact⟨0,rfl,by simp,by rw[Oa,RB];exact QM _,W,M⟩
 |v::l,s,k,T,E,W,M,F=>by
  obtain z6:=jr (v:=v) E W M;have H:=z6.2.2;have q:=vL (v:=v) W M;rw[aB] at F ⊢;rcases H with⟨h1,h2,h3⟩|⟨h1,h2,h3⟩
  ·refine ae (nest l _ _ _ h2 z6.1 z6.2.1 F) λr z5=>?_;refine⟨r+1,af 0x2108009c20001394508d17054aa242ba11c152a [] [_,_,_] z5.1,?_,?_,z5.2.2.2⟩;·rw[NM,NY (256^r) 256,<-Nl];exact OV (kj (af 0x40120001bcc6446908c00002822f2041dd8a00260b3a400418b042 [_,_,_,_] [] q) r) z5.2.1
   ·rw[NM,NY (256^r) 256,<-Nl];exact OV z5.2.2.1 (kj (by rw[h3];have:=q.2.2;lia) r)
  ·refine ae (nest l _ _ _ h2 z6.1 z6.2.1 F) λr z4=>?_;exact⟨r,z4.1,OV (kj (af 0x1080004f31911a42300000a08bc8107762982e0818 [_,_,_,_] [] q) r) z4.2.1,OV z4.2.2.1 (kj (by rw[h3];exact af 0x1088004f31911a42300000a08bc8107762cc171982ce6e034 [_,_,_,_] [] q) r),z4.2.2.2⟩
noncomputable def aV(o:Array UInt8)(j:Nat):Int:=num (o.toList.take j)
theorem bW(h:j<o.size):aV o (j+1)=aV o j*256+au o j:=by
 unfold aV;have hl:j<o.toList.length:=by rw[NC];exact h
 rw[List.take_succ_eq_append_getElem hl,mR];unfold au;rw[show((j:Int)).toNat=j from rfl];congr 3;simp[Array.getD,h]
theorem gi{o:Array UInt8}:∀(r j:Nat),j+r=o.size->aV o j*256^r<=aV o o.size/\aV o o.size<(aV o j+1)*256^r
 |0,j,h=>by obtain rfl:j=o.size:=h;rw[Oa];exact ck 0x806220b3a4138830e0c746 [_] []
 |r+1,j,h=>by obtain z3:=gi (o:=o) r (j+1) (af 0x2108009c20001394508e09b94aa55104cf6e52a [] [_,_,_] h);have h1:=z3.1;have h2:=z3.2;have b:=aJ o j;rw[bW (by exact af 0x432840003d51215c13769554140f [] [_,_,_] h)] at h1 h2;rw[NM,NY (256^r) 256,<-Nl,<-Nl];exact⟨OV (kj (af 0x8400027fe24412041dcbe60020c59c00418b042 [_,_] [] b) r) h1,PJ h2 (kj (af 0x2108009ff89104810772f800882ce913001062ce37805c [_,_] [] b) r)⟩
theorem dh{a:Int}(h:a*256^n<b*256^n):a<b:=Int.lt_of_mul_lt_mul_right h (Nm (qk n))
theorem zQ{sp c m:Int}(hb:b=0∨b=1)(k1:(if b=0 then 0 else sp/2048*m)<=c)(k2:c<(if b=0 then 0 else sp/2048*m)+(if b=0 then sp/2048*m else sp-sp/2048*m)):(⟨pl,sp,c⟩:DS).get m=b/\(⟨pl,sp,c⟩:DS).pre m=⟨pl,(if b=0 then sp/2048*m else sp-sp/2048*m),c-(if b=0 then 0 else sp/2048*m)⟩:=by
 unfold DS.get DS.pre;dsimp only;rcases hb with rfl|rfl
 ·have k2:c<0+sp/2048*m:=k2;rw[Sb] at k2;rw[if_neg (Sq.mpr k2),if_neg (Sq.mpr k2)];exact⟨rfl,by show _=(⟨pl,sp/2048*m,c-0⟩:DS);rw[Ud]⟩
 ·have k1:sp/2048*m<=c:=k1;rw[if_pos k1,if_pos k1];exact⟨rfl,rfl⟩
theorem At{sp c:Int}(hb:b=0∨b=1)(k1:(if b=1 then sp/2 else 0)<=c)(k2:c<(if b=1 then sp/2 else 0)+sp/2):(⟨pl,sp,c⟩:DS).YQ=b/\(⟨pl,sp,c⟩:DS).WE=⟨pl,sp/2,c-(if b=1 then sp/2 else 0)⟩:=by
 unfold DS.YQ DS.WE;dsimp only;rcases hb with rfl|rfl
 ·have k2:c<0+sp/2:=k2;rw[Sb] at k2;rw[if_neg (Sq.mpr k2),if_neg (Sq.mpr k2)];exact⟨rfl,by show _=(⟨pl,sp/2,c-0⟩:DS);rw[Ud]⟩
 ·have k1:sp/2<=c:=k1;rw[if_pos k1,if_pos k1];exact⟨rfl,rfl⟩
theorem follow{o:Array UInt8}{N:Nat}(hs:o.size=N+5):∀(l:List Ev)(s:CS)(k:Nat)(T:Int),Enc s.1 k T->Wide s.1->oC s.2->(∀v∈l,yZ v)->Enc (ah s l).1 N (aV o o.size)-> ay o (⟨5+k,s.1.span,aV o (5+k)-T⟩,s.2) l/\ ak o (⟨5+k,s.1.span,aV o (5+k)-T⟩,s.2) l=(⟨5+N,(ah s l).1.span,0⟩,(ah s l).2)
 |[],s,k,T,E,W,M,_,F=>by obtain z2:=E.abb F;obtain rfl:=z2.1;rw[z2.2];refine⟨trivial,?_⟩;rw[sY,dl,show 5+k=o.size from af 0x2100009c210013a209d0947aaa0668d1e [] [_,_] hs,Int.sub_self]
 |v::l,s,k,T,E,W,M,ok,F=>by
  obtain z1:=jr (v:=v) E W M;have H:=z1.2.2;have q:=vL (v:=v) W M;rw[aB] at F ⊢;rw[cJ];have key:kP s v<=aV o (5+k)-T/\aV o (5+k)-T<kP s v+jS s v/\(jS s v<16777216->k<N):=by
   rcases H with⟨h1,h2,h3⟩|⟨h1,h2,h3⟩;·refine Bt (nest l _ _ _ h2 z1.1 z1.2.1 F) λr r1 r2 r3 r4 a=>?_;have c:=gi (o:=o) (r+1) (5+k) (ao 0x108a10000f423842003d5104cf7a169551a15c85a4528a11d40cd175d39 [] [_,_,_,_] hs r1);have hsp:=r4.1;rw[NM,NY (256^r) 256,<-Nl,<-Nl] at c;rw[h3] at r3;have a1:=dh (Ou r2 c.2);have a2:=dh (Ou c.1 (PJ (b:=aV o o.size+(ah (dy s v) l).1.span) (af 0x840002730000000e029982e0918 [_,_] [] hsp) r3));refine⟨af 0x2107f89c004488d1900188acf921538c896081c [_,_,_] [] a1,af 0x2107f89c0064590011911a5277001062c5a73115cc1a712a [_,_,_,_] [] a2,λa=>af 0x432842003d288267ba129554140f [] [_,_,_] r1⟩
   ·refine Bt (nest l _ _ _ h2 z1.1 z1.2.1 F) λr r1 r2 r3 r4 a=>?_;have c:=gi (o:=o) r (5+k) (ao 0x422840003d08e10800f5413d0b4768d0ae42d2295540cd16f52c [] [_,_,_,_] hs r1);have hsp:=r4.1;rw[h3] at r3;have a1:=dh (Ou r2 c.2);have a2:=dh (Ou c.1 (PJ (b:=aV o o.size+(ah (dy s v) l).1.span) (af 0x840002730000000e029982e0918 [_,_] [] hsp) r3));exact⟨af 0x84000271223c45679298c896081c [_,_,_] [] a1,af 0x4200013cc644693824ab3115cc1a712a [_,_,_,_] [] a2,λz=>fb 0x210c20001e80000008249b0000000e026 [_] [] h1 z⟩
  have k1:=key.1;have k2:=key.2.1;have dec:gG o (⟨5+k,s.1.span,aV o (5+k)-T⟩,s.2) v=((⟨5+k,jS s v,aV o (5+k)-T-kP s v⟩:DS).fill o,(dy s v).2)/\Zq o (⟨5+k,s.1.span,aV o (5+k)-T⟩,s.2) v:=by
   have room:(⟨5+k,jS s v,aV o (5+k)-T-kP s v⟩:DS).room o:=λz=>by have:=key.2.2 z;show(5+k:Int)<o.size;exact ao 0x422842003d2828214485742521af7a066a124 [] [_,_,_] hs this
   have ok1:=ok v (.head _);induction v with
   |bit j i b=>
    have gp:(⟨5+k,s.1.span,aV o (5+k)-T⟩:DS).get (s.2 j i)=b/\(⟨5+k,s.1.span,aV o (5+k)-T⟩:DS).pre (s.2 j i)=⟨5+k,jS s (.bit j i b),aV o (5+k)-T-kP s (.bit j i b)⟩:=zQ ok1 k1 k2;refine⟨?_,gp.1,?_⟩;·show(((⟨5+k,s.1.span,aV o (5+k)-T⟩:DS).pre (s.2 j i)).fill o,vo s.2 j i (Xv (s.2 j i) b))=_;rw[gp.2];rfl
    ·show((⟨5+k,s.1.span,aV o (5+k)-T⟩:DS).pre (s.2 j i)).room o;rw[gp.2];exact room
   |dir b=>
    have gp:(⟨5+k,s.1.span,aV o (5+k)-T⟩:DS).YQ=b/\(⟨5+k,s.1.span,aV o (5+k)-T⟩:DS).WE=⟨5+k,jS s (.dir b),aV o (5+k)-T-kP s (.dir b)⟩:=At ok1 k1 k2;refine⟨?_,gp.1,?_,?_⟩;·show((⟨5+k,s.1.span,aV o (5+k)-T⟩:DS).WE.fill o,s.2)=_;rw[gp.2];rfl
    ·show((⟨5+k,s.1.span,aV o (5+k)-T⟩:DS).WE).room o;rw[gp.2];exact room
    ·show((⟨5+k,s.1.span,aV o (5+k)-T⟩:DS).WE).WG<((⟨5+k,s.1.span,aV o (5+k)-T⟩:DS).WE).span;rw[gp.2];dsimp only;exact af 0x4200013cc4573069c4ab319834eae12a [_,_,_,_] [] k2
  rw[dec.1];rcases H with⟨h1,h2,h3⟩|⟨h1,h2,h3⟩
  ·have e:(⟨5+k,jS s v,aV o (5+k)-T-kP s v⟩:DS).fill o=⟨5+(k+1:Nat),(dy s v).1.span,aV o (5+(k+1))-(T+kP s v)*256⟩:=by unfold DS.fill;rw[if_pos h1,h3,show 5+(k+1)=5+k+1 from rfl,bW (by have:=key.2.2 h1;exact ao 0x108a10800f4a0a0851215d09486aa0668c1e [] [_,_,_] hs this)];have c1:(5+(k:Int))+1=5+(k+1:Nat):=rfl;have c2:((5+k:Nat):Int)=5+k:=rfl;rw[c2];show(⟨5+(k:Int)+1,jS s v*256,(aV o (5+k)-T-kP s v)*256+au o (5+k)⟩:DS)=_;rw[c1];congr 1;generalize au o (5+(k:Int))=z;exact ck 0x2018008c88d2998008316725cc004660d3ab9317fa9c [_,_,_,_] []
   rw[e];have IH:=follow hs l _ _ _ h2 z1.1 z1.2.1 (λv hv=>ok v (.tail _ hv)) F;exact⟨⟨dec.2,by rw[dec.1,e];exact IH.1⟩,IH.2⟩
  ·have e:(⟨5+k,jS s v,aV o (5+k)-T-kP s v⟩:DS).fill o=⟨5+k,(dy s v).1.span,aV o (5+k)-(T+kP s v)⟩:=by unfold DS.fill;rw[if_neg (show ¬jS s v<16777216 from af 0x2100009e0000001c04d000000104e29 [_] [] h1),h3];congr 1;exact ck 0x4031911c1b19834eae241 [_,_,_] []
   rw[e];have IH:=follow hs l _ _ _ h2 z1.1 z1.2.1 (λv hv=>ok v (.tail _ hv)) F;exact⟨⟨dec.2,by rw[dec.1,e];exact IH.1⟩,IH.2⟩
end
section
open PySem
noncomputable def Ye(e:ES):ES:={e with span:=1}
theorem Enc.Ye{T:Int}(E:Enc e k T):Enc (Ye e) k T:=by
 obtain⟨⟨h,e1,e2,e3⟩,l0,l1,c0,c1,cf,s0⟩:=E;refine⟨⟨h,e1,e2,e3⟩,l0,?_,c0,c1,λq=>?_,?_⟩;·show e.low+1<=_;exact ao 0x843080007a4090e8000000004c16703c8000000004416703c [_,_] [] l1 s0
 ·have:=cf q;show e.low+1<=_;exact ao 0x210c20001e800000000982ce077204874000000004416703b [_,_] [] s0 this
 ·show(0:Int)<1;decide
theorem Enc.sh{T:Int}(E:Enc (Internal.Ye e) k T):Enc (Internal.Ye e.WB) (k+1) (T*256):=by
 have:=(E.WB (by show(1:Int)<_;decide)).Ye;have e1:Internal.Ye (ES.WB {Internal.Ye e with span:=(Internal.Ye e).span*256})=Internal.Ye e.WB:=by unfold Internal.Ye ES.WB ES.put;dsimp only;split<;>rfl
 rw[e1] at this;exact this
theorem gW(e:ES):e.WB.low=e.low%16777216*256:=by unfold ES.WB ES.put;split<;>rfl
theorem s3(h:e.low=0):e.WB.held=1/\e.WB.cache=0/\e.WB.low=0:=by unfold ES.WB ES.put;rw[if_pos (by lia)];dsimp only;rw[h];exact⟨by decide,by decide,by decide⟩
theorem qd{T:Int}(E:Enc e k T):e.WX.made.length=k+5/\num e.WX.made=T:=by
 have E5:=E.Ye.sh.sh.sh.sh.sh;have l0:=E.2;have h1:=gW e;have h2:=gW e.WB;have h3:=gW e.WB.WB;have h4:=gW e.WB.WB.WB;have z:e.WB.WB.WB.WB.low=0:=by lia
 obtain z7:=s3 z;have z1:=z7.1;have z2:=z7.2.1;have z3:=z7.2.2;refine ae E5.1 λh z6=>?_;have q1:=z6.1;have q2:=z6.2.1;have q3:=z6.2.2;have q1:e.WX.held=h+1:=q1;have q2:e.WX.made.length+h=k+1+1+1+1+1:=q2;have q3:T*256*256*256*256*256=((num e.WX.made*256+e.WX.cache)*256^h+(256^h-1))*4294967296+e.WX.low:=q3;have z1:e.WX.held=1:=z1;have z2:e.WX.cache=0:=z2;have z3:e.WX.low=0:=z3;obtain rfl:h=0:=ao 0x108e10000f422842003d1050745c57050e4150b [_] [_] q1 z1;rw[z2,z3,Oa] at q3;exact⟨q2,by lia⟩
theorem tH:∀(l:List Ev)(s:CS)(k:Nat)(T:Int),Enc s.1 k T->Wide s.1->oC s.2->bM λN Tf=>Enc (ah s l).1 N Tf
 |[],s,k,T,E,_,_=>⟨k,T,E⟩
 |v::l,s,k,T,E,W,M=>by obtain z5:=jr (v:=v) E W M;have H:=z5.2.2;rw[aB];rcases H with⟨_,h2,_⟩|⟨_,h2,_⟩<;>exact tH l _ _ _ h2 z5.1 z5.2.1
theorem kA(h5:5<=o.size)(h0:au o 0=0):codeAt o 4=aV o 5:=by have p1:aV o 1=aV o 0*256+au o 0:=bW (jR h5 rfl);have p2:=bW (o:=o) (j:=1) (jR h5 rfl);have p3:=bW (o:=o) (j:=2) (jR h5 rfl);have p4:=bW (o:=o) (j:=3) (Nq h5);have p5:=bW (o:=o) (j:=4) h5;have p0:aV o 0=0:=rfl;have c:codeAt o 4=(((0*256+au o ((1:Int)+(0:Nat)))*256+au o ((1:Int)+(1:Nat)))*256+au o ((1:Int)+(2:Nat)))*256+au o ((1:Int)+(3:Nat)):=rfl;have a1:(1:Int)+(0:Nat)=(1:Nat):=rfl;have a2:(1:Int)+(1:Nat)=(2:Nat):=rfl;have a3:(1:Int)+(2:Nat)=(3:Nat):=rfl;have a4:(1:Int)+(3:Nat)=(4:Nat):=rfl;rw[a1,a2,a3,a4] at c;rw[p5,p4,p3,p2,p1,h0,p0,c];rfl
theorem sX(M:oC C){l:List Ev}(ok:∀v∈l,yZ v)(ho:o=(ah (ES.init,C) l).1.WX.made.toArray):5<=o.size/\au o 0=0/\codeAt o 4<4294967295/\ay o (cX o,C) l/\(ak o (cX o,C) l).1.WG=0/\(ak o (cX o,C) l).1.place=o.size/\(ak o (cX o,C) l).2=(ah (ES.init,C) l).2:=by
 have W:Wide ES.init:=⟨by decide,by decide⟩;refine bI (tH l (ES.init,C) 0 0 jG W M) λN Tf F=>?_;obtain z4:=qd F;have hs:o.size=N+5:=by rw[ho,Oj,z4.1]
 have hp:aV o o.size=Tf:=by unfold aV;rw[<-z4.2,ho];congr 1;exact PM (by simp)
 rw[<-hp] at F;refine Bt (nest l (ES.init,C) 0 0 jG W M F) λr r1 r2 r3 r4 a=>?_;have hN:r=N:=af 0x2100009c21001380ba128cd4150f [] [_,_] r1;subst hN;have r3:aV o o.size+(ah (ES.init,C) l).1.span<=(0+4294967295)*256^r:=r3;have sp:=r4.1;have c1:=gi (o:=o) (r+4) 1 (af 0x420001384200274413a128f54104e046f52b [] [_,_] hs);have c5:=gi (o:=o) r 5 (af 0x2100009c210013a209d0947aaa0668d1e [] [_,_] hs);have b:=aJ o 0;have p1:aV o 1=aV o 0*256+au o 0:=bW (af 0x863084007a8a11c151e80c0c [] [_,_] hs);have p0:aV o 0=0:=rfl;have h0:au o 0=0:=by
  have:aV o 1*4294967296<4294967295:=by
   refine dh (n:=r) (Ou (b:=aV o o.size) ?_ ?_)
   ·rw[Nl];have:(4294967296:Int)*256^r=256^(r+4):=by rw[Tj,NY];rfl
    rw[this];exact c1.1
   ·have:(0+4294967295:Int)=4294967295:=rfl;rw[this] at r3;exact ao K5 [_,_,_] [] r3 sp
  have:=b.1;lia
 have h5:5<=o.size:=af 0x10c610800f5142382a3d503311 [] [_,_] hs;have hc:aV o 5<4294967295:=dh (n:=r) (Ou c5.1 (by have:(0+4294967295:Int)=4294967295:=rfl;rw[this] at r3;exact ao K5 [_,_,_] [] r3 sp));have fo:=follow (o:=o) hs l (ES.init,C) 0 0 jG W M ok F;have e:(⟨5+(0:Nat),ES.init.span,aV o (5+0)-0⟩:DS)=cX o:=by unfold cX;rw[kA h5 h0,Ud];rfl
 rw[e] at fo;refine⟨h5,h0,by rw[kA h5 h0];exact hc,fo.1,by rw[fo.2],by rw[fo.2,hs];show(5:Int)+(r:Nat)=((r+5:Nat):Int);exact ck 0x4034413f7a066a231 [] [_],by rw[fo.2]⟩
end
theorem DD{st:List Me}{k A:T}(q:X Z n Q (.bk st k::K) J E [] A):X Z n Q K J E st (.blk A k):=q
section
variable{d:DS}
theorem ww(G:Good Z Kg)(hn:0<n)(D:uR J r o d)(h:d.WG=0):ac Z n (.ref 973) [.ref r] J (λv J'=>v=.bool Mj/\J=J'):=by have Rr:=D.1;refine run G hn ?_;lk;rw[h];refine iB (r:=Mj) .int rfl ?_;lk;exact⟨rfl,rfl⟩
theorem zN(G:Good Z Kg)(hn:0<n)(D:uR J r o d):ac Z n (.ref 966) [.ref r] J (λv J'=>v=.int (o.size-d.place) 0/\J=J'):=by have Rr:=D.1;refine run G hn ?_;lk;exact⟨rfl,rfl⟩
end
inductive PR(H J:Sg)(A:Rows)(B:MA)(r:Ml)(o:Array UInt8)(y wi rb rp q:Ml)(tx:Array UInt8)(x:RT)(l:List UInt8)(v:LS):Prop where
 |mk(R:RS H J A r o x)
  (yo:J y=Md (.Wv 576 [(Jt,.ref B.m),(Jy,.ref wi),(Ju,.none),(Jv,.int v.pl 0),(Jx,.int v.st 0),(Jw,.ref rp),(Js,.bool Mh)]))
  (hy:H y=Mr)
  (W:vy J wi rb l)
  (hw:H wi=Mr)
  (hb:H rb=Mr)
  (P:eW J rp q v.back)
  (hr:H rp=Mr)
  (off:∀j,j<18->A.ra j≠q/\A.da j≠q)
  (st0:0<=v.st)
  (st1:v.st<=11)
  (pl:v.pl=l.length)
  (tk:l=tx.toList.take l.length)
  (fit:l.length<=tx.size)
  (small:tx.size<=254)
noncomputable def qJ(y wi rb rp q:Ml):Ml->Prop:=λa=>a=y∨a=wi∨a=rb∨a=rp∨a=q
variable{v:LS}{wi:Ml}{tx:Array UInt8}
theorem RS.held(R:RS H J A r o x)(hw:¬P r)(hP:∀j,j<18->¬P (A.ra j)/\¬P (A.da j)):RS (aU H J P) J A r o x:=
 ⟨R.1.WU P,R.2,R.3,ai hw R.4,λj hj=>⟨ai (hP j hj).1 (R.5 j hj).1,ai (hP j hj).2 (R.5 j hj).2⟩,R.6,R.7,R.8,R.9⟩
theorem RS.Zl{x':RT}(R:RS H J A r o x)(R':RS (aU H J P) J' A r o x'):RS H J' A r o x':=
 ⟨R.1.Xk R'.1,R'.2,R'.3,R.4,R.5,R'.6,R'.7,R'.8,R'.9⟩
theorem RS.ch(R:RS H J A r o x)(S:Sub H J')(keep:∀a c,(a=r∨∃j,j<18/\(a=A.ra j∨a=A.da j))->J a=Md c->J' a=Md c):RS H J' A r o x:=
 ⟨S,λj hj=>(R.2 j hj).keep λa c h e=>keep a c (.inr ⟨j,hj,h⟩) e,⟨keep _ _ (.inl rfl) R.3.1⟩,R.4,R.5,R.6,R.7,R.8,R.9⟩
theorem RS.neI(R:RS H J A r o x){C:Nat}(h:J a=Md (.Wv C fs))(h1:C≠159)(h2:C≠1011):r≠a/\∀j,j<18->A.ra j≠a/\A.da j≠a:=
 ⟨λz=>by have:=R.3.1;rw[z,h] at this;cases this;exact h2 rfl,λj hj=>(R.2 j hj).neI h h1⟩
theorem PR.hyp(L:PR H J A B r o y wi rb rp q tx x l v):¬qJ y wi rb rp q r/\∀j,j<18->¬qJ y wi rb rp q (A.ra j)/\¬qJ y wi rb rp q (A.da j):=by
 have a1:=L.1.neI L.2 (by decide) (by decide);have a2:=L.1.neI L.4.1 (by decide) (by decide);have a3:r≠rb:=mn L.1.3.1 L.4.2 rfl;have a4:=L.1.neI L.7.1 (by decide) (by decide);have a5:r≠q:=mn L.1.3.1 L.7.2 rfl;refine⟨?_,λj hj=>⟨?_,?_⟩⟩;·rintro(z|z|z|z|z);exact a1.1 z;exact a2.1 z;exact a3 z;exact a4.1 z;exact a5 z
 ·have b:=(L.1.2 j hj).neB L.4.2;rintro(z|z|z|z|z);exact(a1.2 j hj).1 z;exact(a2.2 j hj).1 z;exact b.1 z;exact(a4.2 j hj).1 z;exact(L.9 j hj).1 z
 ·have b:=(L.1.2 j hj).neB L.4.2;rintro(z|z|z|z|z);exact(a1.2 j hj).2 z;exact(a2.2 j hj).2 z;exact b.2 z;exact(a4.2 j hj).2 z;exact(L.9 j hj).2 z
theorem PR.RH(L:PR H J A B r o y wi rb rp q tx x l v):RS (aU H J (qJ y wi rb rp q)) J A r o x:=L.1.held L.hyp.1 L.hyp.2
theorem PR.next(L:PR H J A B r o y wi rb rp q tx x l v){x':RT}(R':RS (aU H J (qJ y wi rb rp q)) J' A r o x'):PR H J' A B r o y wi rb rp q tx x' l v:=
 ⟨L.1.Zl R',R'.1.at (.inl rfl) L.2,L.3,⟨R'.1.at (.inr (.inl rfl)) L.4.1,R'.1.at (.inr (.inr (.inl rfl))) L.4.2⟩,L.5,L.6,
  ⟨R'.1.at (.inr (.inr (.inr (.inl rfl)))) L.7.1,R'.1.at (.inr (.inr (.inr (.inr rfl)))) L.7.2,L.7.3⟩,L.8,L.9,L.10,L.11,L.12,L.13,L.14,L.15⟩
theorem PR.sup(L:PR H J A B r o y wi rb rp q tx x l v)(S:Sub J J'):PR H J' A B r o y wi rb rp q tx x l v:=
 ⟨L.1.sup S,S _ _ L.2,L.3,⟨S _ _ L.4.1,S _ _ L.4.2⟩,L.5,L.6,⟨S _ _ L.7.1,S _ _ L.7.2,L.7.3⟩,L.8,L.9,L.10,L.11,L.12,L.13,L.14,L.15⟩
theorem PR.set(L:PR H J A B r o y wi rb rp q tx x l v){st:Int}(h0:0<=st)(h1:st<=11)(e:J'=Internal.upd J y (.Wv 576 [(Jt,.ref B.m),(Jy,.ref wi),(Ju,.none),(Jv,.int v.pl 0),(Jx,.int st 0),(Jw,.ref rp),(Js,.bool Mh)])):PR H J' A B r o y wi rb rp q tx x l ⟨v.pl,st,v.back⟩:=by
 have a1:=L.1.neI L.2 (by decide) (by decide);have ne:∀{a c},J a=Md c->(∀C fs,c=.Wv C fs->C≠576)->a≠y:=λ{a c} h hc z=>by rw[z,L.2] at h;exact hc _ _ (MJ h).symm rfl
 have k:∀{a c},J a=Md c->(∀C fs,c=.Wv C fs->C≠576)->J' a=Md c:=λh hc=>by rw[e];exact(ag _ _ (ne h hc)).trans h
 refine⟨L.1.ch (by rw[e];exact L.1.1.upd L.3 _) ?_,by rw[e];exact aa _ _ _,L.3,⟨k L.4.1 (by rintro _ _ ⟨⟩;decide),k L.4.2 nofun⟩,L.5,L.6,⟨k L.7.1 (by rintro _ _ ⟨⟩;decide),k L.7.2 nofun,L.7.3⟩,L.8,L.9,h0,h1,L.12,L.13,L.14,L.15⟩;rintro a c (rfl|⟨j,hj,rfl|rfl⟩) h;·rw[e];exact(ag _ _ a1.1).trans h
 ·rw[e];exact(ag _ _ (a1.2 j hj).1).trans h
 ·rw[e];exact(ag _ _ (a1.2 j hj).2).trans h
theorem PR.oct(L:PR H J A B r o y wi rb rp q tx x l v){d:Nat}(d0:1<=d)(d1:d<=l.length):((l.getD (l.length-d) 0).toNat:Int)=au tx (v.pl-d):=by
 have hf:=L.14;have e:=L.13;rw[L.12];unfold au;rw[show((l.length:Int)-(d:Int)).toNat=l.length-d from aS K4 [] [_,_,_,_] (Ni _) (MF (af Mo [] [_,_] d1)) (Mf d1)];have h1:l[l.length-d]?=tx[l.length-d]?:=by rw[e,QL,<-e,if_pos (by exact ao K1 [] [_,_,_] d0 (Mf d1))];simp
 rw[Mx,h1,P8]
theorem cB(G:Good Z Kg)(hn:3<=n)(L:PR H J A B r o y wi rb rp q tx x l v)(d1:d<=v.pl):ac Z n (.ref 503) [.ref y,.int d 0] J (λu J'=>u=.none/\J=J'):=by have h1:=L.2;have h2:=L.4.1;have hs:=L.15;have hf:=L.14;have hp:=L.12;refine run G (lq hn rfl) ?_;lk;refine sg (C:=905) (f:=852) ?_ h2 rfl;refine((pF (n:=n-1) G (lp hn rfl) L.4 (ao Lm [] [_,_] hs hf))).k01 ?_;refine⟨rfl,?_⟩;refine nv (λh=>Cz 0x847086100014ee290fbc8884a6080e [_,_] [_] d1 hp h) (λa=>?_);lk;exact⟨rfl,rfl⟩
theorem qF(G:Good Z Kg)(hn:0<n)(L:PR H J A B r o y wi rb rp q tx x l v):ac Z n (.ref 510) [.ref y,.int d 0] J (λu J'=>u=.none/\J=J'):=by have h1:=L.2;refine run G (lq hn rfl) ?_;lk;lk;exact⟨rfl,rfl⟩
theorem wR(G:Good Z Kg)(hn:3<=n)(L:PR H J A B r o y wi rb rp q tx x l v)(d0:1<=d)(d1:d<=v.pl):ac Z n (.ref 881) [.ref wi,.int d 0] J (λu J'=>u=.int (au tx (v.pl-d)) 0/\J=J'):=by have hs:=L.15;have hf:=L.14;have hp:=L.12;refine ae (MX (show 0<=d from sR d0 rfl)) λm z1=>?_;obtain rfl:=z1;refine((AR (n:=n) G hn L.4 (ao Lm [] [_,_] hs hf) (d:=m) (xT d0) (ao 0x108a10000f6e280faf0508d4130f [_] [_,_] hp d1))).k01 ?_;exact⟨by rw[L.oct (xT d0) (ao 0x108a10000f6e280faf0508d4130f [_] [_,_] hp d1)],rfl⟩
section
variable{st:List Me}{k e:T}
end
noncomputable def g8(B:MA)(tx:Array UInt8)(v:LS)(c:Int):List Ev:=
 if v.st<7 then az 9 (B.lit v.pl (if 0<v.pl then au tx (v.pl-1) else 0)) 8 1 c else bY (B.lit v.pl (if 0<v.pl then au tx (v.pl-1) else 0)) 8 1 c (au tx (v.pl-v.back.getD 0 0))
theorem kU(G:Good Z Kg)(hn:8<=n)(L:PR H J A B r o y wi rb rp q tx x l v)(M:aj H A B){c:Int}(c0:0<=c)(c1:c<256)(dd:¬v.st<7->1<=v.back.getD 0 0/\v.back.getD 0 0<=v.pl)(F:ay o x (g8 B tx v c)):ac Z n (.ref 517) [.ref y,.ref r] J (λu J'=>∃t,u=.ref t/\J' t=Md (.tup [.str "lit" 0,.int c 0])/\PR H J' A B r o y wi rb rp q tx (ak o x (g8 B tx v c)) l ⟨v.pl,gQ v.st,v.back⟩):=by
 have h1:=L.2;have h2:=L.4.1;have hs:=L.15;have hf:=L.14;have hp:=L.12;have Mm:=L.1.1 _ _ M.1;refine run G (lq hn rfl) ?_;lk;refine DF (λu ρ' J'=>u=.int (if 0<v.pl then au tx (v.pl-1) else 0) 0/\ρ'=[(JM,.ref y),(JW,.ref r)]/\J'=J) ?_ ?_
 ·intro Q' hQ;lk;refine nv (λh=>?_) (λh=>?_);·rw[if_pos h] at hQ;lk;refine sg (C:=905) (f:=852) ?_ h2 rfl;refine((pF (n:=n-1) G (lp hn rfl) L.4 (ao Lm [] [_,_] hs hf))).k01 ?_;refine⟨rfl,?_⟩;refine aA (nv (λa=>?_) (λh=>by lia));lk;refine((wR (n:=n-1) G (lp hn rfl) L (by decide) h)).k01 ?_;lk;exact hQ ⟨_,⟨rfl,rfl,rfl⟩,rfl⟩
  ·rw[if_neg h] at hQ;lk;exact hQ ⟨_,⟨rfl,rfl,rfl⟩,rfl⟩
 ·intro _ _ _ r1;rw[r1.1];rw[r1.2.1];rw[r1.2.2];unfold g8 at F ⊢;generalize hbf:(if 0<v.pl then au tx (v.pl-1) else 0)=before at*;have hb:0<=before/\before<=255:=by have z:=aJ tx (v.pl-1);have z1:=z.1;have z2:=z.2;rw[<-hbf];split<;>constructor<;>lia
  obtain z3:=oG M (place:=v.pl) (af KN [_] [_] hp) hb.1 hb.2;have l0:=z3.1;have l1:=z3.2;lk;refine((eT (n:=n-1) G (lp hn rfl) L.1.1 M (af KN [_] [_] hp) hb.1)).k01 ?_;refine eG (kD (xI (λρ' J'=>ρ'=[(JM,.ref y),(IC,.int c 0)]/\PR H J' A B r o y wi rb rp q tx (ak o x (if v.st<7 then az 9 (B.lit v.pl before) 8 1 c else bY (B.lit v.pl before) 8 1 c (au tx (v.pl-v.back.getD 0 0)))) l v) ?_ ?_))
  ·intro Q' hQ _ _ _;lk;refine((gx (n:=n-1) G (lp hn rfl))).k01 ?_;refine x9 (λh=>?_) (λh=>?_);·have h:=of_decide_eq_true h;rw[if_pos h] at F hQ;lk;refine(kT (n:=n-1) G (lp hn rfl) L.RH l0 (af 0x84000277c00416b825bc00416b024 [_] [_] l1) c0 c1 F).Ws λJ2 R2=>?_;lk;exact hQ ⟨_,⟨rfl,L.next R2⟩,rfl⟩
   ·have h:=of_decide_eq_false h;rw[if_neg h] at F hQ;have P1:=L.7.1;have dd:=dd h;lk;refine((bp (n:=n-1) G (lp hn rfl) L.7)).k01 ?_;lk;refine((cB (n:=n-1) G (lp hn rfl) L dd.2)).k01 ?_;lk;refine((bp (n:=n-1) G (lp hn rfl) L.7)).k01 ?_;lk;refine((wR (n:=n-1) G (lp hn rfl) L dd.1 dd.2)).k01 ?_;have z:=aJ tx (v.pl-v.back.getD 0 0);lk;refine(kY (n:=n-1) G (lp hn rfl) L.RH l0 l1 c0 c1 z.1 (af K9 [_] [] z) F).Ws λJ2 R2=>?_;lk;exact hQ ⟨_,⟨rfl,L.next R2⟩,rfl⟩
  ·intro ρ' J' r2;rw[r2.1];have L2:=r2.2;clear h1 h2 Mm;have h1:=L2.2;lk;refine((e9 (n:=n-1) G (lp hn rfl))).k01 ?_;have z:=jI L2.10 L2.11;lk;intro t ht;lk;exact⟨t,rfl,aa _ _ _,(L2.set z.1 z.2 rfl).sup (Wu ht _)⟩
theorem PR.Zm(L:PR H J A B r o y wi rb rp q tx x l v){q':Ml}{b:List Int}(hq:J q'=Mr)(R:eW J' rp q' b)(keep:∀a c,a≠rp->J a=Md c->J' a=Md c):PR H J' A B r o y wi rb rp q' tx x l ⟨v.pl,v.st,b⟩:=by
 have a4:=L.1.neI L.7.1 (by decide) (by decide);have ne:∀{a c},J a=Md c->(∀C fs,c=.Wv C fs->C≠407)->a≠rp:=λ{a c} h hc z=>by rw[z,L.7.1] at h;exact hc _ _ (MJ h).symm rfl
 refine⟨L.1.ch (λa c e=>keep a c (yx e L.8) (L.1.1 a c e)) ?_,keep _ _ (ne L.2 (by rintro _ _ ⟨⟩;decide)) L.2,L.3,⟨keep _ _ (ne L.4.1 (by rintro _ _ ⟨⟩;decide)) L.4.1,keep _ _ (ne L.4.2 nofun) L.4.2⟩,L.5,L.6,R,L.8,
  λj hj=>⟨λz=>(bO (L.1.2 j hj)).1 (by rw[z];exact hq),λz=>(bO (L.1.2 j hj)).2 (by rw[z];exact hq)⟩,L.10,L.11,L.12,L.13,L.14,L.15⟩
 rintro a c (rfl|⟨j,hj,rfl|rfl⟩) h;·exact keep _ _ a4.1 h
 ·exact keep _ _ (a4.2 j hj).1 h
 ·exact keep _ _ (a4.2 j hj).2 h
theorem j6(M:aj H A B)(p:Int):0<=p%2^B.pb/\p%2^B.pb<2^B.pb:=by have z:=dg (m:=B.pb) M.7;exact⟨Nw _ (λzz=>fb K8 [_] [] zz z),Nj _ z.1⟩
theorem nG(G:Good Z Kg)(hn:8<=n)(L:PR H J A B r o y wi rb rp q tx x l v)(M:aj H A B){len:Int}(d0:1<=d)(d1:d<=v.pl)(l0:2<=len)(l1:len<=273)(F:ay o x (cq 10 (8*(v.pl%2^B.pb)) len++bS d len)):ac Z n (.ref 524) [.ref y,.ref r] J (λu J'=>bM λt q'=>u=.ref t/\J' t=Md (.tup [.str "match" 0,.int d 0,.int len 0])/\PR H J' A B r o y wi rb rp q' tx (ak o x (cq 10 (8*(v.pl%2^B.pb)) len++bS d len)) l ⟨v.pl,bE v.st,d::v.back.take 3⟩):=by have h1:=L.2;have hs:=L.15;have hf:=L.14;have hp:=L.12;have Mm:=L.1.1 _ _ M.1;obtain z5:=j6 M v.pl;obtain z4:=aY.mp F;rw[bx];refine run G (lq hn rfl) ?_;have Mp:=L.1.1 _ _ M.2;lk;refine((cG (n:=n-1) G (lp hn rfl) L.1.1 M (ao 0x843080007b2200e981008c080b [_,_] [] d0 d1))).k01 ?_;lk;refine(dm (n:=n-1) G (lp hn rfl) L.RH M.7 ((M.Wr (L.1.1.Xy _)).aaI) z5.1 z5.2 l0 l1 z4.1).Ws λJ2 R2=>?_;have L2:=L.next R2;clear h1 Mm Mp;have h1:=L2.2;have Mm:=L2.1.1 _ _ M.1;lk;refine(eS (n:=n-1) G (lp hn rfl) L2.RH (M.Wr (L2.1.1.Xy _)) d0 (DA 0x42684708a10c20003f80000000091118d788a856a1187ff08262d18203e6080e [_,_,_] [_,_] d1 hs hf hp xy) l0 z4.2).Ws λJ3 R3=>?_;have L3:=L2.next R3;clear h1 Mm;have h1:=L3.2;lk;refine((ca (n:=n-1) G (lp hn rfl))).k01 ?_;have z:=(bZ (x:=v.st)).1;lk;refine aH (λh=>by lia) (λa=>?_);have L4:=L3.set z.1 z.2 rfl;clear h1;have h1:=L4.2;have h2:=L4.7.1;lk;refine((cB (n:=n-1) G (lp hn rfl) L4 d1)).k01 ?_;lk;refine(mW (n:=n-1) G (lp hn rfl) L4.1.1 L4.7 L4.8).Ws λJ5 r1=>?_;refine ae r1.2 λq' z3=>?_;have L5:=L4.Zm z3.1 z3.2.1 z3.2.2;lk;intro t ht;lk;exact⟨t,q',rfl,aa _ _ _,L5.sup (Wu ht _)⟩
theorem rF(G:Good Z Kg)(hn:8<=n)(L:PR H J A B r o y wi rb rp q tx x l v)(M:aj H A B)(F:ay o x (cq 10 (8*(v.pl%2^B.pb)) 2++bS (2^32) 2)):ac Z n (.ref 524) [.ref y,.ref r] J (λu J'=>∃t,u=.ref t/\J' t=Md (.tup [.str "end" 0])/\PR H J' A B r o y wi rb rp q tx (ak o x (cq 10 (8*(v.pl%2^B.pb)) 2++bS (2^32) 2)) l ⟨v.pl,bE v.st,v.back⟩):=by have h1:=L.2;have hs:=L.15;have hf:=L.14;have hp:=L.12;have Mm:=L.1.1 _ _ M.1;obtain z2:=j6 M v.pl;obtain z1:=aY.mp F;rw[bx];refine run G (lq hn rfl) ?_;have Mp:=L.1.1 _ _ M.2;lk;refine((cG (n:=n-1) G (lp hn rfl) L.1.1 M (af KN [_] [_] hp))).k01 ?_;lk;refine(dm (n:=n-1) G (lp hn rfl) L.RH M.7 ((M.Wr (L.1.1.Xy _)).aaI) z2.1 z2.2 (by decide) (by decide) z1.1).Ws λJ2 R2=>?_;have L2:=L.next R2;clear h1 Mm Mp;have h1:=L2.2;have Mm:=L2.1.1 _ _ M.1;lk;refine(eS (n:=n-1) G (lp hn rfl) L2.RH (M.Wr (L2.1.1.Xy _)) (by decide) (by decide) (by decide) z1.2).Ws λJ3 R3=>?_;have L3:=L2.next R3;clear h1 Mm;have h1:=L3.2;lk;refine((ca (n:=n-1) G (lp hn rfl))).k01 ?_;have z:=(bZ (x:=v.st)).1;lk;refine aH (λa=>?_) (λh=>absurd rfl h);have L4:=L3.set z.1 z.2 rfl;lk;intro t ht;lk;exact⟨t,rfl,aa _ _ _,L4.sup (Wu ht _)⟩
noncomputable def ez(v:LS)(i:Nat):List Ev:=if i=1 then[.bit 3 v.st 0] else[.bit 3 v.st 1,.bit 4 v.st (i-2)]
theorem pJ(G:Good Z Kg)(hn:5<=n)(L:PR H J A B r o y wi rb rp q tx x l v)(M:aj H A B)(i0:1<=i)(i1:i<=3)(F:ay o x (ez v i)):ac Z n (.ref 531) [.ref y,.ref r] J (λu J'=>u=.int i 0/\PR H J' A B r o y wi rb rp q tx (ak o x (ez v i)) l v):=by
 have h1:=L.2;have Rr:=L.1.3.1;have Mm:=L.1.1 _ _ M.1;have s1:=L.11;refine run G (lq hn rfl) ?_;unfold ez at F ⊢;lk;by_cases hi:i=1;·subst hi;rw[if_pos rfl] at F ⊢;refine(br (n:=n-1) G (lp hn rfl) L.RH (Ms _ _) L.10 (by rw[M.n3];exact ill s1 rfl) F.1).Ws λJ2 R2=>?_;lk;refine aH (λa=>?_) (λh=>absurd rfl h);lk;exact⟨rfl,L.next R2⟩
 ·rw[if_neg hi] at F ⊢;refine(br (n:=n-1) G (lp hn rfl) L.RH (Ms _ _) L.10 (by rw[M.n3];exact ill s1 rfl) F.1).Ws λJ2 R2=>?_;have L2:=L.next R2;clear h1 Rr Mm;have h1:=L2.2;have Rr:=L2.1.3.1;have Mm:=L2.1.1 _ _ M.1;lk;refine aH (λh=>by cases h) (λa=>?_);lk;refine(br (n:=n-1) G (lp hn rfl) L2.RH (Ms _ _) L.10 (by rw[M.n4];exact ill s1 rfl) F.2.1).Ws λJ3 R3=>?_;lk;exact⟨by rw[show(2:Int)+((i:Int)-2)=i from ck 0x100de1716c0570a2f [] [_]],L2.next R3⟩
theorem pV(v:LS)(i:Nat):ez v i=if(i:Int)=1 then[.bit 3 v.st 0] else[.bit 3 v.st 1,.bit 4 v.st (i-2)]:=by
 unfold ez;by_cases h:i=1;·rw[if_pos h,if_pos (by exact af 0x4210013840002710543e2e2a12 [] [_] h)]
 ·rw[if_neg h,if_neg (by lia)]
theorem rz(G:Good Z Kg)(hn:8<=n)(L:PR H J A B r o y wi rb rp q tx x l v)(M:aj H A B){len:Int}(hi:i<=3)(d1:v.back.getD i 0<=v.pl)(l0:2<=len)(l1:len<=273)(F:ay o x (B.Xg v.st v.pl i++cq 14 (8*(v.pl%2^B.pb)) len)):ac Z n (.ref 538) [.ref y,.ref r] J (λu J'=>bM λt q'=>u=.ref t/\J' t=Md (.tup [.str "rep" 0,.int i 0,.int len 0])/\PR H J' A B r o y wi rb rp q' tx (ak o x (B.Xg v.st v.pl i++cq 14 (8*(v.pl%2^B.pb)) len)) l ⟨v.pl,gk v.st,fQ v.back i⟩):=by
 have h1:=L.2;have hs:=L.15;have hf:=L.14;have hp:=L.12;have s1:=L.11;have Rr:=L.1.3.1;have Mm:=L.1.1 _ _ M.1;obtain z5:=j6 M v.pl;obtain z4:=bF M (place:=v.pl) L.10 L.11;obtain z3:=aY.mp F;have F1:=z3.1;rw[bx];refine run G (lq hn rfl) (DT Mj 0 (?_:X _ _ _ _ _ _ _ _));refine aA (eG (kD (xI (λρ' J'=>ρ'=[(JM,.ref y),(JW,.ref r),(JN,.int i 0)]/\PR H J' A B r o y wi rb rp q tx (ak o x (B.Xg v.st v.pl i)) l v) ?_ ?_)))
 ·intro Q' hQ _ _ _;unfold MA.Xg at F1 hQ;lk;by_cases h:i=0;·subst h;rw[if_pos (by rfl)] at F1 hQ;refine(br (n:=n-1) G (lp hn rfl) L.RH (Ms _ _) L.10 (by rw[M.n2];exact ill s1 rfl) F1.1).Ws λJ2 R2=>?_;have L2:=L.next R2;clear h1 Rr Mm;have h1:=L2.2;have Rr:=L2.1.3.1;have Mm:=L2.1.1 _ _ M.1;refine aA (aH (λh=>by cases h) (λa=>?_));lk;refine((c4 (n:=n-1) G (lp hn rfl) L2.1.1 M (af KN [_] [_] hp))).k01 ?_;lk;refine(br (n:=n-1) G (lp hn rfl) L2.RH (Ms _ _) z4.1 (by rw[M.n5];exact z4.2) F1.2.1).Ws λJ3 R3=>?_;refine aA (aH (λh=>by cases h) (λa=>?_));lk;exact hQ ⟨_,⟨rfl,L2.next R3⟩,rfl⟩
  ·rw[if_neg (by lia),<-pV] at F1 hQ;refine(br (n:=n-1) G (lp hn rfl) L.RH (Ms _ _) L.10 (by rw[M.n2];exact ill s1 rfl) F1.1).Ws λJ2 R2=>?_;have L2:=L.next R2;clear h1 Rr Mm;have h1:=L2.2;refine aA (aH (λa=>?_) (λh=>absurd rfl h));lk;refine(pJ (n:=n-1) G (lp hn rfl) L2 M (by lia) hi F1.2).Ws λJ3 L3=>?_;lk;exact hQ ⟨_,⟨rfl,L3⟩,rfl⟩
 ·intro ρ' J1 r1;rw[r1.1];generalize ak o x (B.Xg v.st v.pl i)=x1 at*;clear h1 Rr Mm;have h1:=r1.2.2;have h2:=r1.2.7.1;lk;refine(mV (n:=n-1) G (lp hn rfl) hi r1.2.1.1 r1.2.7 r1.2.8).Ws λJ2 r2=>?_;refine ae r2.2 λq' z2=>?_;have L2:=r1.2.Zm z2.1 z2.2.1 z2.2.2;lk;refine((cB (n:=n-1) G (lp hn rfl) L2 d1)).k01 ?_;clear h1 h2;have h1:=L2.2;have Mm:=L2.1.1 _ _ M.1;have Mp:=L2.1.1 _ _ M.2;lk;refine((cG (n:=n-1) (place:=v.pl) G (lp hn rfl) L2.1.1 M (af KN [_] [_] hp))).k01 ?_;lk;refine(dm (n:=n-1) G (lp hn rfl) L2.RH M.7 ((M.Wr (L2.1.1.Xy _)).aa0) z5.1 z5.2 l0 l1 z3.2).Ws λJ3 R3=>?_;have L3:=L2.next R3;clear h1 Mm Mp;have h1:=L3.2;lk;refine((i4 (n:=n-1) G (lp hn rfl))).k01 ?_;have z:=(bZ (x:=v.st)).2.1;lk;intro t ht;lk;exact⟨t,q',rfl,aa _ _ _,(L3.set z.1 z.2 rfl).sup (Wu ht _)⟩
theorem nR(G:Good Z Kg)(hn:8<=n)(L:PR H J A B r o y wi rb rp q tx x l v)(M:aj H A B)(d1:v.back.getD 0 0<=v.pl)(F:ay o x [.bit 2 v.st 0,.bit 5 (B.cell v.st v.pl) 0]):ac Z n (.ref 538) [.ref y,.ref r] J (λu J'=>∃t,u=.ref t/\J' t=Md (.tup [.str "short" 0])/\PR H J' A B r o y wi rb rp q tx (ak o x [.bit 2 v.st 0,.bit 5 (B.cell v.st v.pl) 0]) l ⟨v.pl,cH v.st,v.back⟩):=by have h1:=L.2;have hp:=L.12;have s1:=L.11;have Rr:=L.1.3.1;have Mm:=L.1.1 _ _ M.1;obtain z1:=bF M (place:=v.pl) L.10 L.11;refine run G (lq hn rfl) ?_;lk;refine(br (n:=n-1) G (lp hn rfl) L.RH (Ms _ _) L.10 (by rw[M.n2];exact ill s1 rfl) F.1).Ws λJ2 R2=>?_;have L2:=L.next R2;clear h1 Rr Mm;have h1:=L2.2;have Rr:=L2.1.3.1;have Mm:=L2.1.1 _ _ M.1;refine aA (aH (λh=>by cases h) (λa=>?_));lk;refine((c4 (n:=n-1) G (lp hn rfl) L2.1.1 M (af KN [_] [_] hp))).k01 ?_;lk;refine(br (n:=n-1) G (lp hn rfl) L2.RH (Ms _ _) z1.1 (by rw[M.n5];exact z1.2) F.2.1).Ws λJ3 R3=>?_;have L3:=L2.next R3;clear h1 Rr Mm;have h1:=L3.2;have h2:=L3.7.1;refine aA (aH (λa=>?_) (λh=>absurd rfl h));lk;refine((bp (n:=n-1) G (lp hn rfl) L3.7)).k01 ?_;lk;refine((cB (n:=n-1) G (lp hn rfl) L3 d1)).k01 ?_;lk;refine((gd (n:=n-1) G (lp hn rfl))).k01 ?_;have z:=(bZ (x:=v.st)).2.2;lk;intro t ht;lk;exact⟨t,rfl,aa _ _ _,(L3.set z.1 z.2 rfl).sup (Wu ht _)⟩
noncomputable def bc(v:LS):Option aI->LS
 |none=>⟨v.pl,bE v.st,v.back⟩
 |some p=>p.next v
noncomputable def gw(B:MA)(tx:Array UInt8)(v:LS):Option aI->List Ev
 |none=>B.WW v.st v.pl (2^32) 2
 |some p=>p.evs B tx v
noncomputable def io(tx:Array UInt8)(v:LS):Option aI->List Me
 |none=>[.str "end" 0]
 |some .lit=>[.str "lit" 0,.int (au tx v.pl) 0]
 |some p=>p.vals
noncomputable def sK:Option aI->Int
 |none=>0
 |some p=>p.len
noncomputable def iT(tx:Array UInt8)(v:LS):Option aI->Prop
 |none=>True
 |some p=>p.X8 tx v
theorem sO(B:MA)(tx:Array UInt8)(v:LS):aI.lit.evs B tx v=.bit 0 (B.cell v.st v.pl) 0::g8 B tx v (au tx v.pl):=by
 show B.Xq _ _ _ _ _=_;unfold MA.Xq g8;by_cases h:v.st<7;·rw[if_pos h,if_pos h]
 ·rw[if_neg h,if_neg h,if_neg h]
theorem pd(G:Good Z Kg)(hn:9<=n)(L:PR H J A B r o y wi rb rp q tx x l v)(M:aj H A B)(p:Option aI)(V:iT tx v p)(F:ay o x (gw B tx v p)):ac Z n (.ref 545) [.ref y,.ref r] J (λu J'=>bM λt q'=>u=.ref t/\J' t=Md (.tup (io tx v p))/\PR H J' A B r o y wi rb rp q' tx (ak o x (gw B tx v p)) l ⟨v.pl,(bc v p).st,(bc v p).back⟩):=by
 have h1:=L.2;have hp:=L.12;have s1:=L.11;have Rr:=L.1.3.1;have Mm:=L.1.1 _ _ M.1;obtain z2:=bF M (place:=v.pl) L.10 L.11;refine run G (lq hn rfl) ?_;lk;refine((c4 (n:=n-1) G (lp hn rfl) L.1.1 M (af KN [_] [_] hp))).k01 ?_;lk;have first:∀{b:Int}{evs:List Ev}{P:Me->Sg->Prop},ay o x (.bit 0 (B.cell v.st v.pl) b::evs)->(∀J2,PR H J2 A B r o y wi rb rp q tx (gG o x (.bit 0 (B.cell v.st v.pl) b)) l v->P (.int b 0) J2)->
   ac Z (n-1) (.ref 987) [.ref r,.ref (A.ra 0),.int (B.cell v.st v.pl) 0] J P:=by
  intro b evs P F h
  refine(br (n:=n-1) G (lp hn rfl) L.RH (Ms _ _) z2.1 (by rw[M.n0];exact z2.2) F.1).Ws λJ2 R2=>?_
  exact h J2 (L.next R2)
 have second:∀{J:Sg}{x:RT}{b:Int}{evs:List Ev}{P:Me->Sg->Prop},PR H J A B r o y wi rb rp q tx x l v->ay o x (.bit 1 v.st b::evs)->(∀J2,PR H J2 A B r o y wi rb rp q tx (gG o x (.bit 1 v.st b)) l v->P (.int b 0) J2)->
   ac Z (n-1) (.ref 987) [.ref r,.ref (A.ra 1),.int v.st 0] J P:=by
  intro J x b evs P L F h
  refine(br (n:=n-1) G (lp hn rfl) L.RH (Ms _ _) L.10 (by rw[M.n1];exact ill s1 rfl) F.1).Ws λJ2 R2=>?_
  exact h J2 (L.next R2)
 by_cases hl:p=Md .lit
 ·subst hl;rw[show gw B tx v (Md .lit)=.bit 0 (B.cell v.st v.pl) 0::g8 B tx v (au tx v.pl) from sO B tx v] at F ⊢;refine first F λJ2 L2=>?_
  clear h1 Rr Mm;have h1:=L2.2;refine aA (aH (λa=>?_) (λh=>absurd rfl h));have z:=aJ tx v.pl;lk;refine(kU (n:=n-1) G (lp hn rfl) L2 M z.1 (af K9 [_] [] z) (V.5 rfl) F.2).aaz λJ3 t ht L3=>?_;lk;exact⟨t,q,rfl,ht,L3⟩
 ·obtain⟨evs,he⟩:∃evs,gw B tx v p=.bit 0 (B.cell v.st v.pl) 1::evs:=by
   induction p with
   |none=>exact⟨_,rfl⟩
   |some p=>induction p with
    |lit=>exact absurd rfl hl
    |mat d sz=>exact⟨_,rfl⟩
    |rep i sz=>exact⟨_,rfl⟩
    |short=>exact⟨_,rfl⟩
  refine first (by rw[he] at F;exact F) λJ2 L2=>?_
  clear h1 Rr Mm;have h1:=L2.2;have Rr:=L2.1.3.1;have Mm:=L2.1.1 _ _ M.1;refine aA (aH (λh=>by cases h) (λa=>?_));lk;induction p with
  |none=>
   have E:∃evs,evs=cq 10 (8*(v.pl%2^B.pb)) 2++bS (2^32) 2:=⟨_,rfl⟩;refine ae E λevs E=>?_;have he:gw B tx v Mr=.bit 0 (B.cell v.st v.pl) 1::.bit 1 v.st 0::evs:=by rw[E];rfl
   rw[he] at F ⊢;refine second L2 F.2 λJ3 L3=>?_;clear h1 Rr Mm;have h1:=L3.2;refine aA (aH (λa=>?_) (λh=>absurd rfl h));lk;refine(rF (n:=n-1) G (lp hn rfl) L3 M (by rw[<-E];exact F.2.2)).Wr (MD _) ?_;rw[<-E];intro _ J4 r1;refine ae r1 λt z1=>?_;rw[z1.1];lk;exact⟨t,q,rfl,z1.2.1,z1.2.2⟩
  |some p=>induction p with
   |lit=>exact absurd rfl hl
   |mat d sz=>
    have V1:=V.3 d sz rfl;have V2:1<=d/\d<=v.pl:=V.6 nofun
    refine second L2 F.2 λJ3 L3=>?_;clear h1 Rr Mm;have h1:=L3.2;refine aA (aH (λa=>?_) (λh=>absurd rfl h));lk;refine(nG (n:=n-1) G (lp hn rfl) L3 M V2.1 V2.2 V1.1 V1.2 F.2.2).aau λJ4 t q' ht L4=>?_;lk;exact⟨t,q',rfl,ht,L4⟩
   |rep i sz=>
    have V1:=V.4 i sz rfl;have V2:1<=v.back.getD i 0/\v.back.getD i 0<=v.pl:=V.6 nofun
    refine second L2 F.2 λJ3 L3=>?_;clear h1 Rr Mm;have h1:=L3.2;refine aA (aH (λh=>by cases h) (λa=>?_));lk;refine(rz (n:=n-1) G (lp hn rfl) L3 M V1.1 V2.2 V1.2.1 V1.2.2 F.2.2).aau λJ4 t q' ht L4=>?_;lk;exact⟨t,q',rfl,ht,L4⟩
   |short=>
    have V2:1<=v.back.getD 0 0/\v.back.getD 0 0<=v.pl:=V.6 nofun
    refine second L2 F.2 λJ3 L3=>?_;clear h1 Rr Mm;have h1:=L3.2;refine aA (aH (λh=>by cases h) (λa=>?_));lk;refine(nR (n:=n-1) G (lp hn rfl) L3 M V2.2 F.2.2).aaz λJ4 t ht L4=>?_;lk;exact⟨t,q,rfl,ht,L4⟩
theorem bU(o:Array UInt8)(i:Nat):au o i=((o.toList.getD i 0).toNat:Int):=by unfold au;rw[MO,P8,Mx,<-Om]
theorem zS{a b:UInt8}(h:((a.toNat:Nat):Int)=b.toNat):a=b:=UInt8.toNat_inj.mp (af 0x2108009c200013af7150ad4150f [] [_,_] h)
theorem YA(h:i<l.length):l.take (i+1)=l.take i++[l.getD i 0]:=by rw[VA,MH h,Mx,MH h];rfl
theorem qc{t:List UInt8}{d:Nat}:∀(c k:Nat),k+c<=t.length->1<=d->d<=k->(∀j,j<c->t.getD (k+j) 0=t.getD (k+j-d) 0)->bf (t.take k) d c=(t.drop k).take c
 |0,k,_,_,_,_=>by rw[List.take_zero];rfl
 |c+1,k,hk,d0,d1,h=>by
  have hl:(t.take k).length=k:=by rw[OJ];lia
  have h0:=h 0 (Ms _ _);have e:(t.take k).getD ((t.take k).length-d) 0=t.getD k 0:=by rw[hl];rw[VB] at h0;rw[h0,Mx,QL,if_pos (by exact ao K1 [] [_,_,_] d0 (Mf d1)),Mx]
  rw[iG,e,<-YA (by exact af LC [] [_,_,_] hk),qc c (k+1) (af 0x420001394508e09b8caa55104cf6e32a [] [_,_,_] hk) d0 (Nk d1 (Og _ _)) λj hj=>by have:=h (j+1) (Nat.lt_succ_of_le hj);rw[show k+1+j=k+(j+1) by exact ck 0x40314238275104cf6e541 [] [_,_]];exact this];rw[Oh (show k<t.length by exact af LC [] [_,_,_] hk),R8,Mx,MH (show k<t.length by exact af LC [] [_,_,_] hk)];rfl
variable{t:Ml}
theorem pL(G:Good Z Kg)(hn:0<n)(ht:J t=Md (.tup (io tx v (Md p)))):ac Z n (.ref 446) [.ref t] J (λu J'=>u=.int p.len 0/\J=J'):=by
 refine run G hn ?_;lk;induction p with
 |mat d sz=>refine am ht (by decide) (by decide) rfl ?_;refine cx (r:=Mj) (r':=Mj) ?_ (by decide) rfl;lk;refine am ht (by decide) (by decide) rfl ?_;lk;exact⟨rfl,rfl⟩
 |rep i sz=>refine am ht (by decide) (by decide) rfl ?_;refine cx (r:=Mj) (r':=Mj) ?_ (by decide) rfl;lk;refine am ht (by decide) (by decide) rfl ?_;lk;exact⟨rfl,rfl⟩
 |lit=>refine am ht (by decide) (by decide) rfl ?_;refine cx (r:=Mh) (r':=Mh) ?_ (by decide) rfl;lk;refine am ht (by decide) (by decide) rfl ?_;refine aA (aO (r:=Mh) ?_ (by decide));lk;exact⟨rfl,rfl⟩
 |short=>refine am ht (by decide) (by decide) rfl ?_;refine cx (r:=Mh) (r':=Mh) ?_ (by decide) rfl;lk;refine am ht (by decide) (by decide) rfl ?_;refine aA (aO (r:=Mh) ?_ (by decide));lk;exact⟨rfl,rfl⟩
theorem PR.aa2(L:PR H J A B r o y wi rb rp q tx x l v){J2:Sg}{l2:List UInt8}{pl2:Int}(keep:∀a c,a≠y->a≠wi->a≠rb->J a=Md c->J2 a=Md c)(yo:J2 y=Md (.Wv 576 [(Jt,.ref B.m),(Jy,.ref wi),(Ju,.none),(Jv,.int pl2 0),(Jx,.int v.st 0),(Jw,.ref rp),(Js,.bool Mh)]))(W:vy J2 wi rb l2)(e:pl2=l2.length)(tk:l2=tx.toList.take l2.length)(fit:l2.length<=tx.size):PR H J2 A B r o y wi rb rp q tx x l2 ⟨pl2,v.st,v.back⟩:=by
 have hy:=L.hyp;refine⟨L.1.ch (λa c h=>keep a c (yx h L.3) (yx h L.5) (yx h L.6) (L.1.1 a c h)) ?_,yo,L.3,W,L.5,L.6,⟨keep _ _ (tA L.7.1 L.2 (by decide)) (tA L.7.1 L.4.1 (by decide)) (mn L.7.1 L.4.2 rfl) L.7.1,keep _ _ (mn L.7.2 L.2 rfl) (mn L.7.2 L.4.1 rfl) (mn L.7.2 L.4.2 rfl) L.7.2,L.7.3⟩,L.8,L.9,L.10,L.11,e,tk,fit,L.15⟩
 ·rintro a c (rfl|⟨j,hj,rfl|rfl⟩) h;·exact keep _ _ (λz=>hy.1 (.inl z)) (λz=>hy.1 (.inr (.inl z))) (λz=>hy.1 (.inr (.inr (.inl z)))) h
  ·have:=(hy.2 j hj).1;exact keep _ _ (λz=>this (.inl z)) (λz=>this (.inr (.inl z))) (λz=>this (.inr (.inr (.inl z)))) h
  ·have:=(hy.2 j hj).2;exact keep _ _ (λz=>this (.inl z)) (λz=>this (.inr (.inl z))) (λz=>this (.inr (.inr (.inl z)))) h
theorem sQ(hl:p≠.lit):(bc v (Md p)).back.getD 0 0=p.Y7 v:=by
 induction p with
 |lit=>exact absurd rfl hl
 |mat d sz=>rfl
 |rep i sz=>rfl
 |short=>rfl
theorem BU(V:iT tx v (Md p)):0<=p.len:=
 match p,V with
 |.lit,_=>by decide
 |.short,_=>by decide
 |.mat d sz,V=>by have:=V.3 d sz rfl;show 0<=sz;exact af 0x84000271110460283f974080b [_] [] this
 |.rep i sz,V=>by have:=V.4 i sz rfl;show 0<=sz;exact af 0x1084004e22208c0507fc41343a3c080b [_] [_] this
theorem zE(p:aI):bM λw ws=>io tx v (Md p)=.str w 0::ws/\M3 (w="end")=false:=by cases p<;>exact⟨_,_,rfl,by decide⟩
theorem Af(h:p≠.lit):bM λw ws=>io tx v (Md p)=.str w 0::ws/\M3 (w="lit")=false:=by
 cases p with
 |lit=>exact absurd rfl h
 |_=>exact⟨_,_,rfl,by decide⟩
theorem zH(G:Good Z Kg)(hn:6<=n){p:Option aI}(L:PR H J A B r o y wi rb rp q tx x l ⟨v.pl,(bc v p).st,(bc v p).back⟩)(Ht:H t=Md (.tup (io tx v p)))(V:iT tx v p):ac Z n (.ref 552) [.ref y,.ref t] J (λu J'=>u=.bytes ((tx.toList.drop l.length).take (sK p).toNat).toArray 0/\PR H J' A B r o y wi rb rp q tx x (tx.toList.take (l.length+(sK p).toNat)) (bc v p)):=by
 have ht:=L.1.1 _ _ Ht;have hp:v.pl=l.length:=L.12;have hs:=L.15;have hf:=L.14;have tl:tx.toList.length=tx.size:=NC;have h1:=L.2;refine run G (lq hn rfl) ?_;lk;induction p with
 |none=>refine am ht (by decide) (by decide) rfl ?_;refine aA (aO (r:=Mj) ?_ (by decide));lk;refine⟨rfl,?_⟩;show PR H J A B r o y wi rb rp q tx x (tx.toList.take l.length) (bc v Mr);rw[<-L.13];exact L
 |some p=>
  have fit:=V.2;have len0:=BU V;refine ae (MX len0) λc hc=>?_;have ec:(sK (Md p)).toNat=c:=by show p.len.toNat=c;rw[hc];exact MO c
  rw[ec];refine bI (zE (tx:=tx) (v:=v) p) λw ws z2=>?_;refine am ht (by decide) (by decide) (by rw[z2.1];rfl) ?_;refine aA (aO (r:=Mh) ?_ z2.2);lk;refine((pL (n:=n-1) G (lp hn rfl) ht)).k01 ?_;lk;refine((qF (n:=n-1) G (lp hn rfl) L)).k01 ?_;lk;have ht1:∀c,(upd J y c) t=Md (.tup (io tx v (Md p))):=λc=>(ag _ _ (mn ht h1 rfl)).trans ht;have nwy:=tA L.4.1 h1 (by decide);have nby:=mn L.4.2 h1 rfl;have W1:∀c,vy (upd J y c) wi rb l:=λc=>⟨(ag _ _ nwy).trans L.4.1,(ag _ _ nby).trans L.4.2⟩;by_cases hl:p=.lit
  ·subst hl;obtain rfl:c=1:=by have:(1:Int)=c:=hc;exact af 0x4200013842002778110944150f [] [_] this
   refine am (ht1 _) (by decide) (by decide) rfl ?_;refine aA (aO (r:=Mj) ?_ (by decide));have w1:=(W1 (.Wv 576 [(Jt,.ref B.m),(Jy,.ref wi),(Ju,.none),(Jv,.int (v.pl+aI.lit.len) 0),(Jx,.int (bc v (Md .lit)).st 0),(Jw,.ref rp),(Js,.bool Mh)])).1;lk;refine am (ht1 _) (by decide) (by decide) rfl ?_;lk;have z:=aJ tx v.pl;refine(tz (n:=n-1) G (lp hn rfl) ((L.1.1.upd L.3 _).WU λa=>a≠wi/\a≠rb) (W1 _) (ai (λz=>z.1 rfl) L.5) (ai (λz=>z.2 rfl) L.6) (iX 0x42584708a10801a479110a57982ce03dfc28463178283ffc41416 [_,_] [_,_] hp hs fit hc) z.1 (af K9 [_] [] z)).XS λJ2 S2 W2=>?_;have ht2:=S2.at (a:=t) ⟨mn ht L.4.1 rfl,mn ht L.4.2 rfl⟩ (ht1 _);lk;refine am ht2 (by decide) (by decide) rfl ?_;lk;intro m hm;have ol:YS [.int (au tx v.pl) 0] [PB (au tx v.pl).toNat]:=mC ⟨z.1,af K9 [_] [] z⟩;refine mq ?_ (aa _ _ _) ol (by simp);lk;have hlt:l.length<tx.toList.length:=by have:v.pl+1<=tx.size:=fit;exact iX 0x42684908e10801a479110a4bcc16701f950944af0507d4140f [_,_] [_,_,_] hp tl fit hc
   have eu:PB (au tx v.pl).toNat=tx.toList.getD l.length 0:=by rw[hp,bU,qN]
   refine⟨?_,?_⟩;·rw[eu,Oh hlt,R8,List.take_zero,Mx,MH hlt];rfl
   ·have el:l++[u8 (au tx v.pl)]=tx.toList.take (l.length+1):=by rw[YA hlt,<-L.13];unfold u8;rw[eu]
    have ll:(tx.toList.take (l.length+1)).length=l.length+1:=by rw[OJ];lia
    refine(L.aa2 (J2:=J2) (l2:=tx.toList.take (l.length+1)) (pl2:=v.pl+1) (λa d a1 a2 a3 e=>S2.at ⟨a2,a3⟩ ((ag _ _ a1).trans e)) (S2.at ⟨nwy.symm,nby.symm⟩ (aa _ _ _)) (by rw[<-el];exact W2) (by rw[ll];exact af 0x2108009c200013bc141f104fc4167229 [_] [_] hp) (by rw[ll]) (by rw[ll];exact aS 0x21242284200531e444295e60b380f5e0a0fa88267b1c [_,_] [_,_] hp fit hc)).sup (Wu hm _)
  ·refine bI (Af (tx:=tx) (v:=v) hl) λw ws z1=>?_;refine am (ht1 _) (by decide) (by decide) (by rw[z1.1];rfl) ?_;refine aA (aO (r:=Mh) ?_ z1.2);have w1:=(W1 (.Wv 576 [(Jt,.ref B.m),(Jy,.ref wi),(Ju,.none),(Jv,.int (v.pl+p.len) 0),(Jx,.int (bc v (Md p)).st 0),(Jw,.ref rp),(Js,.bool Mh)])).1;have nry:=tA L.7.1 h1 (by decide);have r1:∀c,eW (upd J y c) rp q (bc v (Md p)).back:=λc=>⟨(ag _ _ nry).trans L.7.1,(ag _ _ (mn L.7.2 h1 rfl)).trans L.7.2,L.7.3⟩;have r2:=(r1 (.Wv 576 [(Jt,.ref B.m),(Jy,.ref wi),(Ju,.none),(Jv,.int (v.pl+p.len) 0),(Jx,.int (bc v (Md p)).st 0),(Jw,.ref rp),(Js,.bool Mh)])).1;lk;refine((bp (n:=n-1) G (lp hn rfl) (r1 _))).k01 ?_;lk;rw[sQ hl,hc];have far:=V.6 hl;have same:=V.7 hl;refine ae (MX (show 0<=p.Y7 v by have:=far.1;exact sR this rfl)) λd hd=>?_;rw[hd] at far same ⊢;have f1:=far.1;have f2:=far.2;have ew:bf l d c=(tx.toList.drop l.length).take c:=by
    have e:=qc (t:=tx.toList) (d:=d) c l.length (iX 0x21342484708400d2bc888535e60b380fea42d13bc141f2a8267b1d [_,_] [_,_,_,_] hp tl fit hc) (af 0x8400027b8a2f0204b9550230f [_] [_] far) (ao 0x847080007b7145e040972aaf0508d4130f [_] [_,_] hp far) λj hj=>by have:=same j (ao 0x108a10800f54140faf0508ee290f [_] [_,_] hc hj);rw[hp,show((l.length:Int)+(j:Int))=((l.length+j:Nat):Int) from rfl,show((l.length+j:Nat):Int)-(d:Int)=((l.length+j-d:Nat):Int) from af 0x1080004e108009d413968569d2bd797a827d2b1a34 [] [_,_,_,_] (Mf (ao 0x2194228400053b8a03ebc14232a11c131d [_] [_,_,_] hp f2)),bU,bU] at this;exact zS this
    rw[<-L.13] at e;exact e
   refine(yU (n:=n-1) G (lp hn rfl) ((L.1.1.upd L.3 _).WU λa=>a≠wi/\a≠rb) (W1 _) (ai (λz=>z.1 rfl) L.5) (ai (λz=>z.2 rfl) L.6) (d:=d) (c:=c) (af 0x8400027b8a2f0204b9550230f [_] [_] far) (ao 0x847080007b7145e040972aaf0508d4130f [_] [_,_] hp far) (iX 0x42584708a10801a579110a4bcc16701ffe12158cde0a0f800a8267c24 [_,_] [_,_,_] hp hs fit hc)).XS λJ2 S2 W2=>?_;lk;refine⟨by rw[ew],?_⟩;have el:l++bf l d c=tx.toList.take (l.length+c):=by rw[ew,List.take_add,<-L.13]
   have ll:(tx.toList.take (l.length+c)).length=l.length+c:=by rw[OJ];lia
   have:=L.aa2 (J2:=J2) (l2:=tx.toList.take (l.length+c)) (pl2:=v.pl+p.len) (λa d a1 a2 a3 e=>S2.at ⟨a2,a3⟩ ((ag _ _ a1).trans e)) (S2.at ⟨nwy.symm,nby.symm⟩ (by rw[hc];exact aa _ _ _)) (by rw[<-el];exact W2) (by rw[ll];exact ao 0x847084007a11420001eaf22214bc141f504fcc167229 [_,_] [_,_] hp hc) (by rw[ll]) (by rw[ll];exact aS 0x84908a108014d79110a4bcc16701fbc141f2a8267b1d [_,_] [_,_,_] hp fit hc);have en:bc v (Md p)=⟨v.pl+p.len,(bc v (Md p)).st,(bc v (Md p)).back⟩:=by show p.next v=_;rw[<-gY];rfl
   rw[en];exact this
noncomputable def bL(H:Sg)(sa:Ml)(ds:List (List Me)):Prop:=∃as:List Ml,H sa=Md (.list (as.map MK))/\as.length=ds.length/\∀(j:Nat)(d:List Me),ds[j]?=Md d->∃a,as[j]?=Md a/\H a=Md (.tup d)
noncomputable def bu(tx:Array UInt8):LS->List (Option aI)->List (List Me)
 |_,[]=>[]
 |v,p::r=>io tx v p::bu tx (bc v p) r
noncomputable def aC(B:MA)(tx:Array UInt8):LS->List (Option aI)->List Ev
 |_,[]=>[]
 |v,p::r=>gw B tx v p++aC B tx (bc v p) r
noncomputable def bR:LS->List (Option aI)->LS
 |v,[]=>v
 |v,p::r=>bR (bc v p) r
noncomputable def oO(tx:Array UInt8):LS->List (Option aI)->Prop
 |_,[]=>True
 |v,p::r=>iT tx v p/\oO tx (bc v p) r
theorem i9(tx:Array UInt8):∀(os:List (Option aI))(v:LS),(bu tx v os).length=os.length
 |[],_=>rfl
 |p::r,v=>by show(bu tx _ r).length+1=r.length+1;rw[i9]
variable{p:Option aI}
theorem yH(V:iT tx v p):0<=sK p:=by
 match p,V with
 |none,_=>exact QM _
 |some .lit,_=>decide
 |some .short,_=>decide
 |some (.mat d sz),V=>have:=V.3 d sz rfl;show 0<=sz;exact af 0x84000271110460283f974080b [_] [] this
 |some (.rep i sz),V=>have:=V.4 i sz rfl;show 0<=sz;exact af 0x1084004e22208c0507fc41343a3c080b [_] [_] this
theorem wy(v:LS)(p:Option aI):(bc v p).pl=v.pl+sK p:=by
 induction p with
 |none=>show v.pl=v.pl+0;exact ck 0x20182e0a14 [_] []
 |some p=>exact gY v p
variable{d:Nat}
theorem qA{v:Me}(h:(∃s,v=.str s 0)∨∃i,v=.int i 0):dZ J (d+1) v v:=by
 rcases h with⟨s,rfl⟩|⟨i,rfl⟩;·exact .str
 ·exact .int
theorem jx{α:Type}:∀{xs:List α}{p:α×α},p∈xs.zip xs->p.2=p.1/\p.1∈xs
 |x::xs,p,h=>by
  rw[OI] at h;refine Pl (MT.mp h) (λzz=>?_) (λh=>?_);rw[zz];·exact⟨rfl,MU ..⟩
  ·exact⟨(jx h).1,MV _ (jx h).2⟩
variable{b:Ml}
theorem xP(h1:J a=Md (.tup xs))(h2:J b=Md (.tup xs))(h:∀v∈xs,(∃s,v=.str s 0)∨∃i,v=.int i 0):dZ J 9 (.ref a) (.ref b):=
 .tup h1 h2 rfl λp hp=>by rw[(jx hp).1];exact qA (h _ (jx hp).2)
theorem iE{x:Array UInt8}{t u:Nat}:sM J (.bytes x t) (.bytes x u) true:=by have:=sM.bytes (J:=J) (x:=x) (y:=x) (t:=t) (u:=u);rwa [decide_eq_true rfl] at this
theorem s5(tx:Array UInt8)(v:LS)(p:Option aI):∀u∈io tx v p,(∃s,u=.str s 0)∨∃i,u=.int i 0:=by
 intro u hu;induction p with
 |none=>rcases MT.mp hu with rfl|hu;exact .inl ⟨_,rfl⟩;cases hu
 |some p=>induction p with
  |lit=>rcases MT.mp hu with rfl|hu;exact .inl ⟨_,rfl⟩;rcases MT.mp hu with rfl|hu;exact .inr ⟨_,rfl⟩;cases hu
  |mat d sz=>rcases MT.mp hu with rfl|hu;exact .inl ⟨_,rfl⟩;rcases MT.mp hu with rfl|hu;exact .inr ⟨_,rfl⟩;rcases MT.mp hu with rfl|hu;exact .inr ⟨_,rfl⟩;cases hu
  |rep i sz=>rcases MT.mp hu with rfl|hu;exact .inl ⟨_,rfl⟩;rcases MT.mp hu with rfl|hu;exact .inr ⟨_,rfl⟩;rcases MT.mp hu with rfl|hu;exact .inr ⟨_,rfl⟩;cases hu
  |short=>rcases MT.mp hu with rfl|hu;exact .inl ⟨_,rfl⟩;cases hu
variable{da:Ml}
theorem PR.WU(L:PR H J A B r o y wi rb rp q tx x l v)(ht:J t=Md (.tup xs)):PR (aU H J λa=>a=t) J A B r o y wi rb rp q tx x l v:=by
 have ne:∀{a c},J a=Md c->c≠.tup xs->¬a=t:=λh hc z=>by rw[z,ht] at h;cases h;exact hc rfl
 refine⟨L.1.held (ne L.1.3.1 nofun) λj hj=>?_,L.2,ai (ne L.2 nofun) L.3,L.4,ai (ne L.4.1 nofun) L.5,ai (ne L.4.2 nofun) L.6,L.7,ai (ne L.7.1 nofun) L.8,L.9,L.10,L.11,L.12,L.13,L.14,L.15⟩;rcases L.1.2 j hj with⟨e,xs',h,_⟩|⟨h,m,h',_⟩
 ·exact⟨ne h nofun,by rw[e];exact ne h nofun⟩
 ·exact⟨ne h nofun,ne h' nofun⟩
theorem PR.abj{q':Ml}{x':RT}{l':List UInt8}{v':LS}(L:PR H J A B r o y wi rb rp q tx x l v)(L':PR (aU H J P) J' A B r o y wi rb rp q' tx x' l' v'):PR H J' A B r o y wi rb rp q' tx x' l' v':=
 ⟨L.1.Zl L'.1,L'.2,L.3,L'.4,L.5,L.6,L'.7,L.8,L'.9,L'.10,L'.11,L'.12,L'.13,L'.14,L'.15⟩
theorem nK(G:Good Z Kg)(hn:4<=n)(HT:Z.kt 361=Md (bt [1,1,1,1])){m:Ml}:ac Z n (.ref 576) [.ref m,.ref wi] J (λu J'=>nW λy rp q=>u=.ref y/\J y=Mr/\J rp=Mr/\J q=Mr/\Sub J J'/\ J' y=Md (.Wv 576 [(Jt,.ref m),(Jy,.ref wi),(Ju,.none),(Jv,.int 0 0),(Jx,.int 0 0),(Jw,.ref rp),(Js,.bool Mh)])/\eW J' rp q [1,1,1,1]):=by
 refine bA G (lq hn rfl) dU λx hx=>?_;refine run G (yq hn rfl) ?_;lk;have T1:=Wu hx (.Wv 576 (sf (sf (sf (sf (sf [] Jt (.ref m)) Jy (.ref wi)) Ju .none) Jv (.int 0 0)) Jx (.int 0 0)));refine(kJ (n:=n-1-1) G (aS Lx [] [_,_,_] hn (Mf (af KJ [] [_] hn)) (Mf (ao KP [] [_,_] hn (Mf (af KJ [] [_] hn))))) HT).Wr (MD _) ?_;intro _ J2 I0;refine bI I0 λrp q z13=>?_;rw[z13.1];have h1:=z13.2.1;have h2:=z13.2.2.1;have Xx:=z13.2.2.2.1 _ _ (aa _ _ _);have hxr:rp≠x:=λe=>by rw[e,aa] at h1;cases h1
 have hxq:q≠x:=λe=>by rw[e,aa] at h2;cases h2
 lk;refine⟨rfl,x,rp,q,rfl,hx,T1.none h1,T1.none h2,(T1.trans z13.2.2.2.1).upd hx _,aa _ _ _,(ag _ _ hxr).trans z13.2.2.2.2.1,(ag _ _ hxq).trans z13.2.2.2.2.2,rfl⟩
theorem jQ(G:Good Z Kg)(hn:12<=n)(S:Sub H J)(R:aD J A C)(off:Off H A)(apt:A.Apt)(M:aj H A B)(mok:oC C)(HT:Z.kt 361=Md (bt [1,1,1,1])){ps:List (Option aI)}(hs:bL H da (bu tx v0 ps))(small:tx.size<=254)(osm:o.size<=100000)(o5:5<=o.size)(o0:au o 0=0)(oc:codeAt o 4<4294967295)(V:oO tx v0 ps)(F:ay o (cX o,C) (aC B tx v0 ps))(f1:(ak o (cX o,C) (aC B tx v0 ps)).1.WG=0)(f2:(ak o (cX o,C) (aC B tx v0 ps)).1.place=o.size)(f3:(bR v0 ps).pl=tx.size):ac Z n (.ref 1167) [.ref B.m,.bytes o 0,.bytes tx 0,.ref da] J (λu J'=>u=.bool Mj/\Sub H J'/\aD J' A (ak o (cX o,C) (aC B tx v0 ps)).2/\oC (ak o (cX o,C) (aC B tx v0 ps)).2):=by
 refine ae hs λas z12=>?_;have hal:=z12.2.1;rw[i9] at hal;have cr:=db o 4;refine run G (lq hn rfl) ?_;lk;refine(ny (n:=n-1) G (lp hn rfl)).aab λJ1 wi rb hw hb S1 W1=>?_;lk;refine(nK (n:=n-1) G (lp hn rfl) HT).abc λJ2 y rp q hy hr hq S2 Yo Rp=>?_;lk;refine(nH (n:=n-1) G (lp hn rfl) osm o5 o0 (λzz=>fb 0x845084007bfffffffc4125bfffffffe20a2d [_] [] zz oc)).Yc λJ3 r hrd S3 D3=>?_;have L:PR H J3 A B r o y wi rb rp q tx (cX o,C) [] v0:=by have S12:=S1.trans S2;have S13:=S12.trans S3;refine⟨⟨S.trans S13,λj hj=>(R j hj).keep λa c b e=>S13 _ _ e,D3,(S.trans S12).none hrd,off,apt,⟨by show(0:Int)<=5;decide,cr.1,oc,by show(4294967295:Int)<4294967296;decide⟩,mok,osm⟩,S3 _ _ Yo,(S.trans S1).none hy,⟨S3 _ _ (S2 _ _ W1.1),S3 _ _ (S2 _ _ W1.2)⟩,S.none hw,S.none hb,⟨S3 _ _ Rp.1,S3 _ _ Rp.2,Rp.3⟩,(S.trans S1).none hr,λj hj=>?_,by decide,by decide,rfl,rfl,Nc _,small⟩;have hsome:=bO ((R j hj).keep (J':=J1) λa c b e=>S1 _ _ e);exact⟨λz=>hsome.1 (by rw[z];exact hq),λz=>hsome.2 (by rw[z];exact hq)⟩
 lk;intro t ht;have L0:=L.sup (Wu ht (.tup [.ref y,.ref r,.bytes #[] 0]));refine dO ?_ (aa _ _ _) rfl;generalize Internal.upd J3 t _=J4 at*;lk;refine eL (xs:=as.map MK) (λv' b b=>[(Ko,.ref y),(427070612850,.ref r),(Kn,.bytes tx 0),(JJ,.bytes (tx.toList.take v'.pl.toNat).toArray 0)]) (λj v' x' q' J'=>j<=ps.length/\PR H J' A B r o y wi rb rp q' tx x' (tx.toList.take v'.pl.toNat) v'/\oO tx v' (ps.drop j)/\ay o x' (aC B tx v' (ps.drop j))/\ak o x' (aC B tx v' (ps.drop j))=ak o (cX o,C) (aC B tx v0 ps)/\
  bu tx v' (ps.drop j)=(bu tx v0 ps).drop j/\bR v' (ps.drop j)=bR v0 ps) v0 (cX o,C) q ⟨Nc _,by exact L0,V,F,rfl,rfl,rfl⟩ (by rfl) ?_ ?_ ?_
 ·exact λb b b b b I0=>I0.2.1.1.1 _ _ z12.1
 ·intro j u v' x' q' J' Q' hu z8 hnext _;have V':=z8.2.2.1;have F':=z8.2.2.2.1;have e:=z8.2.2.2.2.1;have ed:=z8.2.2.2.2.2.1;have en:=z8.2.2.2.2.2.2;have hlt:j<ps.length:=by have:=(ML.mp hu).1;rw[Mu] at this;exact ao 0x422840003d28282152168954140f [] [_,_,_] hal this
  rw[Oh hlt] at V' F' e ed en;generalize ps[j]=p at*;have hd:(bu tx v0 ps)[j]?=Md (io tx v' p):=by
   have:((bu tx v0 ps).drop j)[0]?=Md (io tx v' p):=by rw[<-ed];rfl
   rw[QE,VB] at this;exact this
  refine ae (z12.2.2 j _ hd) λa z5=>?_;rw[MM,z5.1] at hu;obtain rfl:MK a=u:=MJ hu;obtain z4:=aY.mp F';rw[show aC B tx v' (p::ps.drop (j+1))=gw B tx v' p++aC B tx (bc v' p) (ps.drop (j+1)) from rfl,bx] at e;have Yy:=z8.2.1.2;lk;refine(pd (n:=n-1) G (lp hn rfl) z8.2.1 M p V'.1 z4.1).aau λJ5 t q2 ht L5=>?_;refine eG (kD (Fq [(Ko,.ref y),(427070612850,.ref r),(Kn,.bytes tx 0),(JJ,.bytes (tx.toList.take v'.pl.toNat).toArray 0),(Lh,.ref t)] J5 ?_ ?_));·intro Q' hQ _;lk;refine iB (r:=Mj) (.same (xP ht (L5.1.1 _ _ z5.2) (s5 tx v' p))) rfl ?_;lk;exact hQ rfl
  ·clear Yy;have Yy:=L5.2;have L6:=L5.WU ht;lk;refine(zH (n:=n-1) (v:=v') (p:=p) G (lp hn rfl) L6 (tu rfl ht) V'.1).Ws λJ7 L7=>?_;have L8:=L5.abj L7;have hp:=z8.2.1.12;have hsz:(tx.toList.take v'.pl.toNat).length<=254/\∀c,((tx.toList.drop (tx.toList.take v'.pl.toNat).length).take c).length<=254:=by have:tx.toList.length=tx.size:=NC;refine⟨by rw[OJ];exact aS 0x108e10c200029941310a90b44bf8508c63f841316 [] [_,_,_] small this (TV _ _),λc=>?_⟩;rw[OJ,Po];exact iX 0x42484708610001a6a09884b42b13a90b44bf8508c63f841316 [] [_,_,_,_] small this (V9 _ _) (TV _ _)
   lk;refine CN ?_ (by rw[Oj,Oj];have:=hsz.1;have:=hsz.2 (sK p).toNat;lia);lk;have hol:=yH V'.1;have el:(tx.toList.take v'.pl.toNat).length+(sK p).toNat=(bc v' p).pl.toNat:=by rw[wy];exact aS 0x109211c20002984b08a108014cc172e421f9ae3a14bc141f2a8267d1d [_,_] [_,_,_] hp (MF hol) (MF (ao 0x2184228420053204075e0a0f982c0818 [_,_] [_] hp hol))
   rw[el] at L8;refine hnext (bc v' p) _ q2 ⟨hlt,L8,V'.2,z4.2,e,?_,en⟩ ?_;rotate_left;·show Wk _ [_,_,_,(JJ,.bytes (tx.toList.take (bc v' p).pl.toNat).toArray 0)];rw[List.append_toArray,<-el,List.take_add];have:v'.pl.toNat=(tx.toList.take v'.pl.toNat).length:=ao 0x423842003d08a10000f6e2a0faf0508d4150f [_] [_,_] hp (MF (af KN [_] [_] hp));rw[<-this];rfl
   ·rw[show(bu tx v0 ps).drop (j+1)=((bu tx v0 ps).drop j).drop 1 from List.drop_drop.symm,<-ed];rfl
 ·intro v' x' q' J' z3;have e:=z3.2.2.2.2.1;have en:=z3.2.2.2.2.2.2;rw[Mu,hal,TU] at e en;have e1:x'=ak o (cX o,C) (aC B tx v0 ps):=e;have e2:v'=bR v0 ps:=en;rw[<-e1] at f1 f2 ⊢;rw[<-e2] at f3;have et:tx.toList.take v'.pl.toNat=tx.toList:=PM (by rw[f3,MO,NC];exact MD _);rw[et];refine DD (Dy (.bool Mj) [] J' ?_ ?_);·intro Q' hQ;lk;rw[RN];refine iB (r:=Mj) iE rfl ?_;have Rr:=z3.2.1.1.3.1;lk;refine((ww (n:=n-1) G (lp hn rfl) z3.2.1.1.3 f1)).k01 ?_;lk;refine((zN (n:=n-1) G (lp hn rfl) z3.2.1.1.3)).k01 ?_;rw[f2,Int.sub_self];refine aA (iB (r:=Mj) .int rfl ?_);·lk;exact hQ rfl
  ·lk;exact⟨rfl,z3.2.1.1.1,z3.2.1.1.2,z3.2.1.1.8⟩
variable{l:List Ev}
section
open PySem
inductive bi(l:List Ev):Prop where
 |mk(all:∀v∈l,yZ v)
theorem bi.nil:bi []:=⟨λa h=>by cases h⟩
theorem bi.cons{v:Ev}(h:yZ v)(k:bi l):bi (v::l):=⟨λu hu=>by
 refine Pl (MT.mp hu) (λzz=>?_) (λq=>?_);rw[zz];·exact h
 ·exact k.1 u q⟩
theorem bi.app{l':List Ev}(h:bi l)(k:bi l'):bi (l++l'):=⟨λu hu=>by
 rcases Oq.mp hu with q|q;·exact h.1 u q
 ·exact k.1 u q⟩
theorem fc(j:Nat)(s:Int):∀(c:Nat)(n v:Int),bi (az j s c n v)
 |0,_,_=>bi.nil
 |c+1,n,v=>.cons (ct _) (fc j s c _ v)
theorem sH(j:Nat)(s:Int):∀(c:Nat)(n v:Int),bi (dr j s c n v)
 |0,_,_=>bi.nil
 |c+1,n,v=>.cons (ct _) (sH j s c _ _)
theorem wG:∀(c:Nat)(v:Int),bi (dJ c v)
 |0,_=>bi.nil
 |c+1,v=>.cons (ct _) (wG c v)
theorem vP(j:Nat)(r l:Int):bi (cq j r l):=by
 unfold cq;split;·exact .cons (.inl rfl) (fc ..)
 ·refine .cons (.inr rfl) ?_;split;·exact .cons (.inl rfl) (fc ..)
  ·exact .cons (.inr rfl) (fc ..)
theorem zh(d l:Int):bi (bS d l):=by
 unfold bS;refine(fc ..).app ?_;split;·exact bi.nil
 ·split;·exact sH ..
  ·exact(wG ..).app (sH ..)
theorem yh(s:Int):∀(c:Nat)(n o m:Int),bi (bY s c n o m)
 |0,_,_,_=>bi.nil
 |c+1,n,o,m=>by
  rw[fE];refine .cons (ct _) ?_;split;·exact yh s c _ _ _
  ·exact fc ..
theorem Bs(B:MA)(a b c d e:Int):bi (B.Xq a b c d e):=by
 unfold MA.Xq;refine .cons (.inl rfl) ?_;split;·exact fc ..
 ·exact yh ..
theorem ql(B:MA)(a b c d:Int):bi (B.WW a b c d):=.cons (.inr rfl) (.cons (.inl rfl) ((vP ..).app (zh ..)))
theorem yS(B:MA)(a b:Int)(hi:i<=3)(c:Int):bi (B.XZ a b i c):=by
 refine .cons (.inr rfl) (.cons (.inr rfl) (bi.app ?_ (vP ..)));unfold MA.Xg;split;·exact .cons (.inl rfl) (.cons (.inr rfl) .nil)
 ·refine .cons (.inr rfl) ?_;split;·exact .cons (.inl rfl) .nil
  ·refine .cons (.inr rfl) (.cons ?_ .nil);show(i:Int)-2=0∨(i:Int)-2=1;lia
theorem xF(B:MA)(a b:Int):bi (B.Xu a b):=.cons (.inr rfl) (.cons (.inr rfl) (.cons (.inl rfl) (.cons (.inl rfl) .nil)))
theorem yX(B:MA)(V:iT tx v p):bi (gw B tx v p):=by
 induction p with
 |none=>exact ql ..
 |some p=>
  induction p with
  |lit=>exact Bs ..
  |mat d sz=>exact ql ..
  |rep i sz=>exact yS B _ _ (V.4 i sz rfl).1 _
  |short=>exact xF ..
theorem xn(B:MA){tx:Array UInt8}:∀(ps:List (Option aI))(v:LS),oO tx v ps->bi (aC B tx v ps)
 |[],_,_=>.nil
 |p::r,v,V=>(yX B V.1).app (xn B r _ V.2)
noncomputable def full(ps:List aI)(marked:Bool):List (Option aI):=ps.map Md++if marked then[Mr] else[]
theorem tZ{tx:Array UInt8}{marked:Bool}:∀(ps:List aI)(v:LS),aW tx v ps->oO tx v (full ps marked)
 |[],v,_=>by cases marked;exact trivial;exact⟨trivial,trivial⟩
 |p::r,v,V=>⟨V.1,tZ r _ V.2⟩
theorem mQ(B:MA)(tx:Array UInt8):∀(ps:List aI)(s:CS)(v:LS),(f7 B tx s v ps).1=ah s (aC B tx v (ps.map Md))
 |[],_,_=>rfl
 |p::r,s,v=>by show(f7 B tx (ah s (p.evs B tx v)) (p.next v) r).1=ah s (p.evs B tx v++aC B tx (p.next v) (r.map Md));rw[mQ B tx r,bw]
theorem qn(B:MA)(tx:Array UInt8)(q:List (Option aI)):∀(ps:List (Option aI))(v:LS),aC B tx v (ps++q)=aC B tx v ps++aC B tx (bR v ps) q
 |[],_=>rfl
 |p::r,v=>by show gw B tx v p++aC B tx (bc v p) (r++q)=(gw B tx v p++aC B tx (bc v p) r)++_;rw[qn B tx q r,NJ];rfl
theorem m3(q:List (Option aI)):∀(ps:List (Option aI))(v:LS),bR v (ps++q)=bR (bR v ps) q
 |[],_=>rfl
 |p::r,v=>m3 q r (bc v p)
theorem o7(B:MA)(tx:Array UInt8):∀(ps:List aI)(s:CS)(v:LS),(f7 B tx s v ps).2=bR v (ps.map Md)
 |[],_,_=>rfl
 |p::r,s,v=>o7 B tx r (ah s (p.evs B tx v)) (p.next v)
theorem mM(B:MA)(tx:Array UInt8)(C:Nat->Int->Int)(ps:List aI)(marked:Bool):fH B tx C ps marked=ah (ES.init,C) (aC B tx v0 (full ps marked)):=by
 unfold fH full;induction marked with
 |false=>rw[if_neg (by decide),mQ];show _=ah _ (aC B tx v0 (ps.map Md++[]));rw[NG]
 |true=>rw[if_pos rfl,mQ,o7,if_pos rfl,qn];refine Eq.trans ?_ (bw ..).symm;show _=ah _ (gw B tx (bR v0 (ps.map Md)) Mr++[]);rw[NG];rfl
theorem Aa:(bR v (full ps marked)).pl=(bR v (ps.map Md)).pl:=by unfold full;rw[m3];cases marked<;>rfl
theorem oy(tx:Array UInt8)(q:List (Option aI)):∀(ps:List (Option aI))(v:LS),bu tx v (ps++q)=bu tx v ps++bu tx (bR v ps) q
 |[],_=>rfl
 |p::r,v=>by show io tx v p::bu tx (bc v p) (r++q)=(io tx v p::bu tx (bc v p) r)++_;rw[oy tx q r];rfl
theorem nU(tx:Array UInt8)(ps:List aI)(marked:Bool)(v:LS):bu tx v (full ps marked)=bu tx v (ps.map Md)++if marked then[[.str "end" 0]] else[]:=by unfold full;rw[oy];cases marked<;>rfl
theorem zv:oC λa a=>1024:=λa a=>⟨by dsimp only;exact Mt _,by dsimp only;exact Mt _⟩
end
noncomputable def W0(len:Nat)(f:Int->Int):List Value:=(Oi len).map λk:Nat=>.int (f k) 0
theorem pX{len:Nat}(hl:xs.length=len)(h:∀k:Nat,k<len->xs[k]?=Md (.int (f k) 0)):xs=W0 len f:=by
 refine Th λk=>?_;unfold W0;rw[MM];by_cases hk:k<len;·rw[h k hk,Nv hk];rfl
 ·rw[M0 (by exact ao Ls [] [_,_,_] hl hk),M0 (by rw[NK];exact Rf hk)];rfl
theorem bN(len:Nat)(f:Int->Int):(W0 len f).length=len:=by unfold W0;rw[Mu,NK]
theorem wZ{len:Nat}(h:k<len):(W0 len f)[k]?=Md (.int (f k) 0):=by unfold W0;rw[MM,Nv h];rfl
section
variable{st:List Me}{k body:T}
theorem ot{v:Me}(h:J a=Md (.tup [u,v]))(q:∀Q',(∀{E' J'},J' a=Md (.tup [u,v])->(∀Q'',(∀{E'' J''},J'' a=Md (.tup [u,v])->X Z n Q K J'' E'' st k->XN Q'' J'' E'')->X Z n Q'' [] J' E' [v] body)->XN Q' J' E')->X Z n Q' [] J E [u] body):X Z n Q K J E (.ref a::st) (.WA .seq body k):=λρ hr=>by
 have at':∀{J':Sg}(j:Nat),J' a=Md (.tup [u,v])->rS qX a j J'=Md (([u,v][j]?).map λv=>[v]):=λj e=>by unfold rS;rw[e];rfl
 exact⟨st,rS qX a,3,⟨rfl,.inr ⟨⟨_,h⟩,rfl⟩⟩,.inr ⟨[u],at' 0 h,q _ (λh' q2 ρ' hr'=>.inr ⟨[v],at' 1 h',q2 _ (λh'' e ρ'' hr''=>.inl ⟨at' 2 h'',e ρ'' hr''⟩) ρ' hr'⟩) ρ hr⟩⟩
end
theorem jt(G:Good Z Kg)(hn:2<=n){c:Nat}:ac Z n (.ref 159) [.int c 0] J (λu J'=>bM λr d=>u=.ref r/\J r=Mr/\J d=Mr/\Sub J J'/\Row J' r d c (λa=>1024)):=by
 refine bA G (lq hn rfl) js λx hx=>?_;refine run G (Ow hn) ?_;lk;refine xw λz hz=>?_;have hxz:x≠z:=λe=>by rw[<-e,aa] at hz;cases hz
 have hzx:=hxz.symm;have hσz:J z=none:=by rw[ag _ _ hzx] at hz;exact hz
 lk;refine⟨rfl,x,z,rfl,hx,hσz,((Sub.rfl.upd hx _).upd hσz _).upd hx _,.inr ⟨aa _ _ _,[],(ag _ _ hzx).trans (aa _ _ _),λa a a=>rfl,λa h=>absurd h TP,UB⟩⟩
theorem tY{c:Nat}(h:J r=Md (.list (M9 c (.int 1024 0)))):Row J r r c (λa=>1024):=
 .inl ⟨rfl,_,h,NX,λk hk=>by rw[QQ,if_pos hk]⟩
theorem qD(G:Good Z Kg)(hn:3<=n){c:Nat}:ac Z n (.ref 170) [.int c 0] J (λu J'=>bM λr d=>u=.ref r/\J r=Mr/\J d=Mr/\Sub J J'/\Row J' r d c (λa=>1024)):=by
 refine run G (lq hn rfl) ?_;lk;refine vW (λh=>?_) (λh=>?_);·lk;intro x hx;lk;refine ka (aa _ _ _) (af 0x84000270c0004e00b8a0630d402e28b8107f3a [] [_] h) λz hz=>?_;rw[MO];have T:=Wu hx (.list [.int 1024 0]);lk;exact⟨z,z,rfl,T.none hz,T.none hz,T.trans (Wu hz _),tY (aa _ _ _)⟩
 ·lk;refine(jt (n:=n-1) G (lp hn rfl)).aab λJ2 r d h1 h2 S R=>?_;lk;exact⟨r,d,rfl,h1,h2,S,R⟩
theorem Row.isi{d:Ml}{len:Nat}(R:Row J r d len f):(fT J (.ref r) (.ref 159) Mj/\J r=Md (.Wv 159 [(I9,.int len 0),(Ly,.ref d)])/\∃m,J d=Md (.W9 m)/\fq m len f)∨(fT J (.ref r) (.ref 159) Mh/\d=r/\J r=Md (.list (W0 len f))):=by
 rcases R with⟨h,xs,e,hl,hx⟩|⟨e,m,em,hm⟩;·exact .inr ⟨.aba e rfl,h,by rw[<-pX hl hx];exact e⟩
 ·exact .inl ⟨.Wv e,e,m,em,hm⟩
theorem pw(G:Good Z Kg)(hn:3<=n){d:Ml}{len:Nat}(R:Row J r d len f)(hl:len<=100000):ac Z n (.ref 1134) [.ref r] J (λu J'=>bM λr d=>u=.ref r/\J r=Mr/\J d=Mr/\Sub J J'/\Row J' r d len (λa=>1024)):=by
 refine run G (lq hn rfl) ?_;lk;rcases R.isi with⟨hi,_⟩|⟨hi,_⟩
 ·refine iy (r:=Mj) ?_ hi;lk;intro x hx;have T:=Wu hx (.list [.int 1024 0]);lk;refine(R.sub T).len G (lp hn rfl) (kI hl rfl) ?_;refine ka (aa _ _ _) (af K3 [] [_] hl) λz hz=>?_;rw[MO];lk;exact⟨z,z,rfl,T.none hz,T.none hz,T.trans (Wu hz _),tY (aa _ _ _)⟩
 ·refine iy (r:=Mh) ?_ hi;lk;refine R.len G (lp hn rfl) (kI hl rfl) ?_;lk;refine(jt (n:=n-1) G (lp hn rfl)).aab λJ2 r d h1 h2 S R=>?_;lk;exact⟨r,d,rfl,h1,h2,S,R⟩
theorem nq{m:List (Int×Me)}{len:Nat}(h:fq m len f)(hk:k<len)(hn:∀p∈m,p.1≠k):f k=1024:=by have:=h.1 k (Mt _) (nF hk);rw[Vh.mpr (λp hp=>by simpa using hn p hp)] at this;simp at this;exact this.symm
theorem gI(G:Good Z Kg)(hn:3<=n){d:Ml}{len:Nat}(R:Row J r d len f)(hl:len<=100000):ac Z n (.ref 1148) [.ref r] J (λu J'=>∃x,u=.ref x/\J x=Mr/\Sub J J'/\J' x=Md (.list (W0 len f))):=by
 refine run G (lq hn rfl) ?_;lk;rcases R.isi with⟨hi,he,m,hm,D⟩|⟨hi,_,he⟩
 ·refine iy (r:=Mj) ?_ hi;lk;intro x hx;have T:=Wu hx (.list [.int 1024 0]);lk;refine(R.sub T).len G (lp hn rfl) (kI hl rfl) ?_;refine ka (aa _ _ _) (af K3 [] [_] hl) λz hz=>?_;rw[MO];have T2:=T.trans (Wu hz (.list (M9 len (.int 1024 0))));have hσz:=T.none hz;have he2:=T2 _ _ he;lk;refine Bk (m:=m) (λl ρ J'=>ρ=[(Jr,.ref r),(JX,.ref z)]/\Sub J J'/\bM λpre xs=>m=pre++l/\J' z=Md (.list xs)/\xs.length=len/\∀k:Nat,k<len->xs[k]?=Md (.int (if ∃p,And (p∈pre) (p.1=k) then f k else 1024) 0)) ?_ ?_ ?_ ?_;·refine⟨_,⟨rfl,T2,[],_,rfl,aa _ _ _,NX,λk hk=>?_⟩,rfl⟩;rw[QQ,if_pos hk,if_neg (by rintro⟨p,hp,_⟩;cases hp)]
  ·intro l ρ J' r1;exact r1.2.1 _ _ hm
  ·intro p l ρ J' Q' I0 hnext;rw[I0.1];refine bI I0.2.2 λpre xs z2=>?_;have hk:=D.2 p (by rw[z2.1];exact Uq _ (MU ..));have Rs:=R.sub I0.2.1;lk;refine Rs.idx G (lp hn rfl) hk.1 hk.2 (kI hl rfl) ?_;lk;refine Y8 z2.2.1 hk.1 (ao 0x108e10800f578260417c96a0a87de090f [_] [_,_] z2.2.2.1 hk) (ur z2.2.2.1 hl rfl) ?_;lk;refine hnext ⟨_,⟨rfl,I0.2.1.upd hσz _,pre++[p],_,by rw[z2.1,NJ];rfl,aa _ _ _,by rw[List.length_set];exact z2.2.2.1,λk hk'=>?_⟩,rfl⟩;rw[Vy];by_cases hpk:p.1=k;·rw[if_pos (by exact aS 0x211421001e847080007b71507de080faf0508d4150f [_] [_,_] hpk (Ni _) (MF (af 0x1080004ef04c082f91c080b [_] [_] hk))),if_pos (by exact aS 0x42484708400a771507cbc13020be4d2a128954140f [_] [_,_,_] z2.2.2.1 hk (MF (af 0x1080004ef04c082f91c080b [_] [_] hk))),if_pos ⟨p,Uq _ (MN.mpr rfl),hpk⟩,hpk]
   ·rw[if_neg (by have:=hk.1;lia),z2.2.2.2 k hk'];have:(∃q,And (q∈pre++[p]) (q.1=(k:Int)))↔∃q,And (q∈pre) (q.1=(k:Int)):=⟨λ⟨q,hq,e⟩=>by
     rcases Oq.mp hq with hq|hq;·exact⟨q,hq,e⟩
     ·rw[MN.mp hq] at e;exact absurd e hpk,λ⟨q,hq,e⟩=>⟨q,List.mem_append_left _ hq,e⟩⟩
    simp only[this]
  ·intro E J' I0;rw[I0.1];refine bI I0.2.2 λpre xs z1=>?_;have hmp:=z1.1;rw[NG] at hmp;subst hmp;lk;refine⟨z,rfl,hσz,I0.2.1,?_⟩;refine(z1.2.1).trans (congrArg (Md<|Cell.list ·) (pX z1.2.2.1 (f:=f) λk hk=>?_))
   ·rw[z1.2.2.2 k hk];by_cases h:∃p,And (p∈m) (p.1=(k:Int));·rw[if_pos h]
    ·rw[if_neg h,nq D hk λp hp e=>h ⟨p,hp,e⟩]
 ·refine iy (r:=Mh) ?_ hi;lk;refine xl he (by rw[bN];exact hl) λx hx=>?_;lk;exact⟨x,rfl,hx,Wu hx _,aa _ _ _⟩
inductive NR(J0 J:Sg)(rs:List (Ml×Ml×Nat)):Prop where
 |mk (row:∀e∈rs,Row J e.1 e.2.1 e.2.2 (λa=>1024))
  (new:∀e∈rs,J0 e.1=Mr/\J0 e.2.1=Mr)
  (apart:rs.Pairwise λe f=>e.1≠f.1/\e.1≠f.2.1/\e.2.1≠f.1/\e.2.1≠f.2.1)
inductive Ch(P:Ml->Prop)(J J':Sg):Prop where
 |mk (keep:∀a c,¬P a->J a=Md c->J' a=Md c)
  (dom:∀a,J' a=Mr->J a=Mr)
theorem Ch.of(S:Sub J J'):Ch P J J':=⟨λa c b=>S a c,λb=>S.none⟩
theorem Ch.trans{J'':Sg}(h:Ch P J J')(h':Ch P J' J''):Ch P J J'':=⟨λa c p e=>h'.1 a c p (h.1 a c p e),λa e=>h.2 a (h'.2 a e)⟩
theorem Ch.Wr{Q:Ml->Prop}(h:Ch P J J')(q:∀a,P a->Q a):Ch Q J J':=⟨λa c p e=>h.1 a c (λz=>p (q a z)) e,h.2⟩
theorem Ch.upd(J:Sg)(h:P a)(c:Cell):Ch P J (upd J a c):=⟨λb d p e=>(ag _ _ (λz=>p (by rw[z];exact h))).trans e,λb e=>by
 unfold Internal.upd at e;split at e;·cases e
 ·exact e⟩
theorem Ch.sub(C:Ch P J J')(S:Sub H J)(hP:∀a,P a->H a=Mr):Sub H J':=λa c e=>C.1 a c (λh=>by rw[hP a h] at e;cases e) (S a c e)
theorem NR.nil(J0 J:Sg):NR J0 J []:=⟨nofun,nofun,.nil⟩
variable{rs:List (Ml×Ml×Nat)}{J0:Sg}
theorem NR.ch(N:NR J0 J rs)(C:Ch P J J')(hP:∀a,P a->J0 a≠Mr):NR J0 J' rs:=
 ⟨λe he=>(N.1 e he).keep λa c h e'=>C.1 a c (λp=>hP a p (by
  rcases h with rfl|rfl;·exact(N.2 e he).1
  ·exact(N.2 e he).2)) e',N.2,N.3⟩
theorem NR.Y4(N:NR J0 J rs)(D:∀a,J a=Mr->J0 a=Mr)(S:Sub J J'){d:Ml}{len:Nat}(R:Row J' r d len (λb=>1024))(hr:J r=Mr)(hd:J d=Mr):NR J0 J' (rs++[(r,d,len)]):=by
 refine⟨λe he=>?_,λe he=>?_,?_⟩
 ·rcases Oq.mp he with he|he;·exact(N.1 e he).sub S
  ·rw[MN.mp he];exact R
 ·rcases Oq.mp he with he|he;·exact N.2 e he
  ·rw[MN.mp he];exact⟨D _ hr,D _ hd⟩
 ·rw[List.pairwise_append];refine⟨N.3,List.pairwise_singleton ..,λe he f hf=>?_⟩;rw[MN.mp hf];obtain z3:=bO (N.1 e he);exact⟨λz=>z3.1 (by rw[z];exact hr),λz=>z3.1 (by rw[z];exact hd),λz=>z3.2 (by rw[z];exact hr),λz=>z3.2 (by rw[z];exact hd)⟩
inductive qa(P:Ml->Prop)(J0 J:Sg)(a:Ml)(c:Cell)(rs:List (Ml×Ml×Nat)):Prop where
 |mk (o:J a=Md c)
  (nr:NR J0 J rs)
  (ch:Ch P J0 J)
  (pa:P a)
  (hP:∀b,P b->J0 b≠Mr)
variable{v:Int}{x:Nat}
section
variable{d:Ml}{c c':Cell}{len:Nat}{t:T}{st:List Me}
theorem qa.add(Y:qa P J0 J a c rs)(hr:J r=Mr)(hd:J d=Mr)(S:Sub J J')(R:Row J' r d len (λb=>1024))(c':Cell):qa P J0 (upd J' a c') a c' (rs++[(r,d,len)]):=
 ⟨aa _ _ _,(Y.2.Y4 Y.3.2 S R hr hd).ch (Ch.upd (P:=P) J' Y.4 c') Y.5,Y.3.trans ((Ch.of S).trans (Ch.upd J' Y.4 c')),Y.4,Y.5⟩
theorem qa.put(Y:qa P J0 J a c rs)(S:Sub J J')(c':Cell):qa P J0 (upd J' a c') a c' rs:=
 ⟨aa _ _ _,(Y.2.ch (Ch.of (P:=P) S) Y.5).ch (Ch.upd (P:=P) J' Y.4 c') Y.5,Y.3.trans ((Ch.of S).trans (Ch.upd J' Y.4 c')),Y.4,Y.5⟩
theorem Ch.put(S:Sub J J')(a:Ml)(c':Cell):Ch (λb=>b=a) J (Internal.upd J' a c'):=(Ch.of S).trans (Ch.upd (P:=λb=>b=a) J' rfl _)
theorem lA(G:Good Z Kg)(hn:3<=n)(Y:qa P J0 J a c rs)(hρ:gf E x=Md (.ref a))(hc:AQ c k=Mj)(hv:v=(len:Nat))(q:∀J' r d,qa P J0 J' a (X4 c k (.ref r)) (rs++[(r,d,len)])->Ch (λb=>b=a) J J'->X Z n Q K J' E st t):ac Z n (.ref 170) [.int v 0] J λu J'=>X Z n Q K J' E (u::st) (.ld x (.XD k t)):=by subst hv;refine(qD G hn).Wr (MD _) ?_;intro _ τ r4;refine bI r4 λr d z2=>?_;rw[z2.1];exact jP (gV (z2.2.2.2.1 _ _ Y.1) hc rfl (q _ _ _ (Y.add z2.2.1 z2.2.2.1 z2.2.2.2.1 z2.2.2.2.2 _) (Ch.put z2.2.2.2.1 _ _))) hρ
theorem bC(Y:qa P J0 J a c rs)(hρ:gf E x=Md (.ref a))(hc:AQ c k=Mj)(q:∀J' v,qa P J0 J' a (X4 c k v) rs->Ch (λb=>b=a) J J'->X Z n Q K J' E st t):∀y,J y=Mr->X Z n Q K (upd J y (.list [])) E (.ref y::st) (.ld x (.XD k t)):=
 λd hy=>jP (gV (Wu hy _ _ _ Y.1) hc rfl (q _ _ (Y.put (Wu hy _) _) (Ch.put (Wu hy _) _ _))) hρ
theorem th(Y:qa P J0 J a c rs)(S:Sub J J')(hρ:gf E x=Md (.ref a))(hc:AQ c k=Mj){v:Me}(hv:iO v=Mj)(q:∀τ,qa P J0 τ a (X4 c k v) rs->(∀b d,b≠a->J' b=Md d->τ b=Md d)->X Z n Q K τ E st t):X Z n Q K J' E (v::st) (.ld x (.XD k t)):=
 jP (gV (S _ _ Y.1) hc hv (q _ (Y.put S _) λf f h e=>(ag _ _ h).trans e)) hρ
end
noncomputable def Yw(rs:List (Ml×Ml×Nat)):Rows:=⟨λj=>(rs.getD j (0,0,0)).1,λj=>(rs.getD j (0,0,0)).2.1,λj=>(rs.getD j (0,0,0)).2.2⟩
theorem NR.rows(N:NR J0 J rs)(hl:rs.length=18)(hs:∀e∈rs,e.2.2<1000000):aD J (Yw rs) (λa a=>1024)/\(Yw rs).Apt/\∀j,j<18->J0 ((Yw rs).ra j)=Mr/\J0 ((Yw rs).da j)=none:=by
 have g:∀j,(h:j<18)->rs.getD j (0,0,0)=rs[j]:=λj h=>by rw[Mx,MH (by exact ao KS [] [_,_] hl h)];rfl
 have ap:∀i j,i<18->j<18->i≠j->(rs.getD i (0,0,0)).1≠(rs.getD j (0,0,0)).1/\(rs.getD i (0,0,0)).1≠(rs.getD j (0,0,0)).2.1/\(rs.getD i (0,0,0)).2.1≠(rs.getD j (0,0,0)).1/\(rs.getD i (0,0,0)).2.1≠(rs.getD j (0,0,0)).2.1:=λi j hi hj hij=>by
  rw[g i hi,g j hj];have h:=List.pairwise_iff_getElem.mp N.3;rcases SU hij with q|q
  ·exact h i j (ao KS [] [_,_] hl hi) (ao KS [] [_,_] hl hj) q
  ·obtain z1:=h j i (aS 0x42384508400a65050424242c1690a128ad4140f [] [_,_,_] hl hi q) (ao KS [] [_,_] hl hi) q;exact⟨z1.1.symm,z1.2.2.1.symm,z1.2.1.symm,z1.2.2.2.symm⟩
 have mem:∀j,j<18->rs.getD j (0,0,0)∈rs:=λj h=>by rw[g j h];exact TX _
 refine⟨λj hj=>N.1 _ (mem j hj),⟨λi j hi hj h=>(ap i j hi hj h).1,λi j hi hj h=>(ap i j hi hj h).2.1,λi j hi hj h=>(ap i j hi hj h).2.2.2,λj=>?_⟩,λj hj=>N.2 _ (mem j hj)⟩;show(rs.getD j (0,0,0)).2.2<1000000;by_cases h:j<18;·exact hs _ (mem j h)
 ·rw[Mx,M0 (by exact ao 0x845080007a42849862420a89d4130f [] [_,_] hl h)];decide
noncomputable def rv(rs:List (Ml×Ml×Nat))(j:Nat):Value:=.ref (rs.getD j (0,0,0)).1
variable{w:Nat->Me}
theorem i6(G:Good Z Kg)(hn:4<=n){l:Ml}{o:Nat}(Y:qa P J0 J l (sr pb w o) rs):ac Z n (.ref 290) [.ref l] J (λu J'=>u=.none/\yt λe0 e1 e2 e3=>List.map (·.2.2) [e0,e1,e2,e3]=[2,8*2^pb,8*2^pb,256]/\qa P J0 J' l (sr pb (rv [e0,e1,e2,e3]) 0) (rs++[e0]++[e1]++[e2]++[e3])/\Ch (λa=>a=l) J J'):=by
 have e8:(8:Int)*2^pb=((8*2^pb:Nat):Int):=by simp
 refine run G (lq hn rfl) ?_;lk;refine lA G (lp hn rfl) Y rfl rfl rfl λJ1 r0 d0 Y C1=>?_;have h:=Y.1;lk;refine lA G (lp hn rfl) Y rfl rfl e8 λJ2 r1 d1 Y C2=>?_;have h:=Y.1;lk;refine lA G (lp hn rfl) Y rfl rfl e8 λJ3 r2 d2 Y C3=>?_;lk;refine lA G (lp hn rfl) Y rfl rfl rfl λJ4 r3 d3 Y C4=>?_;lk;exact⟨rfl,(r0,d0,2),(r1,d1,8*2^pb),(r2,d2,8*2^pb),(r3,d3,256),rfl,Y,((C1.trans C2).trans C3).trans C4⟩
inductive MB(J:Sg)(B:MA)(w:Nat->Me):Prop where
 |mk (m:J B.m=Md (Db B w))
  (p:J B.p=Md (yy B.lc B.lp B.pb))
  (l1:J B.l1=Md (sr B.pb w 10))
  (l2:J B.l2=Md (sr B.pb w 14))
  (ne:B.l1≠B.l2)
  (lc:B.lc<=1)
  (lp:B.lp<=1)
  (pb:B.pb<=4)
theorem aj.mb(M:aj H A B)(h:B.l1≠B.l2):MB H B (wa A):=⟨M.1,M.2,M.3,M.4,h,M.5,M.6,M.7⟩
noncomputable def W6(B:MA):Ml->Prop:=λa=>a=B.m∨a=B.l1∨a=B.l2
inductive vC(J J':Sg)(B:MA)(A:Rows):Prop where
 |mk(mod:aj J' A B)
  (rows:aD J' A (λa a=>1024))
  (apt:A.Apt)
  (new:∀j,j<18->J (A.ra j)=Mr/\J (A.da j)=Mr)
  (ch:Ch (W6 B) J J')
theorem m5(a1:B.lc<=1)(a2:B.lp<=1)(a3:B.pb<=4):∀x∈WM B,x<100000:=by
 have h1:2^(B.lc+B.lp)<=2^2:=Ph (by decide) (Nat.add_le_add a1 a2);have h2:2^B.pb<=2^4:=Ph (by decide) a3;have h3:=U3 768 h1;have h4:=U3 8 h2;have h:(WM B).all (λx=>M3 (x<100000))=true:=by unfold WM;simp only[Rv,List.all_nil,Bool.and_true,Of,decide_eq_true_eq];have h3:=kI h3 (c:=100000) rfl;have h4:=kI h4 (c:=100000) rfl;exact⟨by decide,by decide,by decide,by decide,by decide,by decide,by decide,by decide,by decide,h3,by decide,h4,h4,by decide,by decide,h4,h4,by decide⟩
 exact λx hx=>of_decide_eq_true (NU.mp h x hx)
noncomputable def gp(i:Nat):Nat:=if i<10 then 0 else if i<14 then 1 else 2
noncomputable def obj(B:MA):Nat->Ml|0=>B.m|1=>B.l1|_=>B.l2
noncomputable def yn(B:MA)(v:Nat->Me):Nat->Cell|0=>Db B v|1=>sr B.pb v 10|_=>sr B.pb v 14
noncomputable def H8:List Nat:=[LV,Jh,Ji,Jk,Jl,Jj,Jp,Jq,Mc,ID,LF,LD,7170404,Lu,LF,LD,7170404,Lu]
noncomputable def nm(i:Nat):Nat:=H8.getD i 0
theorem td{p:Nat->Prop}(h0:p 0)(h1:p 1)(h2:p 2)(h3:p 3)(h4:p 4)(h5:p 5)(h6:p 6)(h7:p 7)(h8:p 8)(h9:p 9)(h10:p 10)(h11:p 11)(h12:p 12)(h13:p 13)(h14:p 14)(h15:p 15)(h16:p 16)(h17:p 17):∀i,i<18->p i:=
 co (co (co (co (co (co (co (co (co (co (co (co (co (co (co (co (co (co uT h0) h1) h2) h3) h4) h5) h6) h7) h8) h9) h10) h11) h12) h13) h14) h15) h16) h17
noncomputable def sP(v:Nat->Me)(i:Nat)(u:Me)(j:Nat):Value:=if j=i then u else v j
theorem Be(B:MA)(v:Nat->Me)(u:Me):∀i,i<18->X4 (yn B v (gp i)) (nm i) u=yn B (sP v i u) (gp i):=
 td rfl rfl rfl rfl rfl rfl rfl rfl rfl rfl rfl rfl rfl rfl rfl rfl rfl rfl
theorem Cy(B:MA)(v:Nat->Me):∀i,i<18->D6 (yn B v (gp i)) (nm i)=Md (v i):=
 td rfl rfl rfl rfl rfl rfl rfl rfl rfl rfl rfl rfl rfl rfl rfl rfl rfl rfl
theorem AL(B:MA)(v:Nat->Me):∀i,i<18->AQ (yn B v (gp i)) (nm i)=true:=
 td rfl rfl rfl rfl rfl rfl rfl rfl rfl rfl rfl rfl rfl rfl rfl rfl rfl rfl
theorem uS{v v':Nat->Me}(h:∀j,j<10->v j=v' j):Db B v=Db B v':=by unfold Db;rw[h 0 (by decide),h 1 (by decide),h 2 (by decide),h 3 (by decide),h 4 (by decide),h 5 (by decide),h 6 (by decide),h 7 (by decide),h 8 (by decide),h 9 (by decide)]
theorem kr{o o':Nat}{v v':Nat->Me}(h:∀j,j<4->v (o+j)=v' (o'+j)):sr pb v o=sr pb v' o':=by have a:=h 0 (by decide);have b:=h 1 (by decide);have c:=h 2 (by decide);have d:=h 3 (by decide);unfold sr;rw[b,c,d,show v o=v' o' from a]
theorem mf{v v':Nat->Me}:∀{g:Nat},g<3->(∀j,j<18->gp j=g->v j=v' j)->yn B v g=yn B v' g
 |0,_,h=>uS λj hj=>h j (Q0 hj (by decide)) (if_pos hj)
 |1,_,h=>kr (iL (h 10 (by decide) rfl) (h 11 (by decide) rfl) (h 12 (by decide) rfl) (h 13 (by decide) rfl))
 |2,_,h=>kr (iL (h 14 (by decide) rfl) (h 15 (by decide) rfl) (h 16 (by decide) rfl) (h 17 (by decide) rfl))
 |g+3,h,_=>absurd h (PG.mpr (Ms _ _))
theorem oH(i:Nat):gp i<3:=by unfold gp;split;decide;split<;>decide
theorem rq{p:Ml->Prop}(h1:p B.m)(h2:p B.l1)(h3:p B.l2):∀a,W6 B a->p a:=
 λb h=>h.elim (λz=>z▸h1) λh=>h.elim (λz=>z▸h2) λz=>z▸h3
theorem eF(B:MA):∀g,W6 B (obj B g)
 |0=>.inl rfl|1=>.inr (.inl rfl)|_+2=>.inr (.inr rfl)
theorem MB.c(M:MB J B w):∀g,g<3->J (obj B g)=Md (yn B w g)
 |0,_=>M.1|1,_=>M.3|2,_=>M.4
 |g+3,h=>absurd h (PG.mpr (Ms _ _))
theorem MB.hP(M:MB J B w):∀a,W6 B a->J a≠none:=
 rq (p:=λa=>J a≠Mr) (λz=>cns (z.symm.trans M.1)) (λz=>cns (z.symm.trans M.3)) λz=>cns (z.symm.trans M.4)
theorem MB.one(M:MB J B w):B.m≠B.l1:=tA M.1 M.3 (by decide)
theorem MB.two(M:MB J B w):B.m≠B.l2:=tA M.1 M.4 (by decide)
theorem MB.off(M:MB J B w):∀g g',g<3->g' < 3->g≠g'->obj B g≠obj B g'
 |0,0,_,_,h|1,1,_,_,h|2,2,_,_,h=>absurd rfl h
 |0,1,_,_,_=>M.one|0,2,_,_,_=>M.two|1,2,_,_,_=>M.5
 |1,0,_,_,_=>M.one.symm|2,0,_,_,_=>M.two.symm|2,1,_,_,_=>M.5.symm
 |g+3,_,h,_,_=>absurd h (PG.mpr (Ms _ _))
 |_,g+3,_,h,_=>absurd h (PG.mpr (Ms _ _))
noncomputable def mix(w:Nat->Me)(rs:List (Ml×Ml×Nat))(j:Nat):Value:=(rs[j]?).elim (w j) λe=>.ref e.1
theorem qQ(w:Nat->Me)(rs:List (Ml×Ml×Nat))(e:Ml×Ml×Nat):mix w (rs++[e])=sP (mix w rs) rs.length (.ref e.1):=by
 funext j;show((rs++[e])[j]?).elim (w j) _=if j=rs.length then _ else(rs[j]?).elim (w j) _
 by_cases h:j=rs.length;·rw[if_pos h,h,MZ (MD _),Nr];rfl
 ·rw[if_neg h];rcases SU h with q|q
  ·rw[M8 q]
  ·rw[M0 (Nq q),M0 (by rw[MI];exact q)]
inductive Fy(J0:Sg)(B:MA)(w:Nat->Me)(i:Nat)(τ:Sg)(rs:List (Ml×Ml×Nat)):Prop where
 |mk(nr:NR J0 τ rs)
  (ch:Ch (W6 B) J0 τ)
  (c:∀g,g<3->τ (obj B g)=Md (yn B (mix w rs) g))
  (n:rs.map (·.2.2)=(WM B).take i)
  (l:rs.length=i)
theorem zD(B:MA):∀i,i<18->(WM B)[i]?.toList=[(WM B).getD i 0]:=td rfl rfl rfl rfl rfl rfl rfl rfl rfl rfl rfl rfl rfl rfl rfl rfl rfl rfl
variable{p:Ml}{τ:Sg}{lc:Nat}
section
variable{τ':Sg}{t:T}{st:List Me}
theorem Fy.add(M:MB J B w)(Y:Fy J B w i τ rs)(hi:i<18){d:Ml}(hr:τ r=Mr)(hd:τ d=Mr)(S:Sub τ τ')(R:Row τ' r d ((WM B).getD i 0) (λa=>1024)):Fy J B w (i+1) (upd τ' (obj B (gp i)) (X4 (yn B (mix w rs) (gp i)) (nm i) (.ref r))) (rs++[(r,d,(WM B).getD i 0)]):=by
 have U:=Ch.upd (P:=W6 B) τ' (eF B (gp i)) (X4 (yn B (mix w rs) (gp i)) (nm i) (.ref r));refine⟨(Y.1.Y4 Y.2.2 S R hr hd).ch U M.hP,Y.2.trans ((Ch.of S).trans U),λg hg=>?_,by rw[Od,Y.4,List.take_succ,zD B i hi];rfl,by rw[MI,Y.5];rfl⟩;rw[qQ,Y.5,Be _ _ _ i hi];by_cases h:g=gp i;·rw[h];exact aa _ _ _
 ·refine(ag _ _ (M.off _ _ hg (oH i) h)).trans ((S _ _ (Y.3 g hg)).trans (congrArg Md (mf hg λj a hj=>(if_neg λz=>h ?_).symm)));rw[<-hj,z]
noncomputable def SG(J:Sg)(B:MA)(w:Nat->Me)(i:Nat)(τ:Sg):Prop:=∃rs,Fy J B w i τ rs
theorem SG.start(M:MB J B w):SG J B w 0 J:=⟨[],NR.nil _ _,Ch.of Sub.rfl,M.c,rfl,rfl⟩
theorem SG.m(Y:SG J B w i τ):∃v,τ B.m=Md (Db B v):=Y.elim λa Y=>⟨_,Y.3 0 (by decide)⟩
theorem SG.sub(Y:SG J B w i τ)(M:MB J B w)(S:Sub τ τ'):SG J B w i τ':=Y.elim λrs Y=>⟨rs,Y.1.ch (Ch.of (P:=W6 B) S) M.hP,Y.2.trans (Ch.of S),λg hg=>S _ _ (Y.3 g hg),Y.4,Y.5⟩
theorem SG.fin(M:MB J B w)(Y:SG J B w 18 τ):∃A,vC J τ B A:=by
 refine ae Y λrs Y=>?_;have n:rs.map (·.2.2)=WM B:=Y.4;obtain z1:=Y.1.rows Y.5 λe he=>HP (m5 M.6 M.7 M.8 e.2.2 (by rw[<-n];exact NB he)) rfl;have h:∀j,j<18->mix w rs j=.ref ((Yw rs).ra j):=λj hj=>by show _=MK (rs.getD j (0,0,0)).1;unfold mix;rw[Mx,MH (by rw[Y.5];exact hj)];rfl
 have np:¬W6 B B.p:=λz=>z.elim (tA M.2 M.1 (by decide)) λz=>z.elim (tA M.2 M.3 (by decide)) (tA M.2 M.4 (by decide));have c:=λg hg=>(Y.3 g hg).trans (congrArg Md (mf (v':=λj=>.ref ((Yw rs).ra j)) hg λj hj a=>h j hj));refine⟨_,⟨c 0 (by decide),Y.2.1 _ _ np M.2,c 1 (by decide),c 2 (by decide),M.6,M.7,M.8,λj hj=>?_⟩,z1.1,z1.2.1,z1.2.2,Y.2⟩;rw[<-n];show(rs.getD j (0,0,0)).2.2=_;rw[Mx,Mx,MM];cases rs[j]?<;>rfl
theorem cD(G:Good Z Kg)(hn:3<=n)(M:MB J B w)(i:Nat)(hi:i<18)(Y:SG J B w i τ)(hρ:gf E x=Md (.ref (obj B (gp i))))(hv:v=((WM B).getD i 0:Nat))(q:∀τ',SG J B w (i+1) τ'->Ch (W6 B) τ τ'->X Z n Q K τ' E st t):ac Z n (.ref 170) [.int v 0] τ λu τ'=>X Z n Q K τ' E (u::st) (.ld x (.XD (nm i) t)):=by subst hv;refine ae Y λrs Y=>?_;refine(qD G hn).Wr (MD _) ?_;intro _ τ' r1;refine bI r1 λr d zq40=>?_;rw[zq40.1];have a1:=zq40.2.1;have a2:=zq40.2.2.1;have S:=zq40.2.2.2.1;have R:=zq40.2.2.2.2;exact jP (gV (S _ _ (Y.3 _ (oH i))) (AL B _ i hi) rfl (q _ ⟨_,Y.add M hi a1 a2 S R⟩ ((Ch.of S).trans (Ch.upd _ (eF B _) _)))) hρ
theorem oq(G:Good Z Kg)(hn:4<=n)(M:MB J B w)(i:Nat)(hi:i=10∨i=14)(Y:SG J B w i τ):ac Z n (.ref 290) [.ref (obj B (gp i))] τ (λu τ'=>u=.none/\SG J B w (i+4) τ'/\Ch (W6 B) τ τ'):=by
 refine ae Y λrs Y=>?_;have X0:qa (W6 B) J τ (obj B (gp i)) (sr B.pb (mix w rs) i) rs:=⟨(Y.3 _ (oH i)).trans (by rcases hi with rfl|rfl<;>rfl),Y.1,Y.2,eF B _,M.hP⟩;refine(i6 G hn X0).Wr (MD _) ?_;intro _ τ' r2;obtain⟨rfl,e0,e1,e2,e3,hl,X2,D⟩:=r2;have hm:mix w (rs++[e0]++[e1]++[e2]++[e3])=sP (sP (sP (sP (mix w rs) i (.ref e0.1)) (i+1) (.ref e1.1)) (i+2) (.ref e2.1)) (i+3) (.ref e3.1):=by simp only[qQ,MI,Y.5,MW,Pd]
 refine⟨rfl,⟨_,X2.2,X2.3,λg hg=>?_,?_,?_⟩,D.Wr λa e=>e▸eF B _⟩
 ·rw[hm];by_cases h:g=gp i;·rw[h];refine X2.1.trans (congrArg Md ?_);rcases hi with rfl|rfl<;>exact kr (iL rfl rfl rfl rfl)
  ·refine(D.1 _ _ (M.off _ _ hg (oH i) h) (Y.3 g hg)).trans (congrArg Md (mf hg λj c hj=>?_));have b:∀k,k<4->gp (i+k)=gp i:=by rcases hi with rfl|rfl<;>exact iL rfl rfl rfl rfl
   have a:∀k,k<4->j≠i+k:=λk hk z=>h (by rw[<-hj,z];exact(b k hk).symm▸rfl);unfold sP;rw[if_neg (a 3 (by decide)),if_neg (a 2 (by decide)),if_neg (a 1 (by decide)),if_neg (show j≠i from a 0 (by decide))]
 ·simp only[NJ,List.cons_append,List.nil_append];rw[Od,Y.4,hl];rcases hi with rfl|rfl<;>rfl
 ·simp only[MI,Y.5,MW,Pd]
theorem qx(G:Good Z Kg)(hn:0<n){lp:Nat}(hc:lc<=1)(hp:lp<=1)(h:J p=Md (yy lc lp pb)):ac Z n (.ref 199) [.ref p] J (λu J'=>u=.int ((768*2^(lc+lp):Nat):Int) 0/\J=J'):=by refine run G hn ?_;lk;rw[show((lc:Int)+(lp:Int)).toNat=lc+lp from rfl];exact⟨by simp,rfl⟩
theorem qf(G:Good Z Kg)(hn:6<=n)(M:MB J B w):ac Z n (.ref 318) [.ref B.m] J (λu J'=>u=.none/\∃A,vC J J' B A):=by have hn:=lp hn rfl (b:=5);have np:¬W6 B B.p:=λz=>z.elim (tA M.2 M.1 (by decide)) λz=>z.elim (tA M.2 M.3 (by decide)) (tA M.2 M.4 (by decide));refine run G (by lia) ?_;lk;refine cD G (lq hn rfl) M 0 (by decide) (.start M) rfl rfl λτ Y C=>?_;lk;refine cD G (lq hn rfl) M 1 (by decide) Y rfl rfl λτ Y D=>?_;have C:=C.trans D;lk;refine cD G (lq hn rfl) M 2 (by decide) Y rfl rfl λτ Y D=>?_;have C:=C.trans D;lk;refine cD G (lq hn rfl) M 3 (by decide) Y rfl rfl λτ Y D=>?_;have C:=C.trans D;lk;refine cD G (lq hn rfl) M 4 (by decide) Y rfl rfl λτ Y D=>?_;have C:=C.trans D;lk;refine cD G (lq hn rfl) M 5 (by decide) Y rfl rfl λτ Y D=>?_;have C:=C.trans D;lk;refine cD G (lq hn rfl) M 6 (by decide) Y rfl rfl λτ Y D=>?_;have C:=C.trans D;lk;refine cD G (lq hn rfl) M 7 (by decide) Y rfl rfl λτ Y D=>?_;have C:=C.trans D;lk;refine cD G (lq hn rfl) M 8 (by decide) Y rfl rfl λτ Y D=>?_;have C:=C.trans D;refine ae Y.m λv hm=>?_;have hp:=C.1 _ _ np M.2;lk;refine(qx G (lq hn rfl) M.6 M.7 hp).k01 ?_;lk;refine cD G (lq hn rfl) M 9 (by decide) Y rfl rfl λτ Y D=>?_;refine ae Y.m λv hm=>?_;have hl:τ B.l1=_:=Y.choose_spec.3 1 (by decide);lk;refine(oq G (lq hn rfl) M 10 (.inl rfl) Y).Ws λτ' r3=>?_;have Y:=r3.1;have D:=r3.2;refine ae Y.m λv hm=>?_;have hl:τ' B.l2=_:=Y.choose_spec.3 2 (by decide);lk;refine(oq G (lq hn rfl) M 14 (.inr rfl) Y).Ws λτ'' r4=>?_;have Y:=r4.1;have D:=r4.2;lk;exact⟨rfl,Y.fin M⟩
end
theorem gZ{c d:Cell}(h:J a=Md c)(h':J b=Md d)(n:c≠d):a≠b:=λz=>by subst z;rw[h] at h';exact n (MJ h')
theorem aG{c:Cell}(_:Sub J (upd J t c)):upd J t c t=Md c:=aa _ _ _
section
variable{k:T}{st:List Me}
theorem nw{c:Cell}(q:∀x τ,J x=Mr->Sub J τ->τ x=Md c->X Z n Q K τ E (.ref x::st) k):∀x,J x=Mr->X Z n Q K (upd J x c) E (.ref x::st) k:=
 λx hx=>q x _ hx (Wu hx _) (aa _ _ _)
end
theorem aj.WM(M:aj H A B):∀j,j<18->A.len j=(WM B).getD j 0:=M.8
theorem jD(M:aj H A B)(j:Nat):(WM B).getD j 0<=100000:=by
 rw[Mx];cases h:(WM B)[j]? with
 |none=>decide
 |some x=>exact Nq (m5 M.5 M.6 M.7 x (MP h))
theorem ua(M:aj J A B)(R:aD J A C)(h:Ch (W6 B) J J'):aD J' A C:=λj hj=>(R j hj).keep λa c ha e=>h.1 a c (λz=>by
 have n1:=(R j hj).neI M.1 (by decide);have n2:=(R j hj).neI M.3 (by decide);have n3:=(R j hj).neI M.4 (by decide);rcases ha with rfl|rfl<;>rcases z with z|z|z
 ·exact n1.1 z
 ·exact n2.1 z
 ·exact n3.1 z
 ·exact n1.2 z
 ·exact n2.2 z
 ·exact n3.2 z) e
theorem bb(G:Good Z Kg)(hn:3<=n)(M:aj J A B)(ne:B.l1≠B.l2)(R:aD J A C)(i:Nat)(hi:i<18)(Y:SG J B (wa A) i τ){t:T}{st:List Me}(hρ:gf E x=Md (.ref (obj B (gp i))))(q:∀τ',SG J B (wa A) (i+1) τ'->Ch (W6 B) τ τ'->X Z n Q K τ' E st t):X Z n Q K τ E st (.cst (.ref 1134) (.ld x (.fld (nm i) (.call 1 (.ld x (.XD (nm i) t)))))):=by
 refine ae Y λrs Y=>?_;have e:mix (wa A) rs i=.ref (A.ra i):=by unfold mix;rw[M0 (Ot Y.5)];rfl
 refine aA (jP (AW (x_call ((pw G hn (M.8 i hi▸ua M R Y.2 i hi) (jD M i)).Wr (MD _) ?_)) (Y.3 _ (oH i)) ((Cy B _ i hi).trans (congrArg Md e))) hρ);intro _ τ' r1;refine bI r1 λr d z2=>?_;rw[z2.1];exact jP (gV (z2.2.2.2.1 _ _ (Y.3 _ (oH i))) (AL B _ i hi) rfl (q _ ⟨_,Y.add (M.mb ne) hi z2.2.1 z2.2.2.1 z2.2.2.2.1 z2.2.2.2.2⟩ ((Ch.of z2.2.2.2.1).trans (Ch.upd _ (eF B _) _)))) hρ
theorem je(G:Good Z Kg)(hn:5<=n)(M:aj J A B)(ne:B.l1≠B.l2)(R:aD J A C):ac Z n (.ref 1141) [.ref B.m] J (λu J'=>u=.ref B.m/\∃A,vC J J' B A):=by
 have e:3<=n-1:=lp hn rfl;refine run G (lq hn rfl) (DT Mj 0 (?_:X _ _ _ _ _ _ _ _));refine bb G e M ne R 0 (by decide) (.start (M.mb ne)) rfl λτ Y a=>?_;refine bb G e M ne R 1 (by decide) Y rfl λτ Y a=>?_;refine bb G e M ne R 2 (by decide) Y rfl λτ Y a=>?_;refine bb G e M ne R 3 (by decide) Y rfl λτ Y a=>?_;refine bb G e M ne R 4 (by decide) Y rfl λτ Y a=>?_;refine bb G e M ne R 5 (by decide) Y rfl λτ Y a=>?_;refine bb G e M ne R 6 (by decide) Y rfl λτ Y a=>?_;refine bb G e M ne R 7 (by decide) Y rfl λτ Y a=>?_;refine bb G e M ne R 8 (by decide) Y rfl λτ Y a=>?_;refine bb G e M ne R 9 (by decide) Y rfl λτ Y a=>?_;refine ae Y.m λv hm=>?_;lk;refine nw λt τ ht T h=>?_;have nt:¬W6 B t:=λz=>by
  refine ae Y λrs Y=>?_;rcases z with z|z|z
  ·have:=Y.3 0 (by decide);rw[<-show t=obj B 0 from z,ht] at this;cases this
  ·have:=Y.3 1 (by decide);rw[<-show t=obj B 1 from z,ht] at this;cases this
  ·have:=Y.3 2 (by decide);rw[<-show t=obj B 2 from z,ht] at this;cases this
 refine ot h λQ1 hq1=>eG ?_;refine bb G e M ne R 10 (by decide) (Y.sub (M.mb ne) T) rfl λτ Y C=>?_;have h:=C.1 _ _ nt h;refine bb G e M ne R 11 (by decide) Y rfl λτ Y C=>?_;have h:=C.1 _ _ nt h;refine bb G e M ne R 12 (by decide) Y rfl λτ Y C=>?_;have h:=C.1 _ _ nt h;refine bb G e M ne R 13 (by decide) Y rfl λτ Y C=>?_;have h:=C.1 _ _ nt h;refine fu (hq1 h λQ2 hq2=>eG ?_);refine bb G e M ne R 14 (by decide) Y rfl λτ Y C=>?_;have h:=C.1 _ _ nt h;refine bb G e M ne R 15 (by decide) Y rfl λτ Y C=>?_;have h:=C.1 _ _ nt h;refine bb G e M ne R 16 (by decide) Y rfl λτ Y C=>?_;have h:=C.1 _ _ nt h;refine bb G e M ne R 17 (by decide) Y rfl λτ Y C=>?_;have h:=C.1 _ _ nt h;refine fu (hq2 h ?_);lk;exact⟨rfl,Y.fin (M.mb ne)⟩
theorem cI(G:Good Z Kg)(hn:0<n)(M:aj J A B):ac Z n (.ref 1127) [.ref B.m] J (λu J'=>∃x,u=.ref x/\J x=Mr/\Sub J J'/\J' x=Md (.list ((Oi 18).map λj=>.ref (A.ra j)))):=by have Mm:=M.1;refine run G hn ?_;lk;refine nw λx τ hx T x1=>?_;have Mm:=T _ _ Mm;lk;refine nw λy τ1 hy S y1=>d7 (S _ _ x1) y1 (MG rfl) (nw λz τ2 hz S' z1=>?_);have T:=(T.trans S).trans S';have Mm:=T _ _ M.1;lk;refine nw λt τ3 ht S t1=>?_;have T:=T.trans S;have z1:=S _ _ z1;have L1:=T _ _ M.3;refine ot t1 λQ1 hq1=>?_;lk;refine nw λy τ4 hy S y1=>d7 (S _ _ z1) y1 (MG rfl) (nw λz τ5 hz S' z1=>eG (fu (hq1 (S' _ _ (S _ _ t1)) λQ2 hq2=>?_)));have T:=(T.trans S).trans S';have t1:=S' _ _ (S _ _ t1);have L2:=T _ _ M.4;lk;refine nw λy τ6 hy S y1=>d7 (S _ _ z1) y1 (MG rfl) (nw λz τ7 hz S' z1=>eG (fu (hq2 (S' _ _ (S _ _ t1)) ?_)));lk;exact⟨z,rfl,T.none (S.none hz),(T.trans S).trans S',z1⟩
theorem kC(G:Good Z Kg)(hn:6<=n)(hv:v=2^pb):ac Z n (.ref 293) [.int v 0] J (λu J'=>bM λl w=>u=.ref l/\J l=Mr/\Sub J J'/\J' l=Md (sr pb w 0)):=by subst hv;refine bA G (lq hn rfl) ey λx hx=>run G (yq hn rfl) ?_;lk;have Y:qa (λa=>a=x) (upd J x (X4 (.Wv 293 []) LX (.int (2^pb) 0))) _ x _ []:=⟨aa _ _ _,NR.nil ..,Ch.of Sub.rfl,rfl,λb hb=>by rw[hb,aa];exact nofun⟩;refine bC Y rfl rfl λb v0 Y b=>?_;lk;refine bC Y rfl rfl λb v1 Y b=>?_;lk;refine bC Y rfl rfl λb v2 Y b=>?_;lk;refine bC Y rfl rfl λτ v3 Y b=>?_;have Y:qa _ _ τ x (sr pb (λj=>[v0,v1,v2,v3].getD j .none) 0) []:=Y;have h:=Y.1;lk;refine(i6 (n:=n-1-1) G (aS 0x1092114200029944133e8ed44856951fac06627403311 [] [_,_,_] hn (Mf (af 0x4200013b01988d0230f [] [_] hn)) (Mf (ao 0x845080007aa2099f472b01989d0230f [] [_,_] hn (Mf (af 0x4200013b01988d0230f [] [_] hn))))) Y).Ws λτ r1=>?_;refine vr r1 λe0 e1 e2 e3 z3=>?_;lk;exact⟨rfl,x,_,rfl,hx,z3.2.1.3.sub (Wu hx _) (by rintro _ rfl;exact hx),z3.2.1.1⟩
inductive abm(J J':Sg)(p:Ml)(lc lp pb:Nat)(A:Rows)(B:MA):Prop where
 |mk (eq:B.p=p/\B.lc=lc/\B.lp=lp/\B.pb=pb)
  (ne:B.l1≠B.l2)
  (sub:Sub J J')
  (mod:aj J' A B)
  (rows:aD J' A (λb b=>1024))
  (apt:A.Apt)
  (new:∀j,j<18->J (A.ra j)=Mr/\J (A.da j)=Mr)
  (nm:∀a,W6 B a->J a=Mr)
theorem cE(G:Good Z Kg)(hn:9<=n){lp:Nat}(hc:lc<=1)(hp:lp<=1)(hb:pb<=4)(Pp:J p=Md (yy lc lp pb)):ac Z n (.ref 349) [.ref p] J (λu J'=>bM λA B=>u=.ref B.m/\abm J J' p lc lp pb A B):=by
 have e:(1:Int)*2^(pb:Int).toNat=2^pb:=by rw[MO,Pz]
 refine bA G (lq hn rfl) iK λx hx=>run G (yq hn rfl) ?_;lk;have S0:Sub J (upd J x (X4 (.Wv 349 []) Jn (.ref p))):=Wu hx _;have Y:qa (λa=>a=x) (upd J x (X4 (.Wv 349 []) Jn (.ref p))) _ x _ []:=⟨aa _ _ _,NR.nil ..,Ch.of Sub.rfl,rfl,λb hb=>by rw[hb,aa];exact nofun⟩;have hP:∀a,a=x->J a=none:=by rintro _ rfl;exact hx
 generalize upd J x (X4 (.Wv 349 []) Jn (.ref p))=J0 at S0 Y ⊢;have hn':6<=n-1-1:=(aS 0x2124228400053288267d1da890ad2a3f5207629603311 [] [_,_,_] hn (Mf (af 0x8400027481d8950230f [] [_] hn)) (Mf (ao 0x108a10000f544133e8e5481d8a50230f [] [_,_] hn (Mf (af 0x8400027481d8950230f [] [_] hn)))));refine bC Y rfl rfl λb v0 Y b=>?_;lk;refine bC Y rfl rfl λb v1 Y b=>?_;lk;refine bC Y rfl rfl λb v2 Y b=>?_;lk;refine bC Y rfl rfl λb v3 Y b=>?_;lk;refine bC Y rfl rfl λb v4 Y b=>?_;lk;refine bC Y rfl rfl λb v5 Y b=>?_;lk;refine bC Y rfl rfl λb v6 Y b=>?_;lk;refine bC Y rfl rfl λb v7 Y b=>?_;lk;refine bC Y rfl rfl λb v8 Y b=>?_;lk;refine bC Y rfl rfl λτ v9 Y b=>?_;have Pq:=Y.3.sub S0 hP _ _ Pp;lk;rw[e];refine(kC (n:=n-1-1) G hn' rfl).Wr (MD _) ?_;intro _ τ0 r2;refine bI r2 λl1 u1 z2=>?_;rw[z2.1];have hl1:=z2.2.1;have L1:=z2.2.2.2;have n1:l1≠x:=λz=>by rw[z,Y.1] at hl1;cases hl1
 have dl1:=S0.none (Y.3.2 _ hl1);refine th Y z2.2.2.1 rfl rfl rfl λτ Y k=>?_;have Pq:=Y.3.sub S0 hP _ _ Pp;have L1:=k _ _ n1 L1;lk;rw[e];refine(kC (n:=n-1-1) G hn' rfl).Wr (MD _) ?_;intro _ τ1 r3;refine bI r3 λl2 u2 z1=>?_;rw[z1.1];have hl2:=z1.2.1;have n2:l2≠x:=El hl2 Y.1;have n12:l1≠l2:=λz=>by rw[<-z,L1] at hl2;cases hl2
 have dl2:=S0.none (Y.3.2 _ hl2);refine th Y z1.2.2.1 rfl rfl rfl λτ Y k=>?_;have Sx:=Y.3.sub S0 hP;have M:MB _ ⟨x,p,l1,l2,lc,lp,pb⟩ (λj=>if j<10 then[v0,v1,v2,v3,v4,v5,v6,v7,v8,v9].getD j .none else if j<14 then u1 (j-10) else u2 (j-14)):=
  ⟨Y.1,Sx _ _ Pp,k _ _ n1 (z1.2.2.1 _ _ L1),k _ _ n2 z1.2.2.2,n12,hc,hp,hb⟩
 have h:=Y.1;lk;refine(qf (n:=n-1-1) G hn' M).Ws λτ2 r4=>?_;refine ae r4 λA R=>?_;have nm:∀a,W6 ⟨x,p,l1,l2,lc,lp,pb⟩ a->J a=none:=rq hx dl1 dl2;lk;exact⟨rfl,A,⟨x,p,l1,l2,lc,lp,pb⟩,rfl,⟨rfl,rfl,rfl,rfl⟩,n12,R.5.sub Sx nm,R.1,R.2,R.3,λj hj=>⟨Sx.none (R.4 j hj).1,Sx.none (R.4 j hj).2⟩,nm⟩
theorem pm(G:Good Z Kg)(hn:2<=n){lp:Nat}(hc:lc<=1)(hp:lp<=1)(hb:pb<=4):ac Z n (.ref 209) [.int lc 0,.int lp 0,.int pb 0] J (λu J'=>∃p,u=.ref p/\J p=Mr/\Sub J J'/\J' p=Md (yy lc lp pb)):=by
 refine bA G (lq hn rfl) i8 λx hx=>?_;refine run G (Ow hn) ?_;have S0:=Wu hx (.Wv 209 []);have x0:=aG S0;generalize upd J x (.Wv 209 [])=J0 at*;lk;intro a ha;have S1:=Wu ha (.tup [.int lc 0,.int 8 0]);have a0:=aG S1;have x0:=S1 _ _ x0;generalize upd J0 a _=J1 at*;lk;intro b hb';have S2:=Wu hb' (.tup [.int lp 0,.int 4 0]);have b0:=aG S2;have a0:=S2 _ _ a0;have x0:=S2 _ _ x0;generalize upd J1 b _=J2 at*;lk;intro c hc';have S3:=Wu hc' (.tup [.int pb 0,.int 4 0]);have c0:=aG S3;have b0:=S3 _ _ b0;have a0:=S3 _ _ a0;have x0:=S3 _ _ x0;generalize upd J2 c _=J3 at*;lk;intro d hd;have S4:=Wu hd (.tup [.ref a,.ref b,.ref c]);have d0:=aG S4;have c0:=S4 _ _ c0;have b0:=S4 _ _ b0;have a0:=S4 _ _ a0;have x0:=S4 _ _ x0;generalize upd J3 d _=J4 at*;refine qC [(JM,.ref x),(27747,.int lc 0),(27760,.int lp 0),(28770,.int pb 0)] d0 rfl ?_ ?_;·intro j u Q' hu hnext;refine ga (Eg (P:=λu=>nW λt i m=>u=.ref t/\J4 t=Md (.tup [.int i 0,.int m 0])/\0<=i/\i<=m) ⟨a,lc,8,rfl,a0,Mt _,F8 hc rfl⟩ ⟨b,lp,4,rfl,b0,Mt _,F8 hp rfl⟩ ⟨c,pb,4,rfl,c0,Mt _,nF hb⟩ hu) λt i m z9=>?_;have ht:=z9.2.1;have i0:=z9.2.2.1;have i1:=z9.2.2.2;rw[z9.1];refine dO ?_ ht rfl;lk;refine iy (r:=Mj) ?_ .int;lk;refine jN (λf=>?_) (λh=>absurd i0 h);lk;refine vW (λf=>?_) (λh=>absurd i1 h);lk;exact hnext rfl
 ·lk;have hs:Sub J J4:=λa c e=>S4 _ _ (S3 _ _ (S2 _ _ (S1 _ _ (S0 _ _ e))));exact⟨rfl,x,rfl,hx,hs.upd hx _,aa _ _ _⟩
section
variable{st:List Me}{k body:T}{c:Nat}
end
noncomputable def aL(J:Sg)(x:Ml)(ls:List (List Me)):Prop:=∃as:List Ml,J x=Md (.list (as.map MK))/\as.length=ls.length/\∀(j:Nat)(l:List Me),ls[j]?=Md l->∃a,as[j]?=Md a/\J a=Md (.list l)
variable{x:Ml}{ls:List (List Me)}
theorem aL.sub(h:aL J x ls)(S:Sub J J'):aL J' x ls:=by refine ae h λas z13=>?_;exact⟨as,S _ _ z13.1,z13.2.1,λj l e=>by refine ae (z13.2.2 j l e) λa z12=>?_;exact⟨a,z12.1,S _ _ z12.2⟩⟩
noncomputable def aT(B:MA)(C:Nat->Int->Int):List (List Me):=(Oi 18).map λj=>W0 ((WM B).getD j 0) (C j)
theorem bP(h:j<18):(aT B C)[j]?=Md (W0 ((WM B).getD j 0) (C j)):=by unfold aT;rw[MM,Nv h];rfl
theorem bn(B:MA)(C:Nat->Int->Int):(aT B C).length=18:=by unfold aT;rw[Mu,NK]
theorem ru{J:Sg}{d:Nat}:∀(xs ys:List Me),xs.length=ys.length->(∀(j:Nat)(v w:Me),xs[j]?=Md v->ys[j]?=Md w->dZ J d v w)->∀p∈xs.zip ys,dZ J d p.1 p.2
 |[],_,_,_,p,hp=>by cases hp
 |x::xs,[],h,_,p,hp=>by cases hp
 |x::xs,y::ys,h,hs,p,hp=>by
  rw[OI] at hp;refine Pl (MT.mp hp) (λzz=>?_) (λhp=>?_);rw[zz];·exact hs 0 x y rfl rfl
  ·exact ru xs ys (by simpa using h) (λj v w e e'=>hs (j+1) v w e e') p hp
theorem eR{ys:List Me}(h1:J a=Md (.list xs))(h2:J b=Md (.list ys))(hl:xs.length=ys.length)(h:∀(j:Nat)(v w:Me),xs[j]?=Md v->ys[j]?=Md w->dZ J d v w):dZ J (d+1) (.ref a) (.ref b):=by exact .list h1 h2 hl (ru xs ys hl h)
theorem ug{len:Nat}(h1:J a=Md (.list (W0 len f)))(h2:J b=Md (.list (W0 len f))):dZ J (d+2) (.ref a) (.ref b):=by refine eR h1 h2 rfl λj v w e e'=>?_;rw[e] at e';obtain rfl:=MJ e';unfold W0 at e;rw[MM] at e;refine ae (MQ.mp e) λi z11=>?_;obtain⟨_,rfl⟩:=z11;exact .int
theorem mr(h1:aL J x (aT B C))(h2:aL J y (aT B C)):dZ J (d+3) (.ref x) (.ref y):=by
 refine ae h1 λas z10=>?_;have a2:=z10.2.1;refine ae h2 λbs z9=>?_;have b2:=z9.2.1;rw[bn] at a2 b2;refine eR z10.1 z9.1 (by rw[Mu,Mu];exact ao 0x422842003d08e10000f48509456420a89d4150f [] [_,_] a2 b2) λj v w e e'=>?_;have hj:j<18:=by have:=(ML.mp e).1;rw[Mu] at this;exact ao 0x108a10000f54140f90a128ac841413 [] [_,_] a2 this
 refine ae (z10.2.2 j _ (bP hj)) λa z8=>?_;refine ae (z9.2.2 j _ (bP hj)) λb z7=>?_;rw[MM,z8.1] at e;rw[MM,z7.1] at e';obtain rfl:=MJ e;obtain rfl:=MJ e';exact ug z8.2 z7.2
noncomputable def bq(A:Rows):List Value:=(Oi 18).map λj=>.ref (A.ra j)
theorem gH(A:Rows)(h:j<18):(bq A)[j]?=Md (.ref (A.ra j)):=by unfold bq;rw[MM,Nv h];rfl
theorem bd(A:Rows):(bq A).length=18:=by unfold bq;rw[Mu,NK]
theorem iV(G:Good Z Kg)(hn:3<=n){st:List Me}{k:T}(ha:J a=Md (.list (bq A)))(hlen:∀j,j<18->A.len j=(WM B).getD j 0)(hb:∀j,(WM B).getD j 0<=100000)(R:aD J A C)(q:∀x J',J x=Mr->Sub J J'->aL J' x (aT B C)->X Z n Q K J' ρ (.ref x::st) k):X Z n Q K J ρ (.ref a::st) (.Xo Mh Jr (.cst (.ref 1148)<|.ld Jr<|.call 1<|.yld) k):=by
 refine fk (xs:=bq A) (λj ws J'=>j<=18/\Sub J J'/\∃as:List Ml,ws=as.map MK/\as.length=j/\∀(i:Nat),i<j->∃b,as[i]?=Md b/\J' b=Md (.list (W0 ((WM B).getD i 0) (C i)))) ⟨Nc _,Sub.rfl,[],rfl,rfl,nofun⟩ (λj ws J' h=>h.2.1 _ _ ha) (by rw[bd];decide) ?_ ?_
 ·intro j v ws J' Q' hv I0 hval _;refine ae I0.2.2 λas z6=>?_;obtain rfl:=z6.1;have hlt:j<18:=by have:=(ML.mp hv).1;rw[bd] at this;exact this
  rw[gH A hlt] at hv;obtain rfl:=MJ hv;have Rj:=(R j hlt).sub I0.2.1;rw[hlen j hlt] at Rj;lk;refine(gI (n:=n) G hn Rj (hb j)).Wr (MD _) ?_;intro _ τ r1;refine ae r1 λx z5=>?_;rw[z5.1];lk;refine hval _ _ _ ⟨hlt,I0.2.1.trans z5.2.2.1,as++[x],by simp,by simp[z6.2.1],λi hi=>?_⟩;by_cases hij:i<j;·refine ae (z6.2.2 i hij) λb z4=>?_;exact⟨b,by rw[M8 (by exact ao KD [] [_,_,_] z6.2.1 hij)];exact z4.1,z5.2.2.1 _ _ z4.2⟩
  ·obtain rfl:i=j:=ao Ld [] [_,_] hi hij;exact⟨x,by rw[MZ (Ot z6.2.1),z6.2.1,Nr];rfl,z5.2.2.2⟩
 ·intro ws J' x I0 hx;refine ae I0.2.2 λas z3=>?_;rw[z3.1];have hal:=z3.2.1;have hat:=z3.2.2;rw[bd] at hal hat;have N:=Wu hx (.list (as.map MK));refine q x _ (I0.2.1.none hx) (I0.2.1.trans N) ⟨as,aa _ _ _,by rw[hal,bn],λj l hl=>?_⟩;have hlt:j<18:=by have:=(ML.mp hl).1;rw[bn] at this;exact this
  rw[bP hlt] at hl;rw[<-MJ hl];refine ae (hat j hlt) λb z2=>?_;exact⟨b,z2.1,N _ _ z2.2⟩
theorem cQ(G:Good Z Kg)(hn:5<=n)(M:aj J A B)(R:aD J A C):ac Z n (.ref 1153) [.ref B.m] J (λu J'=>∃x,u=.ref x/\J x=Mr/\Sub J J'/\aL J' x (aT B C)):=by refine run G (lq hn rfl) ?_;lk;refine(cI (n:=n-1) G (lp hn rfl) M).Wr (MD _) ?_;intro _ τ r2;refine ae r2 λa z1=>?_;rw[z1.1];refine iV G (lp hn rfl) (B:=B) (C:=C) z1.2.2.2 M.WM (jD M) (λj hj=>(R j hj).sub z1.2.2.1) λx J' hx S' L=>?_;lk;exact⟨x,rfl,z1.2.2.1.none hx,z1.2.2.1.trans S',L⟩
section
variable{st:List Me}{k:T}{i j:Int}{t:Nat}
end
theorem Z1{i:Int}(h:i.natAbs<2^k):OU i<=k+1:=by
 unfold OU;split;·exact Ms _ _
 ·rename_i q;have hb:i.natAbs≠0:=λz=>q (by simpa using z);have:=(UL hb).mpr h;exact NZ this
noncomputable def nl(J:Sg)(ja:Ml)(k:Int):Prop:=nW λg m t=>J ja=Md (.list [.int g 0,.int m 0,.int t 0])/\0<=g/\0<=m/\m<10000/\0<=t/\t<=k
variable{k:Int}{ja:Ml}
theorem nl.le{l:Int}(h:nl J ja k)(hl:k<=l):nl J ja l:=by refine DB h λg m t e h1 h2 h3 h4 h5=>?_;exact⟨g,m,t,e,h1,h2,h3,h4,OV h5 hl⟩
theorem nl.sub(h:nl J ja k)(S:Sub J J'):nl J' ja k:=by refine ga h λg m t z6=>?_;exact⟨g,m,t,S _ _ z6.1,z6.2⟩
variable{l:List Int}{sc:Ml}
theorem Dp:(10:Int)^Pb 18=1000000000000000000:=by decide
theorem HN:(10:Int)^Pb 40=10000000000000000000000000000000000000000:=by decide
theorem zR{m:Nat}(h:m<=n):(2:Int)^m<=2^n:=by
 have:=Ph (n:=2) (by decide) h;have e1:((2^m:Nat):Int)=2^m:=by simp
 have e2:((2^n:Nat):Int)=2^n:=by simp
 exact nF this
theorem vV{g r:Int}(hg:g<2^(133*j))(hr:r<10000000000000000000000000000000000000000):g*10000000000000000000000000000000000000000+r<2^(133*(j+1)):=by have e:(2:Int)^(133*(j+1))=2^(133*j)*2^133:=Tj ..;have h1:(2:Int)^(133*j)*10000000000000000000000000000000000000000<=2^(133*j)*2^133:=Nt (by decide) (Nm (NV (by decide)));rw[e];generalize(2:Int)^(133*j)=x at*;lia
theorem sd(G:Good Z Kg)(hn:0<n)(hl:l.length<=100000)(h:Z.kl sc=Md (bt l)):ac Z n (.ref 1106) [.ref sc] J (λu J'=>∃ja,u=.ref ja/\J ja=Mr/\Sub J J'/\nl J' ja 0):=by
 have hll:(bt l).length=l.length:=by unfold bt;rw[Mu]
 refine run G hn ?_;lk;intro a ha;have S1:=Wu ha (.tup [.int 0 0,.int 25 0]);refine dO ?_ (aa _ _ _) rfl;lk;refine Bc h (i:=0) (j:=24) rfl (ur hll hl rfl) λb hb=>?_;have S2:=S1.trans (Wu hb (.list (((bt l).take 24).drop 0)));have b0:=aG (Wu hb (.list (((bt l).take 24).drop 0)));generalize upd _ b _=J2 at*;have hx:(((bt l).take 24).drop 0).length<=24:=by rw[SV,OJ];exact af 0x1080004f020989e041313 [] [_] (OS _ _)
 refine eL (xs:=((bt l).take 24).drop 0) (λg m (_:Unit)=>[(444300878196,.int g 0),(469920933220,.int m 0)]) (λj g m d J'=>J'=J2/\0<=g/\g<2^(133*j)/\0<=m/\m<10000) 0 25 () ⟨rfl,by decide,by decide,by decide,by decide⟩ (by rfl) (λd d d d d h=>by rw[h.1];exact b0) ?_ ?_
 ·intro j u g m _ J' Q' hu I0 hnext _;rw[I0.1];have q0:=I0.2.1;have q1:=I0.2.2.1;have m0:=I0.2.2.2.1;have m1:=I0.2.2.2.2;obtain⟨c,rfl⟩:∃c:Int,u=.int c 0:=by have:=MP hu;rw[SV] at this;have:=RO this;unfold bt at this;refine ae (NF.mp this) λc z3=>?_;obtain⟨_,rfl⟩:=z3;exact⟨c,rfl⟩
  have hj:j<24:=by have:=(ML.mp hu).1;exact Nk this hx
  lk;rw[Dp];refine wT (λhc=>?_) (λhc=>?_)
  ·lk;rw[HN];have hg:IntMulOk g 10000000000000000000000000000000000000000:=IntMulOk.of_bits (Nk (Z1 (k:=133*j) (by
    have e2:((2^(133*j):Nat):Int)=2^(133*j):=by simp
    lia)) (by show _<=1048576;exact af 0x10a80000d60414138000008a14171671b44 [] [_] hj)) (Nk (Z1 (k:=133) (by decide)) (by decide))
   refine Fb ?_ hg;lk;rw[Dp];lk;have:(((c.natAbs:Int)-1000000000000000000)%10000000000000000000000000000000000000000)<10000000000000000000000000000000000000000:=Nj _ (by decide);have h2:0<=(((c.natAbs:Int)-1000000000000000000)%10000000000000000000000000000000000000000):=Nw _ (by decide);lk;rw[HN];lk;refine hnext _ m () ⟨rfl,?_,vV q1 this,m0,m1⟩ rfl;lia
  ·lk;refine tU ?_;lk;refine hnext g _ () ⟨rfl,q0,?_,Nw _ (by decide),?_⟩ rfl;·refine PJ q1 (zR (Og _ _))
   ·have:=Nj (m*31+2*(c.natAbs:Int)+(if yu .lt c 0=Mj then 1 else 0)) (b:=9973) (by decide);exact o9 this rfl
 ·intro g m _ J' I0;rw[I0.1];have q0:=I0.2.1;have q1:=I0.2.2.1;have m0:=I0.2.2.2.1;have m1:=I0.2.2.2.2;lk;intro x hx;lk;exact⟨x,rfl,S2.none hx,S2.trans (Wu hx _),g,m,0,aa _ _ _,q0,m0,m1,by decide,by decide⟩
theorem aF(G:Good Z Kg)(hn:0<n){many:Int}(LZ:nl J ja k)(hk:k<=100000)(m0:0<many)(m1:many.natAbs.log2<9000):ac Z n (.ref 1113) [.ref ja,.int many 0] J (λu J'=>∃r,u=.int r 0/\0<=r/\r<many/\nl J' ja (k+1)/\Ch (λa=>a=ja) J J'):=by
 refine DB LZ λg m t e g0 mm0 mm1 t0 t1=>?_;refine run G hn ?_;lk;refine av e (by decide) (by decide) rfl ?_;lk;refine Y8 e (by decide) (by show(2:Int)<3;decide) (by show 3<=1000000;decide) ?_;have C1:=Ch.upd (P:=λa=>a=ja) J rfl (.list ([.int g 0,.int m 0,.int t 0].set (Pb 2) (.int (t+1) 0)));have e1:_=Md (Cell.list [.int g 0,.int m 0,.int (t+1) 0]):=aa J ja (.list ([.int g 0,.int m 0,.int t 0].set (Pb 2) (.int (t+1) 0)));generalize upd J ja _=J1 at*;lk;refine av e1 (by decide) (by decide) rfl ?_;refine aA (nv (λhg=>?_) (λhg=>?_));·lk;refine av e1 (by decide) (by decide) rfl ?_;lk;refine av e1 (by decide) (by decide) rfl ?_;lk;refine Y8 e1 (by decide) (by show(0:Int)<3;decide) (by show 3<=1000000;decide) ?_;lk;exact⟨_,rfl,Nw _ (λzz=>fb 0x422840003d0242e0a0a [_] [] zz m0),Nj _ m0,⟨g/many,m,t+1,aa _ _ _,Ob g0 (Nm m0),mm0,mm1,BS t0 rfl,af 0x1080004e6080e8911c4167028 [_,_] [] t1⟩,C1.trans (Ch.upd (P:=λa=>a=ja) J1 rfl _)⟩
 ·lk;refine av e1 (by decide) (by decide) rfl ?_;lk;refine av e1 (by decide) (by decide) rfl ?_;lk;refine av e1 (by decide) (by decide) rfl ?_;lk;refine av e1 (by decide) (by decide) rfl ?_;lk;exact⟨_,rfl,Nw _ (λzz=>fb 0x422840003d0242e0a0a [_] [] zz m0),Nj _ m0,⟨g,m,t+1,e1,g0,mm0,mm1,BS t0 rfl,af 0x1080004e6080e8911c4167028 [_,_] [] t1⟩,C1⟩
noncomputable def rV:LS->List aI->LS
 |v,[]=>v
 |v,p::r=>rV (p.next v) r
theorem mu:∀(ps:List aI)(v:LS)(p:aI),rV v (ps++[p])=p.next (rV v ps)
 |[],_,_=>rfl
 |q::r,v,p=>mu r (q.next v) p
theorem j0{o:Array UInt8}:∀(ps:List aI)(v:LS)(p:aI),aW o v (ps++[p])↔aW o v ps/\p.X8 o (rV v ps)
 |[],v,p=>⟨λh=>⟨trivial,h.1⟩,λh=>⟨h.2,trivial⟩⟩
 |q::r,v,p=>by show(q.X8 o v/\aW o (q.next v) (r++[p]))↔(q.X8 o v/\aW o (q.next v) r)/\_;rw[j0 r (q.next v) p,qm];rfl
theorem mE{o:Array UInt8}:∀(ps:List aI)(v:LS)(p:aI),bu o v ((ps++[p]).map Md)=bu o v (ps.map Md)++[io o (rV v ps) (Md p)]
 |[],_,_=>rfl
 |q::r,v,p=>congrArg (io o v (Md q)::·) (mE r (q.next v) p)
variable{w:List UInt8}
theorem ki{x:List UInt8}{i:Int}(h0:0<=i)(h1:i<w.length):au (w++x).toArray i=au w.toArray i:=by refine ae (MX h0) λk z5=>?_;obtain rfl:=z5;rw[bU,bU];show(((w++x).getD k 0).toNat:Int)=((w.getD k 0).toNat:Int);rw[Mx,Mx,M8 (xT h1)]
variable{v:LS}
theorem sL{x:List UInt8}{p:aI}(h:p.X8 w.toArray v)(h0:0<=v.pl)(hs:(w++x).length<=1000):p.X8 (w++x).toArray v:=by
 have hf:v.pl+p.len<=w.length:=h.2;refine⟨hs,?_,h.3,h.4,h.5,h.6,λhl j hj=>?_⟩;·show v.pl+p.len<=((w++x).length:Int);rw[MI];exact af 0x431840003d7982ce039504fcc167029 [_,_] [_,_] hf
 ·obtain z4:=h.6 hl;have f:=z4.1;have f':=z4.2;rw[ki (by lia) (by lia),ki (by lia) (by lia)];exact h.7 hl j hj
theorem Z2{p:aI}(h:p.X8 o v):1<=p.len:=by
 induction p with
 |lit=>decide
 |mat d sz=>have:=h.3 d sz rfl;show 1<=sz;exact af 0x42000138888230141fcbb0200e [_] [] this
 |rep i sz=>have:=h.4 i sz rfl;show 1<=sz;exact af 0x84200271110460283fe209a1d1f0200e [_] [_] this
 |short=>decide
theorem d8{w x:List UInt8}(hs:(w++x).length<=1000):∀(ps:List aI)(v:LS),0<=v.pl->aW w.toArray v ps->aW (w++x).toArray v ps
 |[],_,_,_=>trivial
 |p::r,v,h0,h=>⟨sL h.1 h0 hs,d8 hs r (p.next v) (by rw[gY];have:=Z2 h.1;exact ao KG [_,_] [] h0 this) h.2⟩
theorem jV{w x:List UInt8}:∀(ps:List aI)(v:LS),0<=v.pl->aW w.toArray v ps->bu (w++x).toArray v (ps.map Md)=bu w.toArray v (ps.map Md)
 |[],_,_,_=>rfl
 |p::r,v,h0,h=>by
  have ih:=jV (x:=x) r (p.next v) (by rw[gY];have:=Z2 h.1;exact ao KG [_,_] [] h0 this) h.2;show io _ v (Md p)::bu _ (p.next v) (r.map Md)=io _ v (Md p)::bu _ (p.next v) (r.map Md);rw[ih];have hf:v.pl+p.len<=w.length:=h.1.2;induction p with
  |lit=>have hf:v.pl+1<=w.length:=hf;show[_,OD (au _ v.pl) 0]::_=[_,OD (au _ v.pl) 0]::_;rw[ki h0 hf]
  |mat d sz=>rfl
  |rep i sz=>rfl
  |short=>rfl
inductive PS(w:List UInt8)(ps:List aI)(v:LS):Prop where
 |mk(val:aW w.toArray v0 ps)
  (run:rV v0 ps=v)
  (pl:v.pl=w.length)
  (bl:v.back.length=4)
  (bk:∀b∈v.back,1<=b/\(b<=w.length∨b=1))
  (st:w=[]->v.st<7)
  (small:w.length<=25*ps.length)
theorem PS.nil:PS [] [] v0:=⟨trivial,rfl,rfl,rfl,by
 intro b hb;have:b=1:=by simp only[v0,MT,TP,or_false] at hb;lia
 exact⟨af 0x421001388283b0200e [_] [] this,.inr this⟩,λa=>by decide,MD _⟩
theorem PS.b0(h:PS w ps v)(hi:i<=3):1<=v.back.getD i 0/\(w≠[]->v.back.getD i 0<=w.length):=by
 have hl:=h.4;have:v.back.getD i 0∈v.back:=by rw[Mx,MH (by exact ao 0x845080007a0a1289e2098854140f [] [_,_] hi hl)];exact TX _
 obtain z3:=h.5 _ this;have b1:=z3.1;have b2:=z3.2;refine⟨b1,λhw=>?_⟩;have:0<w.length:=U4.mpr hw;lia
theorem PS.lit(h:PS w ps v)(hp:ps.length<=3)(u:UInt8):PS (w++[u]) (ps++[.lit]) (aI.lit.next v)/\bu (w++[u]).toArray v0 ((ps++[aI.lit]).map Md)=bu w.toArray v0 (ps.map Md)++[[.str "lit" 0,.int u.toNat 0]]:=by
 have hs:=h.7;have hpl:=h.3;have hll:(w++[u]).length=w.length+1:=by simp
 have hl1:(w++[u]).length<=1000:=aS 0x422843928000b6242b82a3b5904490ac8f142312fa041318 [] [_,_,_] hp hs hll;refine⟨⟨(j0 ..).mpr ⟨d8 hl1 ps v0 (by decide) h.1,?_⟩,by rw[mu,h.2],?_,h.4,λb hb=>?_,λz=>?_,by rw[hll,MI];show w.length+1<=25*(ps.length+1);exact af 0x1080004eb208904c822847904488267b3a [] [_,_] hs⟩,?_⟩
 ·rw[h.2];refine⟨hl1,?_,nofun,nofun,λa h7=>?_,λz=>absurd rfl z,λz=>absurd rfl z⟩;·show v.pl+1<=((w++[u]).length:Int);exact ao 0x423840003d142382a395e0a11bc416701c [_] [_,_] hpl hll
  ·have hw:w≠[]:=λz=>h7 (h.6 z);have:=h.b0 (i:=0) (by decide);exact⟨this.1,by rw[hpl];exact this.2 hw⟩
 ·show v.pl+1=((w++[u]).length:Int);exact ao 0x108a10800f423840003d142382a395e0a11bc416721c [_] [_,_] hpl hll
 ·obtain z2:=h.5 b hb;have p1:=z2.1;have p2:=z2.2;constructor<;>lia
 ·have:=congrArg VQ z;rw[hll] at this;cases this
 ·rw[mE,h.2,jV ps v0 (by decide) h.1];show _++[[_,OD (au _ v.pl) 0]]=_;rw[hpl,bU];show _++[[_,OD (((w++[u]).getD w.length 0).toNat:Int) 0]]=_;rw[Mx,MZ (MD _),Nr];rfl
theorem nV:∀(c:Nat)(w:List UInt8)(d:Nat),(bf w d c).length=c
 |0,_,_=>rfl
 |c+1,w,d=>by rw[iG,MW,nV]
theorem jY{a b:List UInt8}(h:i<a.length):(a++b).getD i 0=a.getD i 0:=by rw[Mx,Mx,M8 h]
theorem aap(a:List UInt8)(u:UInt8):(a++[u]).getD a.length 0=u:=by rw[Mx,MZ (MD _),Nr];rfl
theorem l8:∀(c:Nat)(w:List UInt8)(d:Nat),1<=d->d<=w.length->∀j,j<c->(w++bf w d c).getD (w.length+j) 0=(w++bf w d c).getD (w.length+j-d) 0
 |0,_,_,_,_,j,hj=>absurd hj (Qz j)
 |c+1,w,d,d0,d1,j,hj=>by
  have e:w++bf w d (c+1)=(w++[w.getD (w.length-d) 0])++bf (w++[w.getD (w.length-d) 0]) d c:=by show w++(_::_)=_;rw[NJ];rfl
  rw[e];induction j with
  |zero=>rw[VB];exact((jY (by rw[MI,Nh];exact MD _)).trans (aap ..)).trans ((jY (by rw[MI,Nh];exact ao 0x108610000f54a09a14765023128a11c141c [] [_,_,_] d0 (Mf d1))).trans (jY (ao K1 [] [_,_,_] d0 (Mf d1)))).symm
  |succ j=>have:=l8 c (w++[w.getD (w.length-d) 0]) d d0 (by rw[MI];exact Nk d1 (Og _ _)) j (af 0x42000138a11c4133e14d4140f [] [_,_] hj);rw[MI,Nh] at this;rw[show w.length+(j+1)=w.length+1+j from ck 0x4035104cf71423826e541 [] [_,_]];exact this
theorem PS.aaw(h:PS w ps v)(hp:ps.length<=3){p:aI}{c:Nat}(hl:p≠.lit)(hd:p.Y7 v=d)(d0:1<=d)(d1:d<=w.length)(hc:p.len=c)(c1:c<=25)(mat:∀d sz,p=.mat d sz->2<=sz/\sz<=273)(rep:∀i sz,p=.rep i sz->i<=3/\2<=sz/\sz<=273)(c0:1<=c)(nb:(p.next v).back.length=4)(nbk:∀b∈(p.next v).back,b∈v.back∨b=d):PS (w++bf w d c) (ps++[p]) (p.next v)/\bu (w++bf w d c).toArray v0 ((ps++[p]).map Md)=bu w.toArray v0 (ps.map Md)++[p.vals]:=by
 have hs:=h.7;have hpl:=h.3;have hll:(w++bf w d c).length=w.length+c:=by rw[MI,nV]
 have hl1:(w++bf w d c).length<=1000:=iX 0x108e11421c94000712d0ae0a8f56411342b23c890ac5b142312fa041318 [] [_,_,_,_] hp c1 hs hll;refine⟨⟨(j0 ..).mpr ⟨d8 hl1 ps v0 (by decide) h.1,?_⟩,by rw[mu,h.2],by rw[gY,hll];exact ao 0x847084007a11420001ebc141f5e44429504fcc167229 [_,_] [_,_] hc hpl,nb,λb hb=>?_,λz=>?_,by rw[hll,MI];show w.length+c<=25*(ps.length+1);exact ao 0x421840003d2c82241321c8a118ac48579044a8267b3b [] [_,_,_] c1 hs⟩,?_⟩
 ·rw[h.2];refine⟨hl1,?_,mat,rep,λz=>absurd z hl,λa=>by rw[hd];exact aS 0x211c21001e84000275e0a11a8261f408c3f7145e040972a [_] [_,_] d0 d1 hpl,λa j hj=>?_⟩;·show v.pl+p.len<=((w++bf w d c).length:Int);exact aS 0x84b08a100014d4857054765e0a12af22214bcc16701c [_,_] [_,_,_] hc hpl hll
  ·have:=l8 c w d d0 d1 j (ao 0x108a10000f6e290faf0508d4140f [_] [_,_] hc hj);rw[hpl,hd,show((w.length:Int)+(j:Int))=((w.length+j:Nat):Int) from rfl,show((w.length+j:Nat):Int)-(d:Int)=((w.length+j-d:Nat):Int) by exact af 0x1080004e108009d413968569d2bd797a827d2b1a34 [] [_,_,_,_] (Mf (af 0x219420001ea8261f2a11c131d [] [_,_,_] d1)),bU,bU];exact congrArg (λu:UInt8=>(u.toNat:Int)) this
 ·rcases nbk b hb with hb|rfl;·obtain z1:=h.5 b hb;have p1:=z1.1;have p2:=z1.2;constructor<;>lia
  ·constructor<;>lia
 ·have:=congrArg VQ z;rw[hll] at this;have:w.length+c=0:=this;exact Cz 0x10ca1142184000692a11a546ea0987d0230f [] [_,_,_] d0 d1 this
 ·rw[mE,h.2,jV ps v0 (by decide) h.1];induction p with
  |lit=>exact absurd rfl hl
  |mat d sz=>rfl
  |rep i sz=>rfl
  |short=>rfl
variable{ds:List (List Me)}
theorem bL.keep(T:bL J x ds)(h:∀a c,(a=x∨∃xs,c=.tup xs)->J a=Md c->J' a=Md c):bL J' x ds:=by refine ae T λas z15=>?_;exact⟨as,h _ _ (.inl rfl) z15.1,z15.2.1,λj d e=>by refine ae (z15.2.2 j d e) λa z14=>?_;exact⟨a,z14.1,h _ _ (.inr ⟨_,rfl⟩) z14.2⟩⟩
variable{d:List Me}
theorem bL.Y4(T:bL J x ds)(h:J x=Md (.list xs))(ht:J t=Md (.tup d)):bL (upd J x (.list (xs++[.ref t]))) x (ds++[d]):=by
 refine ae T λas z13=>?_;have h1:=z13.1;rw[h] at h1;injection MJ h1 with h1;subst h1
 have ne:∀{a c},J a=Md (.tup c)->a≠x:=λe=>gZ e h nofun
 refine⟨as++[t],(aa _ _ _).trans (by simp),by simp[z13.2.1],λj e he=>?_⟩;by_cases hj:j<ds.length;·rw[M8 hj] at he;refine ae (z13.2.2 j e he) λa z12=>?_;exact⟨a,by rw[M8 (by exact ao KD [] [_,_,_] z13.2.1 hj)];exact z12.1,(ag _ _ (ne z12.2)).trans z12.2⟩
 ·have hlt:=(ML.mp he).1;rw[MI,Nh] at hlt;obtain rfl:j=ds.length:=ao 0x4200013842002714238283950530954150f [] [_,_] hj hlt;rw[MZ (MD _),Nr] at he;obtain rfl:d=e:=MJ he;exact⟨t,by rw[MZ (Ot z13.2.1),z13.2.1,Nr];rfl,(ag _ _ (ne ht)).trans ht⟩
noncomputable def kN(w:List UInt8):List Value:=w.map λu=>.int u.toNat 0
inductive SM(J0 J:Sg)(ja wa sa da ba:Ml)(k:Int)(w:List UInt8)(ts ds:List (List Me))(bk:List Int):Prop where
 |mk(LZ:nl J ja k)
  (wo:J wa=Md (.list (kN w)))
  (so:bL J sa ts)
  (dd:bL J da ds)
  (bo:J ba=Md (.list (bt bk)))
  (ne:wa≠sa/\wa≠da/\sa≠da/\ja≠wa/\ja≠sa/\ja≠da)
  (nb:ba≠ja/\ba≠wa/\ba≠sa/\ba≠da)
  (ch:Ch (λa=>a=ja) J0 J)
  (nw:J0 wa=Mr/\J0 sa=Mr/\J0 da=Mr)
variable{ba:Ml}{bk bk':List Int}
section
variable{wa:Ml}{ts:List (List Me)}
theorem SM.sub(S:SM J0 J ja wa sa da ba k w ts ds bk)(T:Sub J J'):SM J0 J' ja wa sa da ba k w ts ds bk:=
 ⟨S.1.sub T,T _ _ S.2,S.3.keep λa a a e=>T _ _ e,S.4.keep λa a a e=>T _ _ e,T _ _ S.5,S.6,S.7,S.8.trans (Ch.of T),S.9⟩
theorem SM.jar{k':Int}(S:SM J0 J ja wa sa da ba k w ts ds bk)(LZ:nl J' ja k')(C:Ch (λa=>a=ja) J J'):SM J0 J' ja wa sa da ba k' w ts ds bk:=by
 refine ga S.1 λg m t z11=>?_;have kp:∀{x:Ml},x≠ja->∀a c,(a=x∨∃xs,c=Cell.tup xs)->J a=Md c->J' a=Md c:=λhx a c h e'=>C.1 a c (λz=>by
  rcases h with h|⟨xs,rfl⟩;·exact hx (h.symm.trans z)
  ·exact gZ e' z11.1 nofun z) e'
 exact⟨LZ,C.1 _ _ S.6.2.2.2.1.symm S.2,S.3.keep (kp S.6.2.2.2.2.1.symm),S.4.keep (kp S.6.2.2.2.2.2.symm),C.1 _ _ S.7.1 S.5,S.6,S.7,S.8.trans C,S.9⟩
theorem SM.put(S:SM J0 J ja wa sa da ba k w ts ds bk)(u:UInt8):SM J0 (upd J wa (.list (kN (w++[u])))) ja wa sa da ba k (w++[u]) ts ds bk:=by
 refine ga S.1 λg m t z10=>?_;have kp:∀{x:Ml},x≠wa->∀a c,(a=x∨∃xs,c=Cell.tup xs)->J a=Md c->upd J wa (.list (kN (w++[u]))) a=Md c:=λhx a c h e'=>(ag _ _ (λz=>by
  rcases h with h|⟨xs,rfl⟩;·exact hx (h.symm.trans z)
  ·exact gZ e' S.2 nofun z)).trans e'
 have U:=Ch.upd (P:=λa=>a=wa) J rfl (.list (kN (w++[u])));exact⟨⟨g,m,t,(ag _ _ S.6.2.2.2.1).trans z10.1,z10.2⟩,aa _ _ _,S.3.keep (kp S.6.1.symm),S.4.keep (kp S.6.2.1.symm),(ag _ _ S.7.2.1).trans S.5,S.6,S.7,⟨λa c h e'=>U.1 _ _ (yx e' S.9.1) (S.8.1 a c h e'),λa h=>S.8.2 _ (U.2 _ h)⟩,S.9⟩
theorem SM.step(S:SM J0 J ja wa sa da ba k w ts ds bk)(h:J sa=Md (.list xs))(ht:J t=Md (.tup d)):SM J0 (upd J sa (.list (xs++[.ref t]))) ja wa sa da ba k w (ts++[d]) ds bk:=by
 refine ga S.1 λg m tt z9=>?_;have kp:∀{x:Ml},x≠sa->∀a c,(a=x∨∃xs,c=Cell.tup xs)->J a=Md c->upd J sa (.list (xs++[.ref t])) a=Md c:=λhx a c h' e'=>(ag _ _ (λz=>by
  rcases h' with h'|⟨xs,rfl⟩;·exact hx (h'.symm.trans z)
  ·exact gZ e' h nofun z)).trans e'
 have U:=Ch.upd (P:=λa=>a=sa) J rfl (.list (xs++[.ref t]));exact⟨⟨g,m,tt,(ag _ _ S.6.2.2.2.2.1).trans z9.1,z9.2⟩,(ag _ _ S.6.1).trans S.2,S.3.Y4 h ht,S.4.keep (kp S.6.2.2.1.symm),(ag _ _ S.7.2.2.1).trans S.5,S.6,S.7,⟨λa c h e'=>U.1 _ _ (yx e' S.9.2.1) (S.8.1 a c h e'),λa h=>S.8.2 _ (U.2 _ h)⟩,S.9⟩
theorem SM.due(S:SM J0 J ja wa sa da ba k w ts ds bk)(h:J da=Md (.list xs))(ht:J t=Md (.tup d)):SM J0 (upd J da (.list (xs++[.ref t]))) ja wa sa da ba k w ts (ds++[d]) bk:=by
 refine ga S.1 λg m tt z8=>?_;have kp:∀{x:Ml},x≠da->∀a c,(a=x∨∃xs,c=Cell.tup xs)->J a=Md c->upd J da (.list (xs++[.ref t])) a=Md c:=λhx a c h' e'=>(ag _ _ (λz=>by
  rcases h' with h'|⟨xs,rfl⟩;·exact hx (h'.symm.trans z)
  ·exact gZ e' h nofun z)).trans e'
 have U:=Ch.upd (P:=λa=>a=da) J rfl (.list (xs++[.ref t]));exact⟨⟨g,m,tt,(ag _ _ S.6.2.2.2.2.2).trans z8.1,z8.2⟩,(ag _ _ S.6.2.1).trans S.2,S.3.keep (kp S.6.2.2.1),S.4.Y4 h ht,(ag _ _ S.7.2.2.2).trans S.5,S.6,S.7,⟨λa c h e'=>U.1 _ _ (yx e' S.9.2.2) (S.8.1 a c h e'),λa h=>S.8.2 _ (U.2 _ h)⟩,S.9⟩
theorem SM.back(S:SM J0 J ja wa sa da ba k w ts ds bk){b':Ml}(T:Sub J J')(h:J b'=Mr)(e:J' b'=Md (.list (bt bk'))):SM J0 J' ja wa sa da b' k w ts ds bk':=by
 have S':=S.sub T;refine ga S.1 λg m t z7=>?_;refine ae S.3 λas z6=>?_;refine ae S.4 λad z5=>?_;have ne:∀{a:Ml}{c:Cell},J a=Md c->b'≠a:=λe' z=>by rw[<-z,h] at e';cases e'
 exact⟨S'.1,S'.2,S'.3,S'.4,e,S.6,⟨ne z7.1,ne S.2,ne z6.1,ne z5.1⟩,S'.8,S.9⟩
end
variable{s:Np}
section
variable{st:List Me}{kc:T}
variable{wa:Ml}{ts:List (List Me)}
theorem ou(w:List UInt8)(u:UInt8):kN w++[.int u.toNat 0]=kN (w++[u]):=by unfold kN;rw[Od];rfl
theorem cj(w:List UInt8):(kN w).length=w.length:=by unfold kN;rw[Mu]
theorem rg(h:i<w.length):(kN w)[i]?=Md (.int (w.getD i 0).toNat 0):=by unfold kN;rw[MM,Mx,MH h];rfl
theorem GY{k:T}(q:X Z n Q K J E st .WZ):X Z n Q (.sq st' k::K) J E st .WZ:=q
noncomputable abbrev E5(wa sa da ba ja:Ml)(r:Loc):Loc:=(Kj,.ref wa)::(Kc,.ref sa)::(JZ,.ref da)::(Kk,.ref ba)::(Ki,.ref ja)::r
noncomputable abbrev E8(wa sa da ba ja:Ml)(s:Np)(sp c:Int):Loc:=E5 wa sa da ba ja [(Kl,.str s 0),(JB,.int sp 0),(I8,.int c 0)]
noncomputable abbrev BT:T:=(.ld Kj<|.bm JK<|.cst (.ref 1113)<|.ld Ki<|.cst (.int 256 0)<|.call 2<|.cb 1<|.pop<|.ld Kc<|.bm JK<|.cst (.str "lit" 0)<|.Xz 1<|.cb 1<|.pop<|.ld JZ<|.bm JK<|.cst (.str "lit" 0)<|.ld Kj<|.cst (.int 1 0)<|.neg<|.idx<|.Xz 2<|.cb 1<|.pop<|.WZ)
theorem wD(G:Good Z Kg)(hn:0<n)(S:SM J0 J ja wa sa da ba k w ts ds bk)(hk:k<=1000)(hw:w.length<=1000)(ht:ts.length<=1000)(hd:ds.length<=1000){r:Loc}(q:∀u J',SM J0 J' ja wa sa da ba (k+1) (w++[u]) (ts++[[.str "lit" 0]]) (ds++[[.str "lit" 0,.int u.toNat 0]]) bk->X Z n Q K J' (E5 wa sa da ba ja r) [] .WZ):X Z n Q K J (E5 wa sa da ba ja r) [] BT:=by have w0:=S.2;lk;refine(aF G hn S.1 (o9 hk rfl) (by decide) (by decide)).X3 λJ1 r r0 r1 Ma C1=>?_;have S1:=S.jar Ma C1;lk;refine eI S1.2 (by rw[cj];exact c6 hw rfl) ?_;obtain⟨u,hu⟩:∃u:UInt8,r=(u.toNat:Int):=⟨PB r.toNat,by rw[Vj];rw[Nat.mod_eq_of_lt (by lia)];exact af L9 [_] [_] (MF r0)⟩;rw[hu];rw[ou];have S2:=S1.put u;generalize upd J1 wa _=J2 at*;refine ae (id S2.3) λas z4=>?_;have hs1:=z4.1;lk;intro t1 ht1;have S3:=S2.sub (Wu ht1 (.tup [.str "lit" 0]));have ht1':=aG (Wu ht1 (.tup [.str "lit" 0]));have hs1:=Wu ht1 (.tup [.str "lit" 0]) _ _ hs1;generalize upd J2 t1 _=J3 at*;lk;refine eI hs1 (by rw[Mu];exact ur z4.2.1 ht rfl) ?_;have S4:=S3.step hs1 ht1';generalize upd J3 sa _=J4 at*;refine ae (id S4.4) λad z3=>?_;have hd1:=z3.1;lk;refine lx S4.2 (by decide) (by decide) (by rw[cj,MI,Nh];exact ck LL [] [_]) (rg (w:=w++[u]) (i:=w.length) (by rw[MI,Nh];exact MD _)|>λe=>by rw[cj,MI,Nh,show((-1:Int)+((w.length+1:Nat):Int)).toNat=w.length from ao Lj [] [_,_] (Ni _) (MF (ck LL [] [_]))];exact e) ?_;rw[show(w++[u]).getD w.length 0=u by rw[Mx,MZ (MD _),Nr];rfl];lk;intro t2 ht2;have S5:=S4.sub (Wu ht2 (.tup [.str "lit" 0,.int u.toNat 0]));have ht2':=aG (Wu ht2 (.tup [.str "lit" 0,.int u.toNat 0]));have hd1:=Wu ht2 (.tup [.str "lit" 0,.int u.toNat 0]) _ _ hd1;generalize upd J4 t2 _=J5 at*;lk;refine eI hd1 (by rw[Mu];exact ur z3.2.1 hd rfl) ?_;have S6:=S5.due hd1 ht2';exact tM (q u _ S6)
theorem uD(S:SM J0 J ja wa sa da ba k w ts ds bk){d c:Nat}(hb:bk.length=4)(hb0:bk.getD 0 0=d)(d0:1<=d)(d1:d<=w.length)(hw:w.length<=1000)(hc:c<=100){sp:Int}(q:∀J',SM J0 J' ja wa sa da ba k (w++bf w d c) ts ds bk->X Z n Q K J' (E8 wa sa da ba ja s sp c) [] kc):X Z n Q K J (E8 wa sa da ba ja s sp c) [] (.cst (.int 0 0)<|.ld I8<|.WA (.rng Mh) (.st 1668247673<|.ld Kj<|.bm JK<|.ld Kj<|.ld Kk<|.cst (.int 0 0)<|.idx<|.neg<|.idx<|.cb 1<|.pop<|.Wz)<|kc):=by
 lk;refine mS (c:=c) (c6 hc rfl) (λm E' J'=>m<=c/\E'=E8 wa sa da ba ja s sp c/\∃done,SM J0 J' ja wa sa da ba k (w++done) ts ds bk/\done.length=m/\done++bf (w++done) d (c-m)=bf w d c) ⟨_,⟨Nc _,rfl,[],by rw[NG];exact S,rfl,by rw[NG];rfl⟩,rfl⟩ ?_ ?_
 ·intro m E' J' Q' hm I0 hnext _ _;rw[I0.2.1];refine ae I0.2.2 λdone z2=>?_;have hdn:=z2.2.2;obtain⟨e,he⟩:∃e,c-m=e+1:=⟨c-m-1,af Ky [] [_,_] (Mf (ao KM [] [_,_,_] hm (Mf (af Kx [] [_,_] hm))))⟩;have he':c-(m+1)=e:=aS Kw [] [_,_,_,_,_] he (Mf (af KB [] [_,_] hm)) (Mf (af Kx [] [_,_] hm));rw[he] at hdn;have w0:=z2.1.2;lk;refine av z2.1.5 (by decide) (by decide) (fK (i:=0) (af 0x842002704151180c0c [] [_] hb)) ?_;rw[hb0];have hl:(w++done).length=w.length+m:=by rw[MI,z2.2.1]
  lk;refine lx z2.1.2 (by exact af 0x4200013a0461f7c4111 [] [_] d0) (aS 0x847086100014c000000000000000082937e814231aa8261f7dc2015 [_] [_,_] d1 hw d5) (by rw[cj];exact ao 0x43384508000a75215d09482504c42bdf10c0822 [] [_,_,_,_] d1 hl) (rg (w:=w++done) (i:=(w++done).length-d) (by exact ao K1 [] [_,_,_] d0 (Mf (ao Lf [] [_,_,_,_] d1 hl)))|>λe=>by rw[cj,show(-(d:Int)+(((w++done).length:Nat):Int)).toNat=(w++done).length-d from aS 0x423840003d09210800f6a54234a906bcbe2ddc54557d797c5b701554150f [] [_,_,_,_] (Ni _) (MF (ao 0x43384508000a75215d09482504c42bdf10c0822 [] [_,_,_,_] d1 hl)) (Mf (ao Lf [] [_,_,_,_] d1 hl))];exact e) ?_;lk;refine eI z2.1.2 (by rw[cj];exact iX 0x108e114218400069aa11c151d968582790485631f40a118d61a804131f [] [_,_,_,_] hw hc hm hl) ?_;rw[ou];have S2:=z2.1.put ((w++done).getD ((w++done).length-d) 0);refine tM (fu (hnext ⟨_,⟨hm,rfl,done++[(w++done).getD ((w++done).length-d) 0],by rw[<-NJ];exact S2,by simp[z2.2.1],?_⟩,rfl⟩));rw[he',<-hdn,<-NJ];show _=done++(_::_);simp
 ·intro E' J' I0;rw[I0.2.1];refine ae I0.2.2 λdone z1=>?_;have hdn:=z1.2.2;rw[Nr] at hdn;have e:done=bf w d c:=by rw[<-hdn,show bf _ d 0=[] from rfl,NG]
  exact q J' (by rw[<-e];exact z1.1)
end
variable{d:Int}
section
variable{st:List Me}{wa:Ml}{ts:List (List Me)}
theorem E7{k:T}{key:Me}{keys:List Me}{p:Me×Me}(h:take? keys.length st=Md (vs,st'))(hf:(keys.zip vs).find? (λp=>p.1==key)=Md p)(q:X Z n Q K J E (p.2::st') k):X Z n Q K J E (key::st) (.sel keys k):=λρ hr=>⟨vs,st',p,h,hf,q ρ hr⟩
theorem SM.aaN(S:SM J0 J ja wa sa da ba k w ts ds bk)(h:J x=Mr):x≠ja:=λz=>by refine ga S.1 λg m t z5=>?_;have e:=z5.1;rw[<-z,h] at e;cases e
noncomputable abbrev Fm:T:=(.cst (.int 2 0)<|.cst (.int 10 0)<|.cst (.int 18 0)<|.Xa 3<|.cst (.ref 1113)<|.ld Ki<|.cst (.int 3 0)<|.call 2<|.idx<|.cst (.ref 1113)<|.ld Ki<|.cst (.int 8 0)<|.call 2<|.bin .add<|.st I8<|.Wz)
theorem og(G:Good Z Kg)(hn:0<n)(S:SM J0 J ja wa sa da ba k w ts ds bk)(hk:k<=1000){sp c0:Int}(q:∀(c:Nat) J',2<=c->c<=25->SM J0 J' ja wa sa da ba (k+2) w ts ds bk->X Z n Q K J' (E8 wa sa da ba ja s sp c) [] .Wz):X Z n Q K J (E8 wa sa da ba ja s sp c0) [] Fm:=by
 lk;intro x hx;have hxj:=S.aaN hx;have S1:=S.sub (Wu hx (.list [.int 2 0,.int 10 0,.int 18 0]));have hx':=aG (Wu hx (.list [.int 2 0,.int 10 0,.int 18 0]));generalize upd J x _=J1 at*;lk;refine(aF G hn S1.1 (o9 hk rfl) (by decide) (by decide)).X3 λJ2 r r0 r1 LP C2=>?_;have S2:=S1.jar LP C2;have hx2:=C2.1 _ _ hxj hx';obtain⟨b,hb,b0,b1⟩:∃b:Nat,[OD 2 0,.int 10 0,.int 18 0][r.toNat]?=Md (.int b 0)/\2<=b/\b<=18:=by
  have:r=0∨r=1∨r=2:=by lia
  rcases this with rfl|rfl|rfl;·exact⟨2,rfl,by decide,by decide⟩
  ·exact⟨10,rfl,by decide,by decide⟩
  ·exact⟨18,rfl,by decide,by decide⟩
 lk;refine av hx2 r0 (o9 r1 rfl) hb ?_;lk;refine(aF G hn S2.1 (ill hk rfl) (by decide) (by decide)).X3 λJ3 e e0 e1 Mb C3=>?_;refine ae (MX e0) λe z4=>?_;obtain rfl:=z4;have S3:=S2.jar Mb C3;have:=q (b+e) J3 (by exact Nk b0 (Og _ _)) (ao 0x843080007a0571c8bc841313c8a8267b20 [] [_,_] b1 e1) (by rw[show k+2=k+1+1 by exact ck 0x100c44167384167a33 [_] []];exact S3);rw[Uj] at this;exact mL (w:=Mj) 2 Mh K _ _ _ this
noncomputable def pZ(s:Np)(d:Int)(sp:Nat)(c:Nat):List Value:=if s="match" then[.str "match" 0,.int d 0,.int c 0] else if s="rep" then[.str "rep" 0,.int sp 0,.int c 0] else[.str "short" 0]
noncomputable abbrev AJ:T:=(.ld Kc<|.bm JK<|.cst (.str "match" 0)<|.ld Kk<|.cst (.int 0 0)<|.idx<|.ld I8<|.Xz 3<|.cst (.str "rep" 0)<|.ld JB<|.ld I8<|.Xz 3<|.cst (.str "short" 0)<|.Xz 1<|.ld Kl<|.sel [(.str "match" 0),(.str "rep" 0),(.str "short" 0)]<|.cb 1<|.pop<|.ld JZ<|.bm JK<|.ld Kc<|.cst (.int 1 0)<|.neg<|.idx<|.cb 1<|.pop<|.Wz)
theorem ve(S:SM J0 J ja wa sa da ba k w ts ds bk){sp c:Nat}(hs:s="match"∨s="rep"∨s="short")(hb:bk.length=4)(hb0:bk.getD 0 0=d)(ht:ts.length<=1000)(hd:ds.length<=1000)(q:∀J',SM J0 J' ja wa sa da ba k w (ts++[pZ s d sp c]) (ds++[pZ s d sp c]) bk->X Z n Q K J' (E8 wa sa da ba ja s sp c) [] .Wz):X Z n Q K J (E8 wa sa da ba ja s sp c) [] AJ:=by
 refine ae (id S.3) λas z3=>?_;have hs1:=z3.1;have hs2:=z3.2.1;lk;refine av S.5 (by decide) (by decide) (fK (i:=0) (af 0x842002704151180c0c [] [_] hb)) ?_;rw[hb0];lk;intro t1 h1;have N1:=Wu h1 (.tup [.str "match" 0,.int d 0,.int c 0]);have S1:=S.sub N1;have a1:=aG N1;generalize upd J t1 _=J1 at*;lk;intro t2 h2;have N2:=Wu h2 (.tup [.str "rep" 0,.int sp 0,.int c 0]);have S2:=S1.sub N2;have a1:=N2 _ _ a1;have a2:=aG N2;generalize upd J1 t2 _=J2 at*;lk;intro t3 h3;have N3:=Wu h3 (.tup [.str "short" 0]);have S3:=S2.sub N3;have a1:=N3 _ _ a1;have a2:=N3 _ _ a2;have a3:=aG N3;generalize upd J2 t3 _=J3 at*;have hs1:=N3 _ _ (N2 _ _ (N1 _ _ hs1));have hsel:bM λt key=>([(Q8 "match" 0),(.str "rep" 0),(.str "short" 0)].zip [MK t1,.ref t2,.ref t3]).find? (λp=>p.1==Q8 s 0)=Md (key,.ref t)/\J3 t=Md (.tup (pZ s d sp c)):=by
  rcases hs with rfl|rfl|rfl;·exact⟨t1,_,rfl,a1⟩
  ·exact⟨t2,_,rfl,a2⟩
  ·exact⟨t3,_,rfl,a3⟩
 refine bI hsel λt key z2=>?_;have hf:=z2.1;have ht':=z2.2;lk;refine E7 rfl hf ?_;lk;refine eI hs1 (by rw[Mu];exact ur hs2 ht rfl) ?_;have S4:=S3.step hs1 ht';have hs4:=aa J3 sa (.list (as.map MK++[.ref t]));have ht4:upd J3 sa (.list (as.map MK++[.ref t])) t=Md (.tup (pZ s d sp c)):=(ag _ _ (gZ ht' hs1 nofun)).trans ht';generalize upd J3 sa _=J4 at*;refine ae (id S4.4) λad z1=>?_;have hd1:=z1.1;have hd2:=z1.2.1;lk;refine lx hs4 (by decide) (by decide) (by rw[MI,Nh];exact ck LL [] [_]) (v:=.ref t) (by rw[MI,Nh,show((-1:Int)+(((as.map MK).length+1:Nat):Int)).toNat=(as.map MK).length from ao Lj [] [_,_] (Ni _) (MF (ck LL [] [_])),MZ (MD _),Nr];rfl) ?_;lk;refine eI hd1 (by rw[Mu];exact ur hd2 hd rfl) ?_;exact tM (q _ (S4.due hd1 ht4))
theorem l5(S:SM J0 J ja wa sa da ba k w ts ds bk){d sp c:Nat}(hs:s="match"∨s="rep"∨s="short")(hb:bk.length=4)(hb0:bk.getD 0 0=d)(d0:1<=d)(d1:d<=w.length)(hw:w.length<=1000)(hc:c<=100)(ht:ts.length<=1000)(hd:ds.length<=1000)(q:∀J',SM J0 J' ja wa sa da ba k (w++bf w d c) (ts++[pZ s d sp c]) (ds++[pZ s d sp c]) bk->X Z n Q K J' (E8 wa sa da ba ja s sp c) [] .Wz):X Z n Q K J (E8 wa sa da ba ja s sp c) [] (.cst (.int 0 0)<|.ld I8<|.WA (.rng Mh) (.st 1668247673<|.ld Kj<|.bm JK<|.ld Kj<|.ld Kk<|.cst (.int 0 0)<|.idx<|.neg<|.idx<|.cb 1<|.pop<|.Wz)<|AJ):=
 uD S hb hb0 d0 d1 hw hc λa S'=>ve S' hs hb hb0 ht hd q
end
noncomputable abbrev GS:T:=.cst (.int 1 0)<|.cst (.ref 1113)<|.ld Ki<|.ld Kj<|.len<|.call 2<|.bin .add<|.Xa 1<|.ld Kk<|.cst .none<|.cst (.int 3 0)<|.sli<|.bin .add<|.st Kk<|.Wz
noncomputable abbrev GB:T:=.cst (.ref 1113)<|.ld Ki<|.cst (.int 4 0)<|.call 2<|.st JB<|.ld Kk<|.ld JB<|.idx<|.Xa 1<|.ld Kk<|.cst .none<|.ld JB<|.sli<|.bin .add<|.ld Kk<|.ld JB<|.cst (.int 1 0)<|.bin .add<|.cst .none<|.sli<|.bin .add<|.st Kk<|.Wz
section
variable{wa:Ml}{ts:List (List Me)}
theorem wd(G:Good Z Kg)(hn:0<n)(S:SM J0 J ja wa sa da ba k w ts ds bk)(hk:k<=1000)(hw:w.length<=1000)(hw0:w≠[])(hb:bk.length=4){sp c0:Int}(q:∀(d:Nat) b' J',1<=d->d<=w.length->SM J0 J' ja wa sa da b' (k+1) w ts ds ((d:Int)::bk.take 3)->X Z n Q K J' (E8 wa sa da b' ja s sp c0) [] .Wz):X Z n Q K J (E8 wa sa da ba ja s sp c0) [] GS:=by
 have hpos:0<w.length:=U4.mpr hw0;lk;refine YG S.2 (by rw[cj];exact c6 hw rfl) ?_;rw[cj];lk;refine(aF G hn S.1 (o9 hk rfl) (nF hpos) (by rw[Int.natAbs_natCast];exact Sr (Nat.log2_le_self _) (kI hw rfl))).Wr (MD _) ?_;intro _ J1 I0;refine ae I0 λr z3=>?_;rw[z3.1];have S1:=S.jar z3.2.2.2.1 z3.2.2.2.2;refine ae (MX z3.2.1) λr z2=>?_;obtain rfl:=z2;have hlen:(bt bk).length=4:=by unfold bt;rw[Mu];exact hb
 lk;intro x hx;have T1:=Wu hx (.list [.int (1+(r:Int)) 0]);lk;refine ix (T1 _ _ S1.5) (i:=0) (j:=3) rfl (Dq hlen rfl) λz hz=>?_;have T2:=T1.trans (Wu hz (.list (((bt bk).take 3).drop 0)));refine d7 (Wu hz _ _ _ (aa _ _ _)) (aa _ _ _) (by simp[hlen]) λv hv=>?_;have T3:=T2.trans (Wu hv (.list ([OD (1+(r:Int)) 0]++((bt bk).take 3).drop 0)));refine mL (w:=Mj) 1 Mh K _ _ _ (?_:X _ _ _ _ _ _ _ _);refine q (r+1) v _ (Ms _ _) (xT z3.2.2.1) (S1.back T3 (T2.none hv) ((aa _ _ _).trans ?_));have:(1+(r:Int))=((r+1:Nat):Int):=ck 0x403104fde046922d [] [_];rw[this];simp[bt,Rx]
theorem xe(G:Good Z Kg)(hn:0<n)(S:SM J0 J ja wa sa da ba k w ts ds bk)(hk:k<=1000)(hb:bk.length=4){sp c0:Int}(q:∀(i:Nat) b' J',i<=3->SM J0 J' ja wa sa da b' (k+1) w ts ds (fQ bk i)->X Z n Q K J' (E8 wa sa da b' ja s i c0) [] .Wz):X Z n Q K J (E8 wa sa da ba ja s sp c0) [] GB:=by
 lk;refine(aF G hn S.1 (o9 hk rfl) (by decide) (by decide)).X3 λJ1 r r0 r1 Ma C1=>?_;have S1:=S.jar Ma C1;refine ae (MX r0) λi z1=>?_;obtain rfl:=z1;have hi:i<=3:=af 0x420001382e2914c41310 [] [_] r1;have hlen:(bt bk).length=4:=by unfold bt;rw[Mu];exact hb
 lk;refine av S1.5 (Mt _) (o9 r1 rfl) (fK (i:=i) (by rw[hb];exact xT r1)) ?_;lk;intro x hx;have T1:=Wu hx (.list [.int (bk.getD i 0) 0]);lk;refine ix (T1 _ _ S1.5) (i:=0) (j:=i) ((sF (Mt _) (o9 r1 rfl)).trans (by rw[MO])) (Dq hlen rfl) λz hz=>?_;have T2:=T1.trans (Wu hz (.list (((bt bk).take i).drop 0)));refine d7 (Wu hz _ _ _ (aa _ _ _)) (aa _ _ _) (by simp[hlen];exact ao 0x421840003d504c3e0ae3916c3500a0467b2c [] [_,_] r1 (OS _ _)) λv hv=>?_;have T3:=T2.trans (Wu hv (.list ([OD (bk.getD i 0) 0]++((bt bk).take i).drop 0)));lk;refine ix (T3 _ _ S1.5) (i:=i+1) (j:=4) ((qv (Mt _) (ill r1 rfl)).trans (by rw[hlen];congr 1)) (Dq hlen rfl) λu hu=>?_;have T4:=T3.trans (Wu hu (.list (((bt bk).take 4).drop (i+1))));refine d7 (Wu hu _ _ _ (aa _ _ _)) (aa _ _ _) (by simp[hlen];exact ao 0x421840003d89508d2a4128262186a015104cf6e339 [] [_,_,_] (OS _ _) (Mf (af 0x420001382e2914c41310 [] [_] r1))) λp hp=>?_;have T5:=T4.trans (Wu hp (.list (([OD (bk.getD i 0) 0]++((bt bk).take i).drop 0)++((bt bk).take 4).drop (i+1))));refine mL (w:=Mj) 1 Mh K _ _ _ (?_:X _ _ _ _ _ _ _ _);refine q i p _ hi (S1.back T5 (T4.none hp) ((aa _ _ _).trans ?_));have:(bt bk).take 4=bt bk:=PM (Ot hlen);rw[this];simp[bt,fQ,Rx,Tz]
theorem uU(hb:bk.length=4)(hi:i<=3):∀b∈fQ bk i,b∈bk:=by
 intro b h;unfold fQ at h;refine Pl (MT.mp h) (λzz=>?_) (λh=>?_);rw[zz];·rw[Mx,MH (by exact ao 0x845084007b104c420a1289d4140f [] [_,_] hb hi)];exact TX _
 ·rcases Oq.mp h with h|h;·exact RO h
  ·exact List.mem_of_mem_drop h
end
section
variable{wa:Ml}{ts:List (List Me)}
inductive SI(J0:Sg)(ja wa sa da:Ml)(k:Int)(j:Nat)(ba:Ml)(J:Sg):Prop
 |mk (w:List UInt8) (ps:List aI) (v:LS) (hps:ps.length=j) (S:SM J0 J ja wa sa da ba (k+5*j) w (ps.map aI.vals) (bu w.toArray v0 (ps.map Md)) v.back) (P:PS w ps v)
inductive SE(J:Sg)(ja:Ml)(k:Int)(many:Nat)(u:Me)(J':Sg):Prop
 |mk (t sa da:Ml) (w:List UInt8) (ps:List aI) (v:LS) (e:u=.ref t) (ht:J' t=Md (.tup [.ref sa,.bytes w.toArray 0,.ref da])) (hs:J sa=Mr) (hd:J da=Mr) (T:bL J' sa (ps.map aI.vals)) (T':bL J' da (bu w.toArray v0 (ps.map Md))) (P:PS w ps v) (l:ps.length=many) (LZ:nl J' ja (k+20)) (C:Ch (λa=>a=ja) J J')
theorem SM.le{l:Int}(S:SM J0 J ja wa sa da ba k w ts ds bk)(h:k<=l):SM J0 J ja wa sa da ba l w ts ds bk:=⟨S.1.le h,S.2,S.3,S.4,S.5,S.6,S.7,S.8,S.9⟩
theorem SM.eq{ts' ds':List (List Me)}(S:SM J0 J ja wa sa da ba k w ts ds bk)(h1:ts=ts')(h2:ds=ds')(h3:bk=bk'):SM J0 J ja wa sa da ba k w ts' ds' bk':=by subst h1 h2 h3;exact S
theorem yg{sp c:Nat}:pZ "match" d sp c=(aI.mat d c).vals:=if_pos rfl
theorem vT{sp c:Nat}:pZ "rep" d sp c=(aI.rep sp c).vals:=(if_neg (by decide)).trans (if_pos rfl)
theorem vZ{sp c:Nat}:pZ "short" d sp c=aI.short.vals:=(if_neg (by decide)).trans (if_neg (by decide))
theorem ji(f:α->β)(l:List α)(a:α):(l++[a]).map f=l.map f++[f a]:=by rw[Od];rfl
theorem pn(G:Good Z Kg)(hn:2<=n)(LZ:nl J ja k)(k0:0<=k)(hk:k<=500){many:Nat}(m1:many<=4):ac Z n (.ref 1120) [.ref ja,.int many 0] J (SE J ja k many):=by
 refine run G (lq hn rfl) ?_;lk;intro wa hwa;have N1:=Wu hwa (.list []);have w1:=aG N1;lk;intro sa hsa;have N2:=Wu hsa (.list []);have w1:=N2 _ _ w1;have s1:=aG N2;lk;intro da hda;have N3:=Wu hda (.list []);have w1:=N3 _ _ w1;have s1:=N3 _ _ s1;have d1:=aG N3;lk;intro ba hba;have N4:=Wu hba (.list [.int 1 0,.int 1 0,.int 1 0,.int 1 0]);have w1:=N4 _ _ w1;have s1:=N4 _ _ s1;have d1:=N4 _ _ d1;have b1:=aG N4;lk;intro t0 ht0;have N5:=Wu ht0 (.tup [.ref wa,.ref sa,.ref da,.ref ba]);have w1:=N5 _ _ w1;have s1:=N5 _ _ s1;have d1:=N5 _ _ d1;have b1:=N5 _ _ b1;have T2:=N1.trans N2;have T3:=T2.trans N3;have T4:=T3.trans N4;have T5:=T4.trans N5;have zs:=N1.none hsa;have zd:=T2.none hda;have nn:∀{τ:Sg}{a b:Ml}{c:Cell},τ a=Md c->τ b=Mr->a≠b:=λe e' z=>by rw[z,e'] at e;cases e
 refine ga (id LZ) λg m tt z7=>?_;have q1:=nn (aG N1) hsa;have q2:=nn (N2 _ _ (aG N1)) hda;have q3:=nn (aG N2) hda;have q4:=nn z7.1 hwa;have q5:=nn (N1 _ _ z7.1) hsa;have q6:=nn (T2 _ _ z7.1) hda;have q7:=(nn (T3 _ _ z7.1) hba).symm;have q8:=(nn (N3 _ _ (N2 _ _ (aG N1))) hba).symm;have q9:=(nn (N3 _ _ (aG N2)) hba).symm;have q10:=(nn (aG N3) hba).symm;have t1:=aG N5;clear N1 N2 N3 N4 N5 T2 T3 T4;generalize Internal.upd _ t0 _=τ at*;have SM0:SM J τ ja wa sa da ba (k+5*(0:Nat)) [] ([].map aI.vals) (bu #[] v0 ([].map Md)) v0.back:=by exact⟨(LZ.sub T5).le (ck 0x7d03482e0826 [_] []),w1,⟨[],s1,rfl,nofun⟩,⟨[],d1,rfl,nofun⟩,b1,⟨q1,q2,q3,q4,q5,q6⟩,⟨q7,q8,q9,q10⟩,Ch.of T5,hwa,zs,zd⟩
 refine dO ?_ t1 rfl;lk;refine xA (λba (_ _:Unit)=>E5 wa sa da ba ja []) (λj ba f f J1=>SI J ja wa sa da k j ba J1) ba () () (c6 m1 rfl) ⟨[],[],v0,rfl,SM0,PS.nil⟩ rfl ?_ ?_
 ·intro j ba _ _ J1 Q' hj I0 hnext hcont;cases I0 with
  |mk w ps v hps S P=>
  have hsm:=P.7;have hbl:=P.4;have hts:(ps.map aI.vals).length=ps.length:=Mu ..;have hds:(bu w.toArray v0 (ps.map Md)).length=ps.length:=by rw[i9,Mu]
  lk;intro x hx;have hxj:=S.aaN hx;have N:=Wu hx (.list [.str "lit" 0,.str "match" 0,.str "rep" 0,.str "short" 0,.str "lit" 0]);have S:=S.sub N;have hx1:=aG N;generalize upd J1 x _=J2 at*;lk;refine(aF (n:=n-1) G (lp hn rfl) S.1 (aS 0xa315186100016d4140f8284627f41040b61a805e81a416f03b [_] [_,_] hk m1 hj) (by decide) (by decide)).X3 λJ3 r r0 r1 Mb C3=>?_;have S:=S.jar Mb C3;have hx3:=C3.1 _ _ hxj hx1;have litQ:∀{J4:Sg}{r:Loc}{t:T},SM J J4 ja wa sa da ba (k+5*(j:Int)+1) w (ps.map aI.vals) (bu w.toArray v0 (ps.map Md)) v.back->X Z (n-1) Q' [.sq [] t] J4 (E5 wa sa da ba ja r) [] BT:=λS4=>by refine wD G (lp hn rfl) S4 (aS KQ [_] [_,_] hk m1 hj) (iX KA [] [_,_,_,_] m1 hj hps hsm) (iX Kv [] [_,_,_,_] m1 hj hps hts) (iX Kv [] [_,_,_,_] m1 hj hps hds) λu J' S'=>GY (C7 ?_);obtain z5:=P.lit (aS KT [] [_,_,_] m1 hj hps) u;exact hcont ba () () ⟨w++[u],ps++[aI.lit],aI.lit.next v,by rw[MI,hps];rfl,(S'.le (ck 0x18827e81a417117a06905bceb7c06c [_] [_])).eq (show ps.map aI.vals++[[Q8 "lit" 0]]=(ps++[aI.lit]).map aI.vals from(ji aI.vals ps .lit).symm) z5.2.symm rfl,z5.1⟩ rfl
  have nonlit:∀(s:Np),(s="match"∨s="rep"∨s="short")->∀{A K:T},(w≠[]->∀J4,SM J J4 ja wa sa da ba (k+5*(j:Int)+1) w (ps.map aI.vals) (bu w.toArray v0 (ps.map Md)) v.back->X Z (n-1) Q' [] J4 (E5 wa sa da ba ja [(1953854062,.int j 0),(Kl,.str s 0)]) [] K)->
    X Z (n-1) Q' [] J3 (E5 wa sa da ba ja [(1953854062,.int j 0),(Kl,.str s 0)]) [] (.seq (.ld Kl<|.cst (.str "lit" 0)<|.eqv Mh<|.ite A (.ld Kj<|.Xa 0<|.eqv Mh<|.ite BT .Wz)) K):=by
   intro s hs A K hK
   have hne:M3 (s="lit")=false:=by rcases hs with rfl|rfl|rfl<;>decide
   refine kD (jP (aA (aO (r:=Mh) (iJ ?_) hne)) rfl)
   lk
   intro y hy
   have Ny:=Wu hy (.list [])
   have S4:=S.sub Ny
   by_cases hw:w=[]
   ·refine iB (r:=Mj) (.same (eR S4.2 (aG Ny) (by rw[hw];rfl) (by rw[hw];intro j v w e;cases e))) rfl (fJ ?_);exact litQ S4
   ·exact iB (r:=Mh) (.odd S4.2 (aG Ny) (by rw[cj];exact λz=>hw (List.length_eq_zero_iff.mp z))) rfl (iJ (nM (hK hw _ S4)))
  have kinds:r=0∨r=1∨r=2∨r=3∨r=4:=by lia
  lk;rcases kinds with rfl|rfl|rfl|rfl|rfl
  ·refine av hx3 (by decide) (by decide) rfl ?_;exact eG (kD (jP (aA (aO (r:=Mj) (fJ (litQ S)) (by decide))) rfl))
  ·refine av hx3 (by decide) (by decide) rfl ?_;refine eG (nonlit "match" (.inl rfl) λhw J4 S4=>?_);lk;intro y hy;have S5:=S4.sub (Wu hy (.tup [.int 0 0,.int 1 0]));refine dO ?_ (aa _ _ _) rfl;lk;refine aO (r:=Mj) ?_ (by decide);refine fJ (fP (wd (s:="match") (sp:=0) (c0:=1) G (lp hn rfl) S5 (aS KQ [_] [_,_] hk m1 hj) (iX KA [] [_,_,_,_] m1 hj hps hsm) hw P.4 λd b' J6 d0 d1 S6=>?_) rfl);refine nM (kD (jP (aA (wQ (r:=Mh) ?_ (by decide))) rfl));refine fJ (og G (lp hn rfl) S6 (aS Lc [_] [_,_] hk m1 hj) λc J7 c0 c1 S7=>?_);refine nM (l5 (s:="match") (d:=d) (sp:=0) (c:=c) S7 (.inl rfl) (by simp[P.4]) rfl d0 d1 (iX KA [] [_,_,_,_] m1 hj hps hsm) (c6 c1 rfl) (iX Kv [] [_,_,_,_] m1 hj hps hts) (iX Kv [] [_,_,_,_] m1 hj hps hds) λJ8 S8=>fu ?_);obtain z4:=P.aaw (p:=.mat d c) (aS KT [] [_,_,_] m1 hj hps) nofun rfl d0 d1 rfl c1 (by rintro _ _ ⟨⟩;exact ao 0x421001384000279104c4e80ac42222e28bc0509f36 [] [_] c0 c1) nofun (Nq c0) (by show((d:Int)::v.back.take 3).length=4;simp[P.4]) (λb hb=>by
    rcases MT.mp hb with hb|hb;·exact .inr hb
    ·exact .inl (RO hb))
   exact hnext b' () () ⟨_,ps++[.mat d c],(aI.mat d c).next v,by rw[MI,hps];rfl,(S8.le (by lia)).eq (by rw[yg];exact(ji aI.vals ps (.mat d c)).symm) (by rw[yg];exact z4.2.symm) rfl,z4.1⟩ rfl
  ·refine av hx3 (by decide) (by decide) rfl ?_;refine eG (nonlit "rep" (.inr (.inl rfl)) λhw J4 S4=>?_);lk;intro y hy;have S5:=S4.sub (Wu hy (.tup [.int 0 0,.int 1 0]));refine dO ?_ (aa _ _ _) rfl;lk;refine aO (r:=Mh) ?_ (by decide);lk;refine aO (r:=Mj) ?_ (by decide);refine fJ (fP (xe (s:="rep") (sp:=0) (c0:=1) G (lp hn rfl) S5 (aS KQ [_] [_,_] hk m1 hj) P.4 λi b' J6 hi S6=>?_) rfl);refine nM (nM (kD (jP (aA (wQ (r:=Mh) ?_ (by decide))) rfl)));refine fJ (og G (lp hn rfl) S6 (aS Lc [_] [_,_] hk m1 hj) λc J7 c0 c1 S7=>?_);have b0:=P.b0 (i:=i) hi;have b3:=b0.1;refine ae (MX (show 0<=v.back.getD i 0 from sR b3 rfl)) λd hd=>?_;have b1:=b0.2 hw;rw[hd] at b1;have b2:=b0.1;rw[hd] at b2;have ul:(fQ v.back i).length=4:=by unfold fQ;simp[P.4];exact AA _ hi
   refine nM (l5 (s:="rep") (d:=d) (sp:=i) (c:=c) S7 (.inr (.inl rfl)) ul hd (ao La [_] [_] b3 hd) (xT b1) (iX KA [] [_,_,_,_] m1 hj hps hsm) (c6 c1 rfl) (iX Kv [] [_,_,_,_] m1 hj hps hts) (iX Kv [] [_,_,_,_] m1 hj hps hds) λJ8 S8=>fu ?_);obtain z3:=P.aaw (p:=.rep i c) (d:=d) (aS KT [] [_,_,_] m1 hj hps) nofun hd (ao La [_] [_] b3 hd) (xT b1) rfl c1 nofun (by rintro _ _ ⟨⟩;exact aS 0x42200138420027080004f228462b501589620988444571c5780a15f88268753 [] [_,_] hi c0 c1) (Nq c0) ul (λb hb=>.inl (uU P.4 hi b hb))
   exact hnext b' () () ⟨_,ps++[.rep i c],(aI.rep i c).next v,by rw[MI,hps];rfl,(S8.le (by lia)).eq (by rw[vT];exact(ji aI.vals ps (.rep i c)).symm) (by rw[vT];exact z3.2.symm) rfl,z3.1⟩ rfl
  ·refine av hx3 (by decide) (by decide) rfl ?_;refine eG (nonlit "short" (.inr (.inr rfl)) λhw J4 S4=>?_);lk;intro y hy;have S5:=S4.sub (Wu hy (.tup [.int 0 0,.int 1 0]));refine dO ?_ (aa _ _ _) rfl;lk;refine aO (r:=Mh) ?_ (by decide);lk;refine aO (r:=Mh) ?_ (by decide);lk;refine wQ (r:=Mj) ?_ (by decide);have b0:=P.b0 (i:=0) (by decide);have b3:=b0.1;refine ae (MX (show 0<=v.back.getD 0 0 from sR b3 rfl)) λd hd=>?_;have b1:=b0.2 hw;rw[hd] at b1;have b2:=b0.1;rw[hd] at b2;refine iJ (nM (fP (l5 (s:="short") (d:=d) (sp:=0) (c:=1) S5 (.inr (.inr rfl)) P.4 hd (ao La [_] [_] b3 hd) (xT b1) (iX KA [] [_,_,_,_] m1 hj hps hsm) (Ms _ _) (iX Kv [] [_,_,_,_] m1 hj hps hts) (iX Kv [] [_,_,_,_] m1 hj hps hds) λJ8 S8=>fu ?_) rfl));obtain z2:=P.aaw (p:=.short) (d:=d) (c:=1) (aS KT [] [_,_,_] m1 hj hps) nofun hd (ao La [_] [_] b3 hd) (xT b1) rfl (by decide) nofun nofun (Ms _ _) P.4 (λb hb=>.inl hb)
   exact hnext ba () () ⟨_,ps++[.short],aI.short.next v,by rw[MI,hps];rfl,(S8.le (ck 0xc413f40d20b8bd03482de7585f [_] [_])).eq (by rw[vZ];exact(ji aI.vals ps .short).symm) (by rw[vZ];exact z2.2.symm) rfl,z2.1⟩ rfl
  ·refine av hx3 (by decide) (by decide) rfl ?_;exact eG (kD (jP (aA (aO (r:=Mj) (fJ (litQ S)) (by decide))) rfl))
 ·intro ba _ _ J1 I0;cases I0 with
  |mk w ps v hps S P=>
  have hsm:=P.7;lk;refine mq (bs:=w) ?_ S.2 ?_ (aS 0x211e4a1c94000632c82241321a90b44a0a1189e1a804131f [] [_,_,_] m1 hps hsm);·lk;intro t ht;have N:=Wu ht (.tup [.ref sa,.bytes w.toArray 0,.ref da]);have S':=S.sub N;lk;exact⟨t,sa,da,w,ps,v,rfl,aG N,zs,zd,S'.3,S'.4,P,hps,S'.1.le (af 0x518000560826234105de81a416f039 [_] [_] m1),S'.8⟩
  ·refine⟨w.map λu=>(u.toNat:Int),by unfold kN;rw[OY];rfl,λn hn=>?_,?_⟩;·refine ae (NF.mp hn) λu z=>?_;rw[<-z.2];exact⟨Mt _,Sd.mpr u.toNat_lt⟩
   ·rw[OY];exact(Qt λu f=>Vz).trans (List.map_id w)
end
noncomputable def aE(A:Rows)(a:Ml):Prop:=∃j,j<18/\(a=A.ra j∨a=A.da j)
open Classical in
noncomputable def Hx(A:Rows)(J:Sg):Sg:=λa=>if aE A a then Mr else J a
theorem Hx.sub(A:Rows)(J:Sg):Sub (Hx A J) J:=λa c e=>by
 unfold Hx at e;split at e;·cases e
 ·exact e
theorem Hx.off(A:Rows)(J:Sg):Off (Hx A J) A:=λj hj=>⟨if_pos ⟨j,hj,.inl rfl⟩,if_pos ⟨j,hj,.inr rfl⟩⟩
theorem Hx.at{c:Cell}(h:¬aE A a)(e:J a=Md c):Hx A J a=Md c:=(if_neg h).trans e
theorem lm(R:aD J A C)(h:J a=Mr):¬aE A a:=by
 rintro⟨j,hj,rfl|rfl⟩;·exact(bO (R j hj)).1 h
 ·exact(bO (R j hj)).2 h
theorem rH{c:Cell}(N:∀j,j<18->J (A.ra j)=Mr/\J (A.da j)=Mr)(h:J a=Md c):¬aE A a:=by
 rintro⟨j,hj,rfl|rfl⟩;·rw[(N j hj).1] at h;cases h
 ·rw[(N j hj).2] at h;cases h
theorem cK{cl:Nat}(R:aD J A C)(h:J a=Md (.Wv cl fs))(hc:cl≠159):¬aE A a:=by
 rintro⟨j,hj,rfl|rfl⟩;·exact((R j hj).neI h hc).1 rfl
 ·exact((R j hj).neI h hc).2 rfl
theorem aj.hx(M:aj J A B)(R:aD J A C):aj (Hx A J) A B:=
 ⟨Hx.at (cK R M.1 (by decide)) M.1,Hx.at (cK R M.2 (by decide)) M.2,Hx.at (cK R M.3 (by decide)) M.3,Hx.at (cK R M.4 (by decide)) M.4,M.5,M.6,M.7,M.8⟩
theorem tn{A':Rows}(S:Sub (Hx A' J) J')(R:aD J A C)(D:∀a,aE A a->¬aE A' a):aD J' A C:=λj hj=>(R j hj).keep λa c h e=>S _ _ (Hx.at (D a ⟨j,hj,h⟩) e)
section
variable{st:List Me}{k body:T}
theorem Bm{c:Ml}{ys zs:List Me}(h1:J a=Md (.list xs))(h2:J b=Md (.list ys))(h3:J c=Md (.list zs))(e1:xs.length=N)(e2:ys.length=N)(e3:zs.length=N)(j:Nat):uJ [a,b,c] j J=Md (if j<N then Md [xs.getD j .none,ys.getD j .none,zs.getD j .none] else Mr):=by
 unfold uJ;simp only[SQ,List.mapM_nil,h1,h2,h3,qL,NI,VW,U5,Pc];by_cases hj:j<N;·rw[if_pos hj,MH (by lia),MH (by lia),MH (by exact ao KD [] [_,_,_] e3 hj)];simp only[NI,Mx];rw[MH (by lia),MH (by lia),MH (by exact ao KD [] [_,_,_] e3 hj)];rfl
 ·rw[if_neg hj,M0 (by exact ao Ls [] [_,_,_] e1 hj)];rfl
theorem CO{ys:List Me}(h1:J a=Md (.list xs))(h2:J b=Md (.list ys))(e1:xs.length=N)(e2:ys.length=N)(j:Nat):uJ [a,b] j J=Md (if j<N then Md [xs.getD j .none,ys.getD j .none] else Mr):=by
 unfold uJ;simp only[SQ,List.mapM_nil,h1,h2,qL,NI,VW,U5,Pc];by_cases hj:j<N;·rw[if_pos hj,MH (by lia),MH (by exact ao KD [] [_,_,_] e2 hj)];simp only[NI,Mx];rw[MH (by lia),MH (by exact ao KD [] [_,_,_] e2 hj)];rfl
 ·rw[if_neg hj,M0 (by exact ao Ls [] [_,_,_] e1 hj)];rfl
end
section
variable{st:List Me}{k:T}
theorem wq(len:Nat):M9 len (OD 1024 0)=W0 len (λa=>1024):=pX NX λk hk=>by rw[QQ,if_pos hk]
theorem u6{f:Nat->Int->Int}(L:aL J a (aT B f))(hb:∀j,(WM B).getD j 0<=100000)(q:∀x J',J x=Mr->Sub J J'->aL J' x (aT B λc c=>1024)->X Z n Q K J' ρ (.ref x::st) k):X Z n Q K J ρ (.ref a::st) (.Xo Mh Jr (.cst (.int 1024 0)<|.Xa 1<|.ld Jr<|.len<|.bin .mul<|.yld) k):=by
 refine ae L λbs z7=>?_;have hb2:=z7.2.1;rw[bn] at hb2;refine fk (xs:=bs.map MK) (λj ws J'=>j<=18/\Sub J J'/\∃as:List Ml,ws=as.map MK/\as.length=j/\∀(i:Nat),i<j->∃b,as[i]?=Md b/\J' b=Md (.list (W0 ((WM B).getD i 0) λc=>1024))) ⟨Nc _,Sub.rfl,[],rfl,rfl,nofun⟩ (λj ws J' h=>h.2.1 _ _ z7.1) (by rw[Mu,hb2];decide) ?_ ?_
 ·intro j v ws J' Q' hv I0 hval _;refine ae I0.2.2 λas z6=>?_;obtain rfl:=z6.1;have hat:=z6.2.2;have hlt:j<18:=by have:=(ML.mp hv).1;rw[Mu,hb2] at this;exact this
  refine ae (z7.2.2 j _ (bP hlt)) λb z5=>?_;have e2:=z5.2;rw[MM,z5.1] at hv;obtain rfl:=MJ hv;have hbj:=hb j;lk;intro y hy;have N1:=Wu hy (.list [.int 1024 0]);have y1:=aG N1;have e2:=N1 _ _ (I0.2.1 _ _ e2);have S1:=I0.2.1.trans N1;have dom:=N1.none (a:=y);have hat:∀(i:Nat),i<j->∃b,as[i]?=Md b/\Internal.upd J' y (.list [.int 1024 0]) b=Md (.list (W0 ((WM B).getD i 0) λc=>1024)):=λi hi=>by refine ae (hat i hi) λb z4=>?_;exact⟨b,z4.1,N1 _ _ z4.2⟩
  clear dom;generalize Internal.upd J' y _=J1 at*;lk;refine YG e2 (by rw[bN];exact c6 hbj rfl) ?_;rw[bN];refine ka y1 (af K3 [] [_] hbj) λz hz=>?_;rw[MO,wq];have N2:=Wu hz (.list (W0 ((WM B).getD j 0) λc=>1024));lk;refine hval _ _ _ ⟨hlt,S1.trans N2,as++[z],by simp,by simp[z6.2.1],λi hi=>?_⟩;by_cases hij:i<j;·refine ae (hat i hij) λb z3=>?_;exact⟨b,by rw[M8 (by exact ao KD [] [_,_,_] z6.2.1 hij)];exact z3.1,N2 _ _ z3.2⟩
  ·obtain rfl:i=j:=ao Ld [] [_,_] hi hij;exact⟨z,by rw[MZ (Ot z6.2.1),z6.2.1,Nr];rfl,aG N2⟩
 ·intro ws J' x I0 hx;refine ae I0.2.2 λas z2=>?_;rw[z2.1];have hal:=z2.2.1;have hat:=z2.2.2;rw[Mu,hb2] at hal hat;have N:=Wu hx (.list (as.map MK));refine q x _ (I0.2.1.none hx) (I0.2.1.trans N) ⟨as,aa _ _ _,by rw[hal,bn],λj l hl=>?_⟩;have hlt:j<18:=by have:=(ML.mp hl).1;rw[bn] at this;exact this
  rw[bP hlt] at hl;rw[<-MJ hl];refine ae (hat j hlt) λb z1=>?_;exact⟨b,z1.1,N _ _ z1.2⟩
theorem hO(h1:aL J x (aT B C))(h2:aL J y (aT B C)):sM J (.ref x) (.ref y) true:=.same (mr h1 h2)
end
variable{pa:Ml}{data:Array UInt8}
theorem qq(B:MA)(h:j<18):1<=(WM B).getD j 0:=by
 have p1:1<=2^(B.lc+B.lp):=SS;have p2:1<=2^B.pb:=SS;unfold WM;generalize 2^(B.lc+B.lp)=x at*;generalize 2^B.pb=y at*;match j,h with
 |0,_=>exact MG rfl
 |1,_=>exact MG rfl
 |2,_=>exact MG rfl
 |3,_=>exact MG rfl
 |4,_=>exact MG rfl
 |5,_=>exact MG rfl
 |6,_=>exact MG rfl
 |7,_=>exact MG rfl
 |8,_=>exact MG rfl
 |9,_=>show 1<=768*x;exact af 0xc0140001ca0461f6000d902325 [] [_] p1
 |10,_=>exact MG rfl
 |11,_=>show 1<=8*y;exact af Lk [] [_] p2
 |12,_=>show 1<=8*y;exact af Lk [] [_] p2
 |13,_=>exact MG rfl
 |14,_=>exact MG rfl
 |15,_=>show 1<=8*y;exact af Lk [] [_] p2
 |16,_=>show 1<=8*y;exact af Lk [] [_] p2
 |17,_=>exact MG rfl
 |j+18,h=>exact CL 0x218420001e90908269c24 [] [_] h
open Classical in
noncomputable def H1(A:Rows)(j:Nat)(J:Sg):Sg:=λa=>if a=A.ra j∨a=A.da j then Mr else J a
theorem H1.sub(A:Rows)(j:Nat)(J:Sg):Sub (H1 A j J) J:=λa c e=>by
 unfold H1 at e;split at e;·cases e
 ·exact e
theorem H1.at{c:Cell}(h:¬(a=A.ra j∨a=A.da j))(e:J a=Md c):H1 A j J a=Md c:=(if_neg h).trans e
theorem uz(len:Nat)(f:Int->Int)(h:1<=len):(W0 len f)[len-1]?=Md (.int (f ((len:Int)-1)) 0):=by rw[wZ (by exact af 0x2100009d44133e8e54140f [] [_,_] (Mf h)),show((len-1:Nat):Int)=(len:Int)-1 by exact af 0x8420027080004ea2099f4722b8f6e2a22 [] [_,_] (Mf h)]
theorem aL.aaE(L:aL J x (aT B C)):∃as:List Ml,J x=Md (.list (as.map MK))/\as.length=18/\∀j,j<18->J (as.getD j 0)=Md (.list (W0 ((WM B).getD j 0) (C j))):=by refine ae L λas z14=>?_;have h2:=z14.2.1;rw[bn] at h2;refine⟨as,z14.1,h2,λj hj=>?_⟩;refine ae (z14.2.2 j _ (bP hj)) λa z13=>?_;rw[Mx,z13.1];exact z13.2
theorem fw(A:Rows)(h:j<18):(bq A).getD j .none=.ref (A.ra j):=by rw[Mx,gH A h];rfl
theorem nZ(h:j<as.length):(as.map MK).getD j .none=.ref (as.getD j 0):=by rw[Mx,MM,Mx,MH h];rfl
theorem iN(G:Good Z Kg)(hn:14<=n)(S:Sub H J)(off:Off H A)(hB:∀a,W6 B a->H a=Mr)(M:aj J A B)(ne:B.l1≠B.l2)(apt:A.Apt){C1:Nat->Int->Int}(e1:C1=(fH B tx (λd d=>1024) ps marked).2)(R:aD J A C1)(L:aL H pa (aT B C1))(hs:dK H sa ps)(HT:Z.kt 361=Md (bt [1,1,1,1]))(hps:ps.length<=4)(osm:tx.size<=1000)(V:aW tx v0 ps)(fin:(f7 B tx (ES.init,λd d=>1024) v0 ps).2.pl=tx.size)(hd:data=(fH B tx (λd d=>1024) ps marked).1.WX.made.toArray):ac Z n (.ref 1184) [.ref B.m,.ref pa,.bytes data 0,.ref sa,.bytes tx 0,.bool marked] J (λu d=>u=.bool Mj):=by
 have hb:=jD M;refine run G (lq hn rfl) ?_;lk;refine(cI (n:=n-1) G (lp hn rfl) M).Yc λJ1 ha hh0 S1 ha1=>?_;have M1:aj J1 A B:=M.Wr S1;have R1:aD J1 A C1:=λj hj=>(R j hj).sub S1;have Mm:=M1.1;lk;refine(qf (n:=n-1) G (lp hn rfl) (M1.mb ne)).Ws λJ2 r1=>?_;refine ae r1 λA' Rn=>?_;have nt:∀{a:Ml}{xs:List Me},J1 a=Md (.list xs)->¬W6 B a:=by
  rintro a xs h (rfl|rfl|rfl);·rw[M1.1] at h;cases h
  ·rw[M1.3] at h;cases h
  ·rw[M1.4] at h;cases h
 have S2:Sub H J2:=Rn.5.sub (S.trans S1) hB;have ha2:=Rn.5.1 _ _ (nt ha1) ha1;have R2:aD J2 A C1:=ua M1 R1 Rn.5;have D:∀a,aE A a->¬aE A' a:=by intro a r2 r3;refine ae r2 λj z12=>?_;have hj:=z12.1;have h:=z12.2;refine ae r3 λi z11=>?_;have hi:=z11.1;have h':=z11.2;obtain z10:=bO (R1 j hj);have t1:=z10.1;have t2:=z10.2;obtain z9:=Rn.4 i hi;have z1:=z9.1;have z2:=z9.2;rcases h with rfl|rfl<;>rcases h' with h'|h'<;>(try rw[h'] at t1)<;>(try rw[h'] at t2)<;>first|exact t1 z1|exact t1 z2|exact t2 z1|exact t2 z2
 have hl2:=Rn.1.WM;have hl:=M.WM;lk;refine iV G (lp hn rfl) (B:=B) (C:=C1) ha2 hl hb R2 λx J3 hx S3 L3=>?_;have LH:∀{τ:Sg},Sub H τ->aL τ pa (aT B C1):=λT=>L.sub T;lk;refine kG (hO L3 (LH (S2.trans S3))) ?_;lk;refine(cQ (n:=n-1) G (lp hn rfl) (Rn.1.Wr S3) (λj hj=>(Rn.2 j hj).sub S3)).Yc λJ4 y d S4 L4=>?_;have T4:=(S2.trans S3).trans S4;lk;refine u6 (B:=B) (LH T4) hb λz J5 hz S5 L5=>?_;refine kG (hO (L4.sub S5) L5) ?_;have T25:=(S3.trans S4).trans S5;have T5:=T4.trans S5;have R5:aD J5 A' (λd d=>1024):=λj hj=>(Rn.2 j hj).sub T25;have M5:aj J5 A' B:=Rn.1.Wr T25;have newA:∀{a:Ml}{c:Cell},H a=Md c->¬aE A' a:=λh=>rH Rn.4 ((S.trans S1) _ _ h);have hx5:∀{a:Ml}{c:Cell},H a=Md c->Hx A' J5 a=Md c:=λh=>Hx.at (newA h) (T5 _ _ h);lk;have hs5:dK (Hx A' J5) sa ps:=by refine ae hs λas z8=>?_;have q1:=z8.1;have q2:=z8.2.1;have q3:=z8.2.2;exact⟨as,hx5 q1,q2,λj p e=>by refine ae (q3 j p e) λa z7=>?_;have w1:=z7.1;have w2:=z7.2;exact⟨a,w1,hx5 w2⟩⟩
 refine(gF (n:=n-1) G (lp hn rfl) (Hx.sub A' J5) R5 (Hx.off A' J5) Rn.3 (M5.hx R5) (λd d=>⟨by decide,by decide⟩) HT hps hs5 osm V fin).aas λJ6 S6 R6 mok6=>?_;rw[<-e1] at R6 mok6;have T6:Sub H J6:=λa c h=>S6 _ _ (hx5 h);have ha6:J6 ha=Md (.list (bq A)):=S6 _ _ (Hx.at (rH Rn.4 ha1) (T25 _ _ ha2));have RA6:aD J6 A C1:=tn S6 (λj hj=>(R2 j hj).sub T25) D;have M6:aj J6 A' B:=(M5.hx R5).Wr S6;lk;refine kG (by rw[hd];exact iE) ?_;lk;refine(cQ (n:=n-1) G (lp hn rfl) M6 R6).Yc λJ7 y2 d S7 L7=>?_;lk;refine kG (hO L7 (LH (T6.trans S7))) ?_;lk;refine iV G (lp hn rfl) (B:=B) (C:=C1) (S7 _ _ ha6) hl hb (λj hj=>(RA6 j hj).sub S7) λx2 J8 hx2 S8 L8=>?_;have S78:=S7.trans S8;lk;refine kG (hO L8 (LH (T6.trans S78))) ?_;lk;refine(cI (n:=n-1) G (lp hn rfl) (M6.Wr S78)).Yc λJ9 hb9 hb9n S9 hb9e=>?_;have S69:=S78.trans S9;have T9:=T6.trans S69;have ha9:=S69 _ _ ha6;refine ae ((LH T9).aaE) λbs z6=>?_;have pa1:=z6.1;have pa2:=z6.2.1;have pa3:=z6.2.2;have RA9:aD J9 A C1:=λj hj=>(RA6 j hj).sub S69;have RB9:aD J9 A' C1:=λj hj=>(R6 j hj).sub S69;have naH:∀{a:Ml}{c:Cell},H a=Md c->¬aE A a:=by
  rintro a c h ⟨j,hj,rfl|rfl⟩;·rw[(off j hj).1] at h;cases h
  ·rw[(off j hj).2] at h;cases h
 refine ae (id L) λas' z5=>?_;have lq1:=z5.1;have lq2:=z5.2.1;have lq3:=z5.2.2;refine ae L.aaE λbs0 z4=>?_;have pb1:=z4.1;have pb2:=z4.2.1;have pb3:=z4.2.2;have ebs:bs0=bs:=by
  have:=T9 _ _ pb1;rw[pa1] at this;injection MJ this with this
  exact(List.map_inj_right (f:=MK) (by intro a b h;exact Value.ref.inj h)).mp this.symm
 subst ebs;have nha:¬aE A ha:=lm R hh0;have nhb:¬aE A hb9:=lm (λj hj=>(RA6 j hj).sub S78) hb9n;have npa:¬aE A pa:=naH pb1;lk;have hlp:∀τ,Sub (Hx A J9) τ->τ ha=Md (.list (bq A))/\τ hb9=Md (.list (bq A'))/\τ pa=Md (.list (bs0.map MK)):=λτ T=>⟨T _ _ (Hx.at nha ha9),T _ _ (Hx.at nhb hb9e),T _ _ (Hx.at npa pa1)⟩;refine wJ (as:=[ha,hb9,pa]) (st:=[]) (N:=18) (hd:=λj=>[(bq A).getD j .none,(bq A').getD j .none,(bs0.map MK).getD j .none]) rfl (λj E J'=>E=[]/\Sub (Hx A J9) J'/\∀i,i<18->∃f,Row J' (A.ra i) (A.da i) (A.len i) f) ⟨_,⟨rfl,Hx.sub A J9,λi hi=>⟨_,RA9 i hi⟩⟩,rfl⟩ ?_ ?_ ?_;·intro j E J' r4;have T:=r4.2.1;obtain z3:=hlp J' T;have w1:=z3.1;have w2:=z3.2.1;have w3:=z3.2.2;exact Bm w1 w2 w3 (bd A) (bd A') (by rw[Mu];exact pa2) j
 ·intro j E J' Q' hj I0 hnext _;rw[I0.1];have T:=I0.2.1;have Rs:=I0.2.2;rw[fw A hj,fw A' hj,nZ (by lia)];have hpos:=qq B hj;have hbj:=hb j;have due9:=pa3 j hj;have nd:¬aE A (bs0.getD j 0):=naH (pb3 j hj);have due:=T _ _ (Hx.at nd due9);refine ae (Rs j hj) λf Rj=>?_;have eA:=hl j hj;have eB:=hl2 j hj;generalize(WM B).getD j 0=len at*;lk;refine YG due (by rw[bN];exact c6 hbj rfl) ?_;rw[bN];lk;refine Rj.set G (lp hn rfl) (by lia) (by lia) (apt.4 j) (H1.sub A j J') (if_pos (.inl rfl)) (if_pos (.inr rfl)) λJ'' Rj' T'=>?_;have TT:Sub (Hx A J9) J'':=λa c e=>T' _ _ (H1.at (λz=>by have h:Hx A J9 a=none:=if_pos ⟨j,hj,z⟩;rw[h] at e;cases e) (T _ _ e));have due':=TT _ _ (Hx.at nd due9);have RBj:Row J'' (A'.ra j) (A'.da j) len (C1 j):=by rw[<-eB];exact(RB9 j hj).keep λa c h e=>TT _ _ (Hx.at (λz=>D a z ⟨j,hj,h⟩) e)
  have lenj:len<1000000:=kI hbj rfl;refine xI (λρ2 J2=>J2=J'') ?_ ?_;·intro Q' hQ _ _ _;lk;refine YG due' (by rw[bN];exact c6 hbj rfl) ?_;rw[bN];lk;refine RBj.idx G (lp hn rfl) (by lia) (by lia) lenj ?_;lk;refine lx due' (by decide) (by decide) (by rw[bN];lia) (v:=.int (C1 j ((len:Int)-1)) 0) (by rw[bN,show((-1:Int)+(len:Int)).toNat=len-1 by lia];exact uz len (C1 j) hpos) ?_;refine aH (λd=>?_) (λz=>absurd rfl z);lk;exact hQ ⟨[],rfl,rfl⟩
  ·rintro ρ2 _ rfl;refine fu (hnext ⟨_,⟨rfl,TT,λi hi=>?_⟩,rfl⟩);by_cases hij:i=j;·subst hij;exact⟨_,Rj'⟩
   ·refine ae (Rs i hi) λf' Ri=>?_;refine⟨f',Ri.keep λa c h e=>T' _ _ (H1.at ?_ e)⟩;rintro(z|z)<;>rcases h with h|h
    ·exact apt.1 i j hi hj hij (h.symm.trans z)
    ·exact apt.2 j i hj hi (Qj hij) (z.symm.trans h)
    ·exact apt.2 i j hi hj hij (h.symm.trans z)
    ·exact apt.3 i j hi hj hij (h.symm.trans z)
 ·rintro ρ J' _;lk;exact rfl
structure cV(Z:Sys)(Kg:PQ):Prop extends Good Z Kg where
 exc:cF Z Kg 100
 aax:CK Z Kg 100 149 [JM,JN] e7
 aaF:CK Z Kg 100 156 [JM,JN,JO] e7
 aaB:AO Z Kg 100 1174 Jr JB
 aaK:A5 Z Kg 1179 "row" [Kr,Kq,6709618] bJ
theorem Good.Xn(G:Good Z Kg)(M:More Z Z'):Good Z' Kg where
 base:=G.base.Xn M
 lim h k:=G.lim h λa o e=>k a o (M.6 a o e)
 fn i f ns ds c e:=(G.fn i f ns ds c e).Xn M
theorem cV.Xn(G:cV Z Kg)(M:More Z Z'):cV Z' Kg where
 toGood:=G.toGood.Xn M
 exc:=⟨λh k=>G.exc.1 h λa o e=>k a o (M.6 a o e),by refine ga G.exc.2 λK P fI z6=>?_;exact⟨K,P,fI,M.frag z6.1,z6.2.1,z6.2.2.1,z6.2.2.2.1,z6.2.2.2.2.1,z6.2.2.2.2.2.1,⟨z6.2.2.2.2.2.2.1.elim λK q=>⟨K,M.frag q.1,q.2⟩⟩⟩⟩
 aax:=⟨G.aax.1.elim λK q=>⟨K,M.frag q.1,q.2⟩⟩
 aaF:=⟨G.aaF.1.elim λK q=>⟨K,M.frag q.1,q.2⟩⟩
 aaB:=⟨G.aaB.1.elim λK q=>⟨K,M.frag q.1,q.2⟩⟩
 aaK:=⟨G.aaK.1.elim λK q=>⟨K,M.frag q.1,q.2⟩⟩
theorem wH{d:Ml}{len i:Int}(hr:J r=Md (.Wv 159 [(I9,.int len 0),(Ly,.ref d)]))(ho:i<0∨len<=i){l:Loc}(h1:gf l JN=Md (.int i 0))(h2:gf l JM=Md (.ref r)):exec Z n e7 [] l J (λa J'=>J'=J):=by
 refine(?_:X Z n (λa J'=>J'=J) [] J [(JN,.int i 0),(JM,.ref r)] [] e7) l (Wk.to (show[gf l _,gf l _]=[Md _,Md _] by rw[h1,h2]));unfold e7;lk;refine jN (λq=>?_) (λa=>?_)<;>lk;·refine bQ (λq'=>by lia) λa=>?_;exact λa a=>rfl
 ·exact λa a=>rfl
theorem gD(G:cV Z Kg)(hn:3<=n){d:Ml}{len i:Int}(hr:J r=Md (.Wv 159 [(I9,.int len 0),(Ly,.ref d)]))(ho:i<0∨len<=i){Q:Me->Sg->Prop}(hQ:Q (.bool Mj) J):ac Z n (.ref 1174) [.ref r,.int i 0] J Q:=by
 obtain⟨m,rfl⟩:∃m,n=m+2:=⟨n-2,af 0x8400027084004e8508d2a3b0a11c151d [] [_,_] (Mf (af 0x4200013b02b10a02b10 [] [_] hn))⟩;exact aaV (n:=m+1) G.base G.exc (by decide) G.aaB hr cL cM
  (ky G.base G.exc G.aax rfl (wH hr ho rfl rfl)) (λv=>ky G.base G.exc G.aaF rfl (wH hr ho rfl rfl)) hQ
section
variable{st:List Me}{k body:T}{c:Nat}
theorem kB{v:Me}{cc:Nat}(h:Z.cv=[(cc,v)])(q:X Z n Q K J E (v::st) k):X Z n Q K J E st (.ldc cc k):=λρ hr=>⟨v,by rw[h];exact if_pos rfl,q ρ hr⟩
theorem uH{a b:Int}{t u:Nat}(F:Int->Me)(ha:-1000000<=a)(ha2:a<=1000000)(hb:-1000000<=b)(hb2:b<=1000000)(hl:(b-a).toNat<=100000)(step:∀i:Int,a<=i->i<b->∀Q':Out->Sg->Prop,(∀E',XV Q' J E' (F i))->X Z n Q' [] J [(c,.int i 0)] [] body)(q:∀x,J x=Mr->X Z n Q K (upd J x (.list ((aQ a b).map F))) E (.ref x::st) k):X Z n Q K J E (.int b t::.int a u::st) (.Xo Mj c body k):=λρ hr=>by
 have hlen:(cW (aQ a b)).length=(b-a).toNat:=by unfold cW aQ;rw[Mu,Mu,NK]
 refine⟨st,Ax (cW (aQ a b)),(cW (aQ a b)).length+1,by rw[hlen];exact kI hl rfl,⟨rfl,⟨ha,ha2,hb,hb2⟩,rfl⟩,eX (xs:=cW (aQ a b)) (λj ws J'=>J'=J/\ws=((aQ a b).take j).map F) (λj d d d=>rfl) (λj v ws J' Q' hv I0 h1 d=>?_) (λws J' I0 x hx=>?_) _ 0 [] J (Oo _) (Nc _) ⟨rfl,rfl⟩⟩
 ·rw[I0.1];obtain rfl:=I0.2;unfold cW at hv;rw[MM] at hv;refine ae (MQ.mp hv) λi z5=>?_;obtain⟨hi,rfl⟩:=z5;have hi2:a<=i/\i<b:=by refine ae (NF.mp (MP hi)) λj' z4=>?_;obtain⟨hj,rfl⟩:=z4;have:=List.mem_range.mp hj;constructor<;>lia
  exact step i hi2.1 hi2.2 Q' (λE' ρ' d=>h1 _ ρ' _ ⟨rfl,by rw[VA,hi,Od];rfl⟩) _ lB
 ·obtain rfl:=I0.1;rw[I0.2];have e:(cW (aQ a b)).length=(aQ a b).length:=by unfold cW;rw[Mu]
  rw[e,List.take_length];exact q x hx ρ hr
end
theorem vK{len:Nat}{b e:Nat}(hb:b<=len):((W0 len f).take e).drop b=(aQ b (if(len:Int)<e then(len:Int) else e)).map λi=>.int (f i) 0:=by
 refine Th λk=>?_;unfold W0 aQ;rw[QE,QL,MM,MM,MM];by_cases h1:And (b+k<e) (b+k<len);·rw[if_pos h1.1,Nv h1.2,Nv (by split<;>lia)];simp only[Pc];rw[Uj]
 ·rw[M0 (l:=Oi (((if(len:Int)<e then(len:Int) else e):Int)-b).toNat) (by rw[NK];split<;>lia)];by_cases h2:b+k<e;·rw[if_pos h2,M0 (by rw[NK];lia)];rfl
  ·rw[if_neg h2];rfl
theorem Zy{l:List Me}(h1:J x=Md (.list l))(h2:J y=Md (.list l))(h:∀v∈l,∃i,v=.int i 0):sM J (.ref x) (.ref y) true:=
 .same (eR h1 h2 rfl λj v w e e'=>by rw[e] at e';cases e';refine ae (h v (MP e)) λi z3=>?_;rw[z3];exact .int)
theorem xN{x:Int}{t u:Nat}:sM J (.int x t) (.int x u) true:=by have:=sM.int (J:=J) (x:=x) (y:=x) (t:=t) (u:=u);rwa [decide_eq_true rfl] at this
theorem GV{e:T}(h:X Z n Q [] J E [] e):exec Z n e [] E J Q:=h E lB
variable{far:Int}
theorem ku(G:cV Z Kg)(hn:8<=n){d:Ml}{len:Nat}{b:Int}(hr:J r=Md (.Wv 159 [(I9,.int len 0),(Ly,.ref d)]))(R:Row J r d len f)(hlen:len<=100000)(hp:J p=Md (.list (W0 len f)))(h0:0<=b)(h1:b<len)(hf:0<=far):ac Z n (.ref 1179) [.ref r,.ref p,.int b 0,.int far 0] J (λu J'=>u=.bool Mj/\Sub J J'):=by
 obtain⟨m,rfl⟩:∃m,n=m+1:=⟨n-1,af Ky [] [_,_] (Mf (af 0x8400027401d8950230f [] [_] hn))⟩;refine aaG G.lim G.base G.aaK rfl λZ' M hcv=>?_;have G':=G.Xn M;have hcv':Z'.cv=[(Jr,.ref r)]:=hcv;obtain⟨md,hmd,D⟩:∃m,J d=Md (.W9 m)/\fq m len f:=by
  rcases R with⟨_,xs,e,_⟩|⟨_,m,e,D⟩;·rw[hr] at e;cases e
  ·exact⟨m,e,D⟩
 refine GV (?_:X Z' m _ [] J [(Kr,.ref p),(Kq,.int b 0),(6709618,.int far 0)] [] _);lk;refine kB hcv' ?_;lk;refine .dict hmd (by have:=D.le;exact ao 0x843080007aa0987e1a80508c87d090041322 [] [_,_] hlen this) ?_;lk;refine kB hcv' ?_;lk;refine R.len G'.toGood (af Mw [] [_] hn) (kI hlen rfl) ?_;lk;refine uH (λi=>.int (f i) 0) (sR h0 rfl) (ao 0x108610000f5e090fc35008263fe848020821 [_] [_] hlen h1) (by split<;>lia) (by split<;>lia) (by split<;>lia) (λi q1 q2 Q' hq=>?_) λx hx=>?_;·refine kB hcv' ?_;lk;refine R.idx G'.toGood (af Mw [] [_] hn) (OV h0 q1) (by split at q2<;>lia) (kI hlen rfl) ?_;lk;exact hq _
 have hxp:p≠x:=yx hp hx;lk;refine ix (xs:=W0 len f) (i:=b.toNat) (j:=(b+8).toNat) ((ag _ _ hxp).trans hp) ?_ (by rw[bN];exact c6 hlen rfl) λy hy=>?_;·exact y8 h0 (aS 0x108e10c2000298000000000000000122250bc121f86a0104c7e6090e [_,_] [_] hlen h1 d5) (BS h0 rfl) (aS 0x108e10c2000298000000000000000122250bc121f86a0104c7e60416891e [_,_] [_] hlen h1 d5)
 have hyx:y≠x:=λz=>by rw[z,aa] at hy;cases hy
 have hyσ:J y=none:=by rw[ag _ _ hyx] at hy;exact hy
 have ecut:((W0 len f).take (b+8).toNat).drop b.toNat=(aQ b (if(len:Int)<b+8 then(len:Int) else b+8)).map λi=>.int (f i) 0:=by rw[vK (by exact ao 0x108610000f6e2a0faf0488d4130f [_] [_,_] h1 (MF h0))];have e1:((b+8).toNat:Int)=b+8:=af 0x8420027080004e04177150fc082ee2a1f [_] [_] (MF (af 0x1080004e0405c082c081b [_] [] h0));have e2:(b.toNat:Int)=b:=af 0x8420027080004f71507ee2a0f [_] [_] (MF h0);rw[e1,e2]
 rw[ecut];have S2:Sub J (upd (upd J x (.list ((aQ b (if(len:Int)<b+8 then(len:Int) else b+8)).map λi=>.int (f i) 0))) y (.list ((aQ b (if(len:Int)<b+8 then(len:Int) else b+8)).map λi=>.int (f i) 0))):=
  (Sub.rfl.upd hx _).upd hyσ _
 refine kG (Zy (l:=(aQ b (if(len:Int)<b+8 then(len:Int) else b+8)).map λi=>.int (f i) 0) ((ag _ _ hyx.symm).trans (aa _ _ _)) (aa _ _ _) λv hv=>?_) ?_;·refine ae (NF.mp hv) λi z2=>?_;obtain⟨_,rfl⟩:=z2;exact⟨_,rfl⟩
 generalize upd (upd J x _) y _=J2 at*;have hr2:=S2 _ _ hr;have hp2:=S2 _ _ hp;have hd2:=S2 _ _ hmd;have R2:=R.sub S2;lk;refine kB hcv' ?_;lk;refine gD G' (af Mq [] [_] hn) hr2 (by lia) ?_;lk;refine kB hcv' ?_;refine kB hcv' ?_;lk;refine R2.len G'.toGood (af Mw [] [_] hn) (kI hlen rfl) ?_;lk;refine gD G' (af Mq [] [_] hn) hr2 (by lia) ?_;lk;refine kB hcv' ?_;lk;refine .dict hd2 (by have:=D.le;exact ao 0x843080007aa0987e1a80508c87d090041322 [] [_,_] hlen this) ?_;lk;refine iB (r:=Mj) xN rfl ?_
 ·lk;refine kB hcv' ?_;lk;refine(gI (n:=m) G'.toGood (af Mq [] [_] hn) R2 hlen).Yc λJ3 z hz S3 hz3=>?_;lk;refine iB (r:=Mj) (Zy hz3 (S3 _ _ hp2) λv hv=>?_) rfl ?_;·unfold W0 at hv;refine ae (NF.mp hv) λi z1=>?_;obtain⟨_,rfl⟩:=z1;exact⟨_,rfl⟩
  ·lk;exact⟨rfl,S2.trans S3⟩
theorem uu{B':MA}(h:B.pb=B'.pb):B.cell=B'.cell:=by funext a b;unfold MA.cell;rw[h]
theorem vH{B':MA}(h1:B.lc=B'.lc)(h2:B.lp=B'.lp):B.lit=B'.lit:=by funext a b;unfold MA.lit;rw[h1,h2]
theorem oB{B':MA}(h1:B.lc=B'.lc)(h2:B.lp=B'.lp)(h3:B.pb=B'.pb):WM B=WM B':=by unfold WM;rw[h1,h2,h3]
theorem uO{B':MA}(h1:B.lc=B'.lc)(h2:B.lp=B'.lp)(h3:B.pb=B'.pb)(tx:Array UInt8)(v:LS)(p:Option aI):gw B tx v p=gw B' tx v p:=by
 have c:=uu h3;have l:=vH h1 h2;induction p with
 |none=>show B.WW _ _ _ _=B'.WW _ _ _ _;unfold MA.WW;rw[c,h3]
 |some p=>
  induction p with
  |lit=>show B.Xq _ _ _ _ _=B'.Xq _ _ _ _ _;unfold MA.Xq;rw[c,l]
  |mat d sz=>show B.WW _ _ _ _=B'.WW _ _ _ _;unfold MA.WW;rw[c,h3]
  |rep i sz=>show B.XZ _ _ _ _=B'.XZ _ _ _ _;unfold MA.XZ MA.Xg;rw[c,h3]
  |short=>show B.Xu _ _=B'.Xu _ _;unfold MA.Xu;rw[c]
theorem rN{B B':MA}(h1:B.lc=B'.lc)(h2:B.lp=B'.lp)(h3:B.pb=B'.pb)(tx:Array UInt8):∀(ps:List (Option aI))(v:LS),aC B tx v ps=aC B' tx v ps
 |[],_=>rfl
 |p::r,v=>by show gw B tx v p++_=gw B' tx v p++_;rw[uO h1 h2 h3,rN h1 h2 h3 tx r]
theorem eY{B':MA}(h1:B.lc=B'.lc)(h2:B.lp=B'.lp)(h3:B.pb=B'.pb)(tx:Array UInt8)(C:Nat->Int->Int)(ps:List aI)(m:Bool):fH B tx C ps m=fH B' tx C ps m:=by simp only[mM,rN h1 h2 h3]
theorem l6{B':MA}(h1:B.lc=B'.lc)(h2:B.lp=B'.lp)(h3:B.pb=B'.pb)(C:Nat->Int->Int):aT B C=aT B' C:=by unfold aT;simp only[oB h1 h2 h3]
inductive mI(A:Nat->Rows)(B:Nat->MA)(ja:Ml):Prop where
 |mk (lc:∀i,i<4->(B i).lc=(B 0).lc)
  (lp:∀i,i<4->(B i).lp=(B 0).lp)
  (pb:∀i,i<4->(B i).pb=(B 0).pb)
  (apt:∀i,i<4->(A i).Apt)
  (ne:∀i,i<4->(B i).l1≠(B i).l2)
  (disj:∀i j,i<4->j<4->i≠j->∀a,aE (A i) a->¬aE (A j) a)
  (jar:∀i,i<4->¬aE (A i) ja)
noncomputable def Mv(A:Nat->Rows)(B:Nat->MA)(ja:Ml)(a:Ml):Prop:=a=ja∨∃i,i<4/\(aE (A i) a∨W6 (B i) a)
inductive Wl(A:Nat->Rows)(B:Nat->MA)(ja:Ml)(C0 C1:Nat->Int->Int)(m:Nat)(H:Sg)(k:Int)(J:Sg):Prop where
 |mk(sub:Sub H J)
  (off:∀a,Mv A B ja a->H a=Mr)
  (jar:nl J ja k)
  (mod:∀i,i<4->aj J (A i) (B i))
  (rows:∀i,i<4->aD J (A i) (if i<m then C1 else C0))
variable{A:Nat->Rows}{B:Nat->MA}
section
variable{C0 C1:Nat->Int->Int}{m:Nat}
theorem Wl.XH(W:Wl A B ja C0 C1 m H k J)(S:Sub J J'):Wl A B ja C0 C1 m H k J':=
 ⟨W.1.trans S,W.2,W.3.sub S,λi hi=>(W.4 i hi).Wr S,λi hi j hj=>(W.5 i hi j hj).sub S⟩
theorem b8(LZ:nl J ja k):∃xs,J ja=Md (.list xs):=by refine ga LZ λg m t z4=>?_;exact⟨_,z4.1⟩
theorem Wl.Z9(F:mI A B ja)(W:Wl A B ja C0 C1 m H k J)(LZ:nl J' ja (k+1))(c:Ch (λa=>a=ja) J J'):Wl A B ja C0 C1 m H (k+1) J':=by refine ae (b8 W.3) λxs hj=>?_;have ni:∀{a:Ml}{cl:Nat}{fs:Loc},J a=Md (.Wv cl fs)->J' a=Md (.Wv cl fs):=λ{a cl fs} h=>c.1 _ _ (mn h hj rfl) h;refine⟨c.sub W.1 λa e=>by rw[e];exact W.2 ja (.inl rfl),W.2,LZ,λi hi=>?_,λi hi j hj=>(W.5 i hi j hj).keep λa d h e=>c.1 a d (λz=>F.7 i hi ⟨j,hj,by rw[<-z];exact h⟩) e⟩;have M:=W.4 i hi;exact⟨ni M.1,ni M.2,ni M.3,ni M.4,M.5,M.6,M.7,M.8⟩
theorem Wl.hx(W:Wl A B ja C0 C1 m H k J)(hi:i<4){c:Cell}(h:H a=Md c):Hx (A i) J a=Md c:=
 Hx.at (λz=>by rw[W.2 a (.inr ⟨i,hi,.inl z⟩)] at h;cases h) (W.1 _ _ h)
theorem Wl.step(F:mI A B ja)(W:Wl A B ja C0 C1 m H k J)(hm:m<4)(S:Sub (Hx (A m) J) J')(R:aD J' (A m) C1):Wl A B ja C0 C1 (m+1) H k J':=by
 refine⟨λa c h=>S _ _ (W.hx hm h),W.2,?_,λi hi=>?_,λi hi=>?_⟩;·refine ga W.3 λg q t z3=>?_;have e:=z3.1;have r:=z3.2;exact⟨g,q,t,S _ _ (Hx.at (F.7 m hm) e),r⟩
 ·have Rm:=W.5 m hm;have M:=W.4 i hi;exact⟨S _ _ (Hx.at (cK Rm M.1 (by decide)) M.1),S _ _ (Hx.at (cK Rm M.2 (by decide)) M.2),S _ _ (Hx.at (cK Rm M.3 (by decide)) M.3),S _ _ (Hx.at (cK Rm M.4 (by decide)) M.4),M.5,M.6,M.7,M.8⟩
 ·by_cases e:i=m;·rw[e];rw[if_pos (by exact MD _)];exact R
  ·have:=tn S (W.5 i hi) (F.6 i m hi hm e);rw[show(if i<m+1 then C1 else C0)=(if i<m then C1 else C0) from by by_cases q:i<m;rw[if_pos q,if_pos (NZ q)];rw[if_neg q,if_neg (by lia)]];exact this
open Classical in
noncomputable def Hb(A:Nat->Rows)(B:Nat->MA)(ja:Ml)(J:Sg):Sg:=λa=>if Mv A B ja a then Mr else J a
theorem Hb.at{c:Cell}(h:¬Mv A B ja a)(e:J a=Md c):Hb A B ja J a=Md c:=(if_neg h).trans e
theorem Wl.re(W:Wl A B ja C0 C1 m H k J):Wl A B ja C0 C1 m (Hb A B ja J) k J:=⟨λa c e=>by
  unfold Hb at e;split at e;·cases e
  ·exact e,λa h=>if_pos h,W.3,W.4,W.5⟩
theorem Wl.old(W:Wl A B ja C0 C1 m H k J){c:Cell}(h:H a=Md c):Hb A B ja J' a=J' a:=if_neg λz=>by rw[W.2 a z] at h;cases h
theorem Wl.new(W:Wl A B ja C0 C1 m H k J)(h:J a=Mr):¬Mv A B ja a:=by
 rintro(rfl|⟨i,hi,q|rfl|rfl|rfl⟩);·refine ae (b8 W.3) λxs hj=>?_;rw[hj] at h;cases h
 ·exact lm (W.5 i hi) h q
 ·rw[(W.4 i hi).1] at h;cases h
 ·rw[(W.4 i hi).3] at h;cases h
 ·rw[(W.4 i hi).4] at h;cases h
theorem xf(W:Wl A B ja C0 C1 m H k J)(hi:i<4)(hs:dK H sa ps):dK (Hx (A i) J) sa ps:=by refine ae hs λas z2=>?_;exact⟨as,W.hx hi z2.1,z2.2.1,λj p e=>by refine ae (z2.2.2 j p e) λa z1=>?_;exact⟨a,z1.1,W.hx hi z1.2⟩⟩
end
theorem t9:∀(l:List Ev)(s:CS)(k:Nat)(T:Int),Enc s.1 k T->Wide s.1->oC s.2->bM λN Tf=>Enc (ah s l).1 N Tf/\N<=k+l.length
 |[],s,k,T,E,_,_=>⟨k,T,E,MD _⟩
 |v::l,s,k,T,E,W,M=>by obtain z2:=jr (v:=v) E W M;have H:=z2.2.2;rw[aB];rcases H with⟨_,h2,_⟩|⟨_,h2,_⟩<;>obtain⟨N,Tf,a,b⟩:=t9 l _ _ _ h2 z2.1 z2.2.1<;>exact⟨N,Tf,a,by rw[MW];lia⟩
theorem xZ(M:oC C)(l:List Ev):(ah (ES.init,C) l).1.WX.made.length<=l.length+5:=by refine bI (t9 l (ES.init,C) 0 0 jG ⟨show(16777216:Int)<=ES.init.span by decide,show ES.init.span<4294967296 by decide⟩ M) λN Tf z1=>?_;rw[(qd z1.1).1];exact af 0x1080004e80b826334508e88268b2d [] [_,_] z1.2
theorem eP(j:Nat)(s:Int):∀(c:Nat)(n v:Int),(az j s c n v).length=c
 |0,_,_=>rfl
 |c+1,n,v=>congrArg (·+1) (eP j s c _ v)
theorem pj(j:Nat)(s:Int):∀(c:Nat)(n v:Int),(dr j s c n v).length=c
 |0,_,_=>rfl
 |c+1,n,v=>congrArg (·+1) (pj j s c _ _)
theorem tP:∀(c:Nat)(v:Int),(dJ c v).length=c
 |0,_=>rfl
 |c+1,v=>congrArg (·+1) (tP c v)
theorem t7(s:Int):∀(c:Nat)(n o m:Int),(bY s c n o m).length=c
 |0,_,_,_=>rfl
 |c+1,n,o,m=>by
  rw[fE,MW];split;·rw[t7 s c]
  ·rw[eP]
theorem tD(j:Nat)(r l:Int):(cq j r l).length<=10:=by
 unfold cq;split;·rw[MW,eP];decide
 ·split<;>rw[MW,MW,eP]<;>decide
theorem wB{l:Int}(h0:1<=d)(h1:d<=2^32):(bS d l).length<=50:=by
 have hs:(aR d).2.1<=32:=by
  cases dL h0 h1 with
  |small _ e=>rw[e];show(0:Int)<=32;decide
  |big g h g0 g1 hh q0 q1 e=>rw[e];show(g:Int)-1<=32;exact af 0x2100009fc413138045c5a9024 [] [_] g1
 unfold bS;rw[MI,eP];split;·decide
 ·split;·rw[pj];lia
  ·rw[MI,tP,pj];lia
theorem oA(B:MA){a b l:Int}(h0:1<=d)(h1:d<=2^32):(B.WW a b d l).length<=62:=by have:=tD 10 (8*(b%2^B.pb)) l;have:=wB (l:=l) h0 h1;unfold MA.WW;rw[MW,MW,MI];lia
theorem wM(B:MA){p:Option aI}(V:iT tx v p):(gw B tx v p).length<=62:=by
 induction p with
 |none=>exact oA B (by decide) (by decide)
 |some p=>
  have f:=V.2;have sm:=V.1;induction p with
  |lit=>
   show(B.Xq _ _ _ _ _).length<=62;unfold MA.Xq;rw[MW];split;·rw[eP];decide
   ·rw[t7];decide
  |mat d sz=>have g:=V.6 (by nofun);have q:=V.3 d sz rfl;have g1:1<=d/\d<=v.pl:=g;have f1:v.pl+sz<=tx.size:=f;exact oA B g1.1 (DA 0x42784b09210c20003f80000000091118de3915a60873046040772688888a2301427cdbe8104c626080e [_,_,_,_] [_] sm q g1 f1 xy)
  |rep i sz=>
   have:=tD 14 (8*(v.pl%2^B.pb)) sz;show(B.XZ _ _ _ _).length<=62;unfold MA.XZ MA.Xg;rw[MW,MW,MI];split;·show _+1+1<=62;simp only[MW,Pd];lia
   ·rw[MW];split<;>simp only[MW,Pd]<;>lia
  |short=>show(B.Xu _ _).length<=62;exact MG rfl
theorem tV(B:MA){tx:Array UInt8}:∀(ps:List (Option aI))(v:LS),oO tx v ps->(aC B tx v ps).length<=62*ps.length
 |[],_,_=>MD _
 |p::r,v,V=>by have a:=wM B V.1;have b:=tV B r _ V.2;show(gw B tx v p++aC B tx (bc v p) r).length<=_;rw[MI,MW];exact ao 0x210c20001e97c09942324f841314890afe04ca8267b3c [] [_,_,_] a b
theorem xg(ps:List aI)(m:Bool):(full ps m).length<=ps.length+1:=by unfold full;rw[MI,Mu];cases m<;>simp
noncomputable abbrev Cf:Nat->Int->Int:=λa a=>1024
section
variable{C1:Nat->Int->Int}{m:Nat}
theorem sS(B:MA)(P:PS tx.toList ps v):(f7 B tx (ES.init,Cf) v0 ps).2.pl=tx.size:=by
 rw[o7];have lr:∀(ps:List aI)(v:LS),bR v (ps.map Md)=rV v ps:=λps=>by
  induction ps with
  |nil=>intro v;rfl
  |cons p r ih=>intro v;exact ih (p.next v)
 rw[lr,P.2,P.3,NC]
theorem s7(P:PS tx.toList ps v):aW tx v0 ps:=by have:=P.1;rwa [RN] at this
theorem o6(P:PS tx.toList ps v)(hps:ps.length<=4):tx.size<=100:=by have:=P.7;rw[NC] at this;exact ao 0x210e4a00022ac8224132082846279041315 [] [_,_] hps this
theorem lD(G:Good Z Kg)(hn:12<=n)(F:mI A B ja)(W:Wl A B ja Cf C1 m H k J)(hm:m<4)(HT:Z.kt 361=Md (bt [1,1,1,1]))(hs:dK H sa ps)(hps:ps.length<=4)(P:PS tx.toList ps v)(e1:C1=(fH (B 0) tx Cf ps marked).2)(hd:data=(fH (B 0) tx Cf ps marked).1.WX.made.toArray):ac Z n (.ref 1160) [.ref (B m).m,.ref sa,.bytes tx 0,.bool marked] J (λu J'=>u=.bytes data 0/\Wl A B ja Cf C1 (m+1) H k J'):=by have R:=W.5 m hm;rw[if_neg (Rz m)] at R;refine(gF (n:=n) G hn (Hx.sub (A m) J) R (Hx.off (A m) J) (F.4 m hm) ((W.4 m hm).hx R) zv HT hps (xf W hm hs) (by have:=o6 P hps;exact c6 this rfl) (s7 P) (sS (B m) P)).aas λJ' S R' a=>?_;rw[eY (F.1 m hm) (F.2 m hm) (F.3 m hm)] at R' ⊢;rw[<-e1] at R';exact⟨by rw[hd],W.step F hm S R'⟩
theorem yQ(G:Good Z Kg)(hn:12<=n)(F:mI A B ja)(W:Wl A B ja Cf C1 m H k J)(hm:m<4)(HT:Z.kt 361=Md (bt [1,1,1,1]))(hs:bL (Hx (A m) J) da (bu tx v0 (full ps marked)))(hps:ps.length<=4)(P:PS tx.toList ps v)(e1:C1=(fH (B 0) tx Cf ps marked).2)(hd:data=(fH (B 0) tx Cf ps marked).1.WX.made.toArray):ac Z n (.ref 1167) [.ref (B m).m,.bytes data 0,.bytes tx 0,.ref da] J (λu J'=>u=.bool Mj/\Wl A B ja Cf C1 (m+1) H k J'):=by
 have R:=W.5 m hm;rw[if_neg (Rz m)] at R;have V:=tZ (marked:=marked) ps v0 (s7 P);have hd':data=(ah (ES.init,Cf) (aC (B m) tx v0 (full ps marked))).1.WX.made.toArray:=by rw[hd,<-eY (F.1 m hm) (F.2 m hm) (F.3 m hm),mM]
 refine Gb (sX zv (xn (B m) _ v0 V).1 hd') λq1 q2 q3 q4 q5 q6 q7=>?_;have sz:data.size<=100000:=by have a:=xZ (C:=Cf) zv (aC (B m) tx v0 (full ps marked));have b:=tV (B m) _ v0 V;have c:=xg ps marked;rw[hd',Oj];exact iX 0x7c61c22843f180007d1423d0ac7f5f02648564b4485704c7e0a1189e1a804131f [] [_,_,_,_] hps a b c
 refine(jQ (n:=n) G hn (Hx.sub (A m) J) R (Hx.off (A m) J) (F.4 m hm) ((W.4 m hm).hx R) zv HT hs (by have:=o6 P hps;exact c6 this rfl) sz q1 q2 q3 V q4 q5 q6 (by rw[Aa,<-o7 (B m) tx ps (ES.init,Cf)];exact sS (B m) P)).aas λJ' S R' d=>?_;rw[q7,<-mM,eY (F.1 m hm) (F.2 m hm) (F.3 m hm),<-e1] at R';exact⟨rfl,W.step F hm S R'⟩
end
noncomputable def vE(J0 J:Sg)(x:Ml)(ls:List (List Me)):Prop:=∃as:List Ml,J x=Md (.list (as.map MK))/\as.length=ls.length/\∀(j:Nat)(l:List Me),ls[j]?=Md l->∃a,as[j]?=Md a/\J a=Md (.list l)/\J0 a=Mr
section
variable{A:Rows}{B:MA}
theorem oX(G:Good Z Kg)(hn:5<=n)(M:aj J A B)(R:aD J A C):ac Z n (.ref 1153) [.ref B.m] J (λu J'=>∃x,u=.ref x/\J x=Mr/\Sub J J'/\vE J J' x (aT B C)):=by
 refine run G (lq hn rfl) ?_;lk;refine(cI (n:=n-1) G (lp hn rfl) M).Wr (MD _) ?_;intro _ τ r1;refine ae r1 λa z6=>?_;rw[z6.1];have hlen:=M.WM;have hb:=jD M;have Rτ:aD τ A C:=λj hj=>(R j hj).sub z6.2.2.1;refine fk (xs:=bq A) (λj ws J'=>j<=18/\Sub τ J'/\∃as:List Ml,ws=as.map MK/\as.length=j/\∀(i:Nat),i<j->∃b,as[i]?=Md b/\J' b=Md (.list (W0 ((WM B).getD i 0) (C i)))/\τ b=Mr) ⟨Nc _,Sub.rfl,[],rfl,rfl,nofun⟩ (λj ws J' h=>h.2.1 _ _ z6.2.2.2) (by rw[bd];decide) ?_ ?_
 ·intro j v ws J' Q' hv I0 hval _;refine ae I0.2.2 λas z5=>?_;obtain rfl:=z5.1;have hlt:j<18:=by have:=(ML.mp hv).1;rw[bd] at this;exact this
  rw[gH A hlt] at hv;obtain rfl:=MJ hv;have Rj:=(Rτ j hlt).sub I0.2.1;rw[hlen j hlt] at Rj;lk;refine(gI (n:=n-1) G (lp hn rfl) Rj (hb j)).Wr (MD _) ?_;intro _ υ r2;refine ae r2 λx z4=>?_;rw[z4.1];lk;refine hval _ _ _ ⟨hlt,I0.2.1.trans z4.2.2.1,as++[x],by simp,by simp[z5.2.1],λi hi=>?_⟩;by_cases hij:i<j;·refine ae (z5.2.2 i hij) λb z3=>?_;exact⟨b,by rw[M8 (by exact ao KD [] [_,_,_] z5.2.1 hij)];exact z3.1,z4.2.2.1 _ _ z3.2.1,z3.2.2⟩
  ·obtain rfl:i=j:=ao Ld [] [_,_] hi hij;exact⟨x,by rw[MZ (Ot z5.2.1),z5.2.1,Nr];rfl,z4.2.2.2,I0.2.1.none z4.2.1⟩
 ·intro ws J' x I0 hx;refine ae I0.2.2 λas z2=>?_;rw[z2.1];have hal:=z2.2.1;have hat:=z2.2.2;rw[bd] at hal hat;have N:=Wu hx (.list (as.map MK));lk;refine⟨x,rfl,z6.2.2.1.none (I0.2.1.none hx),z6.2.2.1.trans (I0.2.1.trans N),as,aa _ _ _,by rw[hal,bn],λj l hl=>?_⟩;have hlt:j<18:=by have:=(ML.mp hl).1;rw[bn] at this;exact this
  rw[bP hlt] at hl;rw[<-MJ hl];refine ae (hat j hlt) λb z1=>?_;exact⟨b,z1.1,N _ _ z1.2.1,z6.2.2.1.none z1.2.2⟩
end
open T in
noncomputable def BL:T:=cst (.ref 1184)<|ld Ku<|cst (.ref 1113)<|ld Ki<|cst (.int 2 0)<|call 2<|idx<|ld Kr<|ld JD<|ld Kc<|ld Kn<|ld Js<|call 6<|ret
open T in
noncomputable def wW:T:=st Jt<|cst (.ref 1127)<|ld Jt<|call 1<|ld Kr<|WA (.zip 2) (st Jr<|st 1953459300<|seq (ld Jr<|isi (.ref 159)<|ite (cst (.ref 1179)<|ld Jr<|ld 1953459300<|cst (.ref 1113)<|ld Ki<|ld Jr<|len<|call 2<|ld 6709618<|call 4<|ite (Wz)<|cst (.bool Mh)<|ret)<|Wz)<|Wz)<|Wz
open T in
noncomputable def Br:T:=ld Ku<|cst .none<|cst (.int 1 0)<|ld Ks<|Xr<|bin .add<|sli<|WA .seq wW BL
inductive vt(Kt:Ml->Option (List Me))(B:Nat->MA)(H:Sg)(kl sa da:Ml)(ps:List aI)(tx data:Array UInt8)(marked:Bool)(v:LS)(C1:Nat->Int->Int):Prop where
 |mk (HT:Kt 361=Md (bt [1,1,1,1]))
  (steps:dK H sa ps)
  (bu:bL H da (bu tx v0 (ps.map Md)))
  (kl:H kl=Md (.list [.ref (B 0).m,.ref (B 1).m,.ref (B 2).m,.ref (B 3).m]))
  (hps:ps.length<=4)
  (P:PS tx.toList ps v)
  (e1:C1=(fH (B 0) tx Cf ps marked).2)
  (hd:data=(fH (B 0) tx Cf ps marked).1.WX.made.toArray)
noncomputable abbrev EL(ja kl sa da:Ml)(tx:Array UInt8)(marked wide:Bool)(r:Loc):Loc:=(Ki,.ref ja)::(Ks,.bool wide)::(Js,.bool marked)::(Kc,.ref sa)::(Kn,.bytes tx 0)::(JZ,.ref da)::(Ku,.ref kl)::r
noncomputable abbrev EF(ja kl sa da:Ml)(tx:Array UInt8)(marked wide:Bool)(pa:Ml)(data:Array UInt8)(far:Int):Loc:=EL ja kl sa da tx marked wide [(Kr,.ref pa),(JD,.bytes data 0),(6709618,.int far 0)]
variable{kl:Ml}
section
variable{C1:Nat->Int->Int}{m:Nat}{wide:Bool}
theorem vt.sub(Y:vt Z.kt B H kl sa da ps tx data marked v C1)(o:Sub H H'):vt Z.kt B H' kl sa da ps tx data marked v C1:=by refine⟨Y.1,?_,Y.3.keep λa c b e=>o a c e,o _ _ Y.4,Y.5,Y.6,Y.7,Y.8⟩;refine ae Y.2 λas z4=>?_;exact⟨as,o _ _ z4.1,z4.2.1,λj p e=>(z4.2.2 j p e).imp λa z2=>z2.imp id (o _ _)⟩
theorem vt.re(Y:vt Z.kt B H kl sa da ps tx data marked v C1)(W:Wl A B ja Cf C1 m H k J):vt Z.kt B (Hb A B ja J) kl sa da ps tx data marked v C1:=Y.sub λa c h=>(W.old h).trans (W.1 _ _ h)
theorem Ej(G:cV Z Kg)(hn:14<=n)(F:mI A B ja)(W:Wl A B ja Cf C1 4 H k J)(k0:k<=90000)(Y:vt Z.kt B H kl sa da ps tx data marked v C1)(Lp:aL H pa (aT (B 0) C1)):X Z n (bV λu a=>u=.bool Mj) [] J (EL ja kl sa da tx marked wide [(Kr,.ref pa),(JD,.bytes data 0)]) [] BL:=by
 unfold BL;lk;refine(aF (n:=n) G.toGood (jR hn rfl) W.3 (o9 k0 rfl) (by decide) (by decide +kernel)).X3 λJ1 r r0 r1 Ma c1=>?_;have W1:=W.Z9 F Ma c1;have hkl:=W1.1 _ _ Y.4;have fin:∀i,i<4->ac Z n (.ref 1184) [.ref (B i).m,.ref pa,.bytes data 0,.ref sa,.bytes tx 0,.bool marked] J1 (λu a=>u=.bool Mj):=λi hi=>by
  have R:=W1.5 i hi;rw[if_pos hi] at R;have hs:=Y.2;refine iN (n:=n) G.toGood hn W1.1 (λj hj=>⟨W1.2 _ (.inr ⟨i,hi,.inl ⟨j,hj,.inl rfl⟩⟩),W1.2 _ (.inr ⟨i,hi,.inl ⟨j,hj,.inr rfl⟩⟩)⟩) (λa ha=>W1.2 _ (.inr ⟨i,hi,.inr ha⟩)) (W1.4 i hi) (F.5 i hi) (F.4 i hi) ?_ R ?_ hs Y.1 Y.5 (by have:=o6 Y.6 Y.5;exact c6 this rfl) (s7 Y.6) (sS (B i) Y.6) ?_;·rw[eY (F.1 i hi) (F.2 i hi) (F.3 i hi)];exact Y.7
  ·rw[l6 (F.1 i hi) (F.2 i hi) (F.3 i hi)];exact Lp
  ·rw[eY (F.1 i hi) (F.2 i hi) (F.3 i hi)];exact Y.8
 lk;have hr:r=0∨r=1:=by lia
 rcases hr with rfl|rfl;·refine av hkl (by decide) (by decide) rfl ?_;lk;refine(fin 0 (by decide)).Wr (MD _) ?_;rintro _ J2 rfl;lk;rfl
 ·refine av hkl (by decide) (by decide) rfl ?_;lk;refine(fin 1 (by decide)).Wr (MD _) ?_;rintro _ J2 rfl;lk;rfl
end
section
variable{C1:Nat->Int->Int}{m:Nat}{wide:Bool}
theorem B5(G:cV Z Kg)(hn:12<=n)(F:mI A B ja)(W:Wl A B ja Cf C1 4 H k J)(k0:k<=80000)(hi:i<4)(Lp:aL H pa (aT (B 0) C1))(f0:0<=far)(q:∀J' k',k'<=k+18->Wl A B ja Cf C1 4 H k' J'->XN Q' J' (EF ja kl sa da tx marked wide pa data far)):X Z n Q' [] J (EF ja kl sa da tx marked wide pa data far) [.ref (B i).m] wW:=by
 have Mi:=W.4 i hi;unfold wW;lk;refine(cI (n:=n) G.toGood (jR hn rfl) Mi).Yc λJ1 x hx S1 hx1=>?_;have W1:=W.XH S1;have nx:¬Mv A B ja x:=W.new hx;lk;have hlen:=Mi.WM;have hb:=jD Mi;refine ae Lp.aaE λbs z2=>?_;have b1:=z2.1;have b2:=z2.2.1;have b3:=z2.2.2;have hsame:∀j,(WM (B 0)).getD j 0=(WM (B i)).getD j 0:=λj=>by rw[oB (F.1 i hi) (F.2 i hi) (F.3 i hi)]
 have nj:x≠ja:=λz=>nx (.inl z);refine wJ (as:=[x,pa]) (st:=[]) (N:=18) (hd:=λj=>[(bq (A i)).getD j .none,(bs.map MK).getD j .none]) rfl
  (λj E' J'=>E'=EF ja kl sa da tx marked wide pa data far/\J' x=Md (.list (bq (A i)))/\Wl A B ja Cf C1 4 H (k+j) J')
  ⟨_,⟨rfl,hx1,by rw[show k+((0:Nat):Int)=k from PF k];exact W1⟩,rfl⟩ ?_ ?_ ?_
 ·intro j E' J' r1;have w1:=r1.2.1;have w2:=r1.2.2;exact CO w1 (w2.1 _ _ b1) (bd (A i)) (by rw[Mu];exact b2) j
 ·intro j E' J' Q'' hj I0 hnext _;rw[I0.1];have w1:=I0.2.1;have w2:=I0.2.2;rw[fw (A i) hj,nZ (by exact ao KS [] [_,_] b2 hj)];have Rj:=w2.5 i hi j hj;rw[if_pos hi,hlen j hj] at Rj;have bj:=w2.1 _ _ (b3 j hj);rw[hsame] at bj;have hp:=qq (B i) hj;have hbj:=hb j;generalize hle:(WM (B i)).getD j 0=len at*;lk;rcases Rj.isi with⟨hi1,he,mm,hm,D⟩|⟨hi1,_,_⟩
  ·refine iy (r:=Mj) ?_ hi1;lk;refine Rj.len G.toGood (jR hn rfl) (kI hbj rfl) ?_;lk;refine(aF (n:=n) G.toGood (jR hn rfl) w2.3 (ao 0x421840003d210504e71002081ec3500bc16782c [_] [_] k0 hj) (nF hp) ?_).Wr (MD _) ?_;·have:(len:Int).natAbs=len:=rfl;rw[this];exact Q0 ((UL (λzz=>fb 0x845080007a81187c150b [] [_] zz hp)).mpr (show len<2^17 by exact kI hbj rfl)) (by decide)
   intro _ J2 I0;refine ae I0 λb z1=>?_;rw[z1.1];have p0:=z1.2.1;have p1:=z1.2.2.1;have LP:=z1.2.2.2.1;have c2:=z1.2.2.2.2;have W2:=w2.Z9 F LP c2;have Rj2:=W2.5 i hi j hj;rw[if_pos hi,hlen j hj,hle] at Rj2;have he2:=c2.1 _ _ (λz=>F.7 i hi ⟨j,hj,.inl z.symm⟩) he;have bj2:=W2.1 _ _ (b3 j hj);rw[hsame,hle] at bj2;have hx2:=c2.1 _ _ nj w1;lk;refine(ku (n:=n) G (jR hn rfl) he2 Rj2 hbj bj2 p0 p1 f0).Ws λJ3 r2=>?_;have S3:=r2;lk;refine hnext ⟨_,⟨rfl,S3 _ _ hx2,?_⟩,rfl⟩;have:=W2.XH S3;rw[show k+((j+1:Nat):Int)=k+j+1 from ck 0x4031782cf7104fc16e241 [_] [_]];exact this
  ·refine iy (r:=Mh) ?_ hi1;lk;refine hnext ⟨_,⟨rfl,w1,?_⟩,rfl⟩;have LZ:=w2.3;exact⟨w2.1,w2.2,LZ.le (ck 0x18827e0bbc167834 [_] [_]),w2.4,w2.5⟩
 ·intro E' J' I0;rw[I0.1];have w1:=I0.2.1;have w2:=I0.2.2;exact q _ _ (QM _) w2
end
section
variable{C1:Nat->Int->Int}{m:Nat}{wide:Bool}
theorem vJ(W:Wl A B ja Cf C1 m H k J)(L:aL H x ls):aL (Hb A B ja J) x ls:=by have o:∀{a:Ml}{c:Cell},H a=Md c->Hb A B ja J a=Md c:=λ{a c} h=>(W.old h).trans (W.1 _ _ h);refine ae L λas z4=>?_;exact⟨as,o z4.1,z4.2.1,λj l e=>by refine ae (z4.2.2 j l e) λy z3=>?_;exact⟨y,z3.1,o z3.2⟩⟩
theorem ER(G:cV Z Kg)(hn:14<=n)(F:mI A B ja)(W:Wl A B ja Cf C1 4 H k J)(k0:k<=70000)(Y:vt Z.kt B H kl sa da ps tx data marked v C1)(Lp:aL H pa (aT (B 0) C1))(f0:0<=far):X Z n (bV λu a=>u=.bool Mj) [] J (EF ja kl sa da tx marked wide pa data far) [] Br:=by
 unfold Br;lk;have hkl:=W.1 _ _ Y.4;have hw:(0:Int)<=1+(if wide=Mj then 1 else 0)/\1+(if wide=Mj then 1 else 0:Int)<=2:=by cases wide<;>exact⟨by decide,by decide⟩
 generalize 1+(if wide=Mj then(1:Int) else 0)=w at*;refine ix (i:=0) (j:=w.toNat) hkl ?_ (MG rfl) λx hx=>?_;·exact sF hw.1 (ao 0x423842003d00000000000000002444a108220417c8e6090e [_,_] [] hw d5)
 have W1:=W.XH (Wu hx (.list (([MK (B 0).m,.ref (B 1).m,.ref (B 2).m,.ref (B 3).m].take w.toNat).drop 0)));have nx:=W.new hx;have hx1:upd J x (.list (([MK (B 0).m,.ref (B 1).m,.ref (B 2).m,.ref (B 3).m].take w.toNat).drop 0)) x=_:=aa _ _ _;generalize upd J x (.list (([MK (B 0).m,.ref (B 1).m,.ref (B 2).m,.ref (B 3).m].take w.toNat).drop 0))=J1 at*;have W2:=W1.re;have X2:=Y.re W1;have Lp2:=vJ W1 Lp;have hxH:=Hb.at nx hx1;generalize Hb A B ja J1=H2 at*;refine eL (λ(_:Int)(_ _:Unit)=>EF ja kl sa da tx marked wide pa data far) (λj k' a a J'=>k'<=k+18*j/\Wl A B ja Cf C1 4 H2 k' J')
  k () () ⟨ck 0x1f204482e0828 [_] [],W2⟩ rfl (λa a a a a z=>z.2.1 _ _ hxH) ?_ ?_
 ·intro j u k' _ _ J' Q' hu z2 hnext _;have hj:j<4/\u=.ref (B j).m:=by
   rw[SV,QL] at hu;split at hu;·exact G5 (n:=4) (λj=>MK (B j).m) hu
   ·cases hu
  rw[hj.2];refine B5 G (lq hn rfl) F z2.2 (aS 0x2451421840005b041411bc81124470416c45c048808671002081e [_,_] [_] k0 z2.1 hj.1) hj.1 Lp2 f0 λJ2 k2 hk2 v1=>hnext k2 () () ⟨ao 0x108610000f48445704105e408922388a0c6209f9022488e083a [_,_,_] [_] z2.1 hk2,v1⟩ rfl
 ·intro k' _ _ J' z1;have:(([MK (B 0).m,.ref (B 1).m,.ref (B 2).m,.ref (B 3).m].take w.toNat).drop 0).length<=4:=by rw[SV,OJ];exact TV _ _
  exact fP (Ej G hn F z1.2 (aS 0x2451421840005b041311bc81124470416c45c0488086bf202081e [_,_] [_] k0 z1.1 this) X2 Lp2) rfl
end
open T in
noncomputable def CG:T:=cst (.ref 1153)<|ld Ku<|cst (.int 0 0)<|idx<|call 1<|st Kr<|seq (ld Ku<|cst (.int 1 0)<|cst .none<|sli<|Xo Mh Jt (cst (.ref 1153)<|ld Jt<|call 1<|yld)<|ld Kr<|Xa 1<|cst (.int 3 0)<|bin .mul<|eqv Mj<|ite (cst (.bool Mh)<|ret)<|Wz)<|cst (.int 0 0)<|cst (.int 1 0)<|cst (.ref 1113)<|ld Ki<|cst (.int 10 0)<|cst (.int 20 0)<|bin .pow<|call 2<|Xa 3<|cst (.ref 1113)<|ld Ki<|cst (.int 3 0)<|call 2<|idx<|st 6709618<|Br
variable{P:List (List Me)}
section
variable{C1:Nat->Int->Int}{m:Nat}{wide:Bool}
noncomputable def Tl(J:Sg)(ws:List Me)(P:List (List Me)):Prop:=∀v,v∈ws->∃b,v=.ref b/\aL J b P
theorem Tl.sub(T:Tl J ws P)(S:Sub J J'):Tl J' ws P:=λv h=>(T v h).imp λa z=>z.imp id (·.sub S)
theorem Tl.Y4(T:Tl J ws P)(L:aL J b P):Tl J (ws++[.ref b]) P:=λv h=>(Oq.mp h).elim (T v) λh=>⟨b,MN.mp h,L⟩
theorem EP{e r:Int}(e0:0<=e)(e1:e<3)(r0:0<=r):∃f:Int,And (0<=f) ([OD 0 0,.int 1 0,.int r 0][e.toNat]?=Md (.int f 0)):=by
 have he:e=0∨e=1∨e=2:=by lia
 rcases he with rfl|rfl|rfl;·exact⟨0,by decide,rfl⟩
 ·exact⟨1,by decide,rfl⟩
 ·exact⟨r,r0,rfl⟩
theorem E4(G:cV Z Kg)(hn:14<=n)(F:mI A B ja)(W:Wl A B ja Cf C1 4 H k J)(kk:0<=k)(k0:k<=60000)(Y:vt Z.kt B H kl sa da ps tx data marked v C1):X Z n (bV λu d=>u=.bool Mj) [] J (EL ja kl sa da tx marked wide [(JD,.bytes data 0)]) [] CG:=by
 unfold CG;lk;have hkl:=W.1 _ _ Y.4;refine av hkl (by decide) (by decide) rfl ?_;lk;have R0:=W.5 0 (by decide);rw[if_pos (by decide)] at R0;refine(oX (n:=n) G.toGood (jR hn rfl) (W.4 0 (by decide)) R0).Yc λJ1 pa hpa S1 N1=>?_;have W1:=W.XH S1;have nw:∀{a:Ml},J a=Mr->¬Mv A B ja a:=λh=>W.new h;have Lp:aL (Hb A B ja J1) pa (aT (B 0) C1):=by refine ae N1 λas zq5=>?_;have q1:=zq5.1;have q2:=zq5.2.1;have q3:=zq5.2.2;exact⟨as,Hb.at (nw hpa) q1,q2,λj l e=>by obtain⟨a,w1,w2,w3⟩:=q3 j l e;exact⟨a,w1,Hb.at (nw w3) w2⟩⟩
 have W2:=W1.re;have X2:=Y.re W1;generalize Hb A B ja J1=H2 at*;lk;have hkl:=W2.1 _ _ X2.4;refine ix (i:=1) (j:=4) hkl (by rfl) (MG rfl) λx hx=>?_;have W3:=W2.XH (Wu hx (.list (([MK (B 0).m,.ref (B 1).m,.ref (B 2).m,.ref (B 3).m].take 4).drop 1)));have nx:=W2.new hx;have hx1:upd J1 x (.list (([MK (B 0).m,.ref (B 1).m,.ref (B 2).m,.ref (B 3).m].take 4).drop 1)) x=_:=aa _ _ _;generalize upd J1 x (.list (([MK (B 0).m,.ref (B 1).m,.ref (B 2).m,.ref (B 3).m].take 4).drop 1))=J2 at*;have W4:=W3.re;have hxH:=Hb.at nx hx1;have o2:Sub H2 (Hb A B ja J2):=λa c h=>(W3.old h).trans (W3.1 _ _ h);generalize Hb A B ja J2=H3 at*;refine fk (xs:=[MK (B 1).m,.ref (B 2).m,.ref (B 3).m]) (λj ws J'=>Wl A B ja Cf C1 4 H3 k J'/\ws.length=j/\Tl J' ws (aT (B 0) C1)) ⟨W4,rfl,nofun⟩ (λj ws J' h=>h.1.1 _ _ hxH) (MG rfl) ?_ ?_;·intro j u ws J' Q' hu I0 hval _;have hj:=G5 (n:=3) (λj=>MK (B (j+1)).m) hu;rw[hj.2];replace hj:=hj.1;have Rj:=I0.1.5 (j+1) (kI hj rfl);rw[if_pos (show j+1<4 from kI hj rfl)] at Rj;lk;refine(cQ (n:=n) G.toGood (jR hn rfl) (I0.1.4 (j+1) (kI hj rfl)) Rj).Yc λJ3 b hb S3 L3=>?_;rw[l6 (F.1 (j+1) (kI hj rfl)) (F.2 (j+1) (kI hj rfl)) (F.3 (j+1) (kI hj rfl))] at L3;lk;exact hval _ _ _ ⟨I0.1.XH S3,MI.trans (congrArg (·+1) I0.2.1),(I0.2.2.sub S3).Y4 L3⟩
 intro ws J3 y I0 hy;have N:=Wu hy (.list ws);have hy1:=aG N;have w2:=I0.1.XH N;generalize upd J3 y (.list ws)=J4 at*;lk;intro y2 hy2;have N2:=Wu hy2 (.list [MK pa]);have hy2':=aG N2;have w3:=w2.XH N2;have hy1:=N2 _ _ hy1;generalize upd J4 y2 (.list [MK pa])=J5 at*;lk;refine ka hy2' ⟨by decide,by decide⟩ λz hz=>?_;have N3:=Wu hz (.list (M9 (3:Int).toNat (MK pa)));have hz':=aG N3;have w4:=w3.XH N3;have hy1:=N3 _ _ hy1;have T:=I0.2.2.sub (N.trans (N2.trans N3));generalize upd J5 z (.list (M9 (3:Int).toNat (MK pa)))=J6 at*;have Lp6:=Lp.sub (o2.trans w4.1);refine kG (.same (eR hy1 hz' (I0.2.1.trans NX.symm) λj u w e e'=>?_)) ?_;·rw[List.eq_of_mem_replicate (MP e')];refine ae (T u (MP e)) λb z=>?_;rw[z.1];exact mr z.2 Lp6
 lk;refine(aF (n:=n) G.toGood (jR hn rfl) w4.3 (o9 k0 rfl) (by decide) (by decide +kernel)).X3 λJ7 r r0 r1 LO c7=>?_;have w7:=w4.Z9 F LO c7;lk;intro y3 hy3;have N4:=Wu hy3 (.list [.int 0 0,.int 1 0,.int r 0]);have hy3':upd J7 y3 (.list [.int 0 0,.int 1 0,.int r 0]) y3=_:=aa _ _ _;have w8:=w7.XH N4;have nj3:y3≠ja:=λz=>w7.new hy3 (.inl z);generalize upd J7 y3 (.list [.int 0 0,.int 1 0,.int r 0])=J8 at*;lk;refine(aF (n:=n) G.toGood (jR hn rfl) w8.3 (ill k0 rfl) (by decide) (by decide +kernel)).X3 λJ9 e e0 e1 LY c9=>?_;have w9:=w8.Z9 F LY c9;have hy9:=c9.1 _ _ nj3 hy3';lk;refine ae (EP e0 e1 r0) λf z=>?_;refine av hy9 e0 (o9 e1 rfl) z.2 ?_;exact eG (fP (ER (far:=f) G hn F w9 (af 0x8400027d4c02081d88b808882ce6d838 [_] [] k0) (X2.sub o2) (Lp.sub o2) z.1 (wide:=wide)) rfl)
end
open T in
noncomputable def x8:T:=st Jt<|seq (cst (.ref 1167)<|ld Jt<|ld JD<|ld Kn<|ld JZ<|cst (.str "end" 0)<|Xz 1<|Xa 1<|ld Js<|Xr<|bin .mul<|bin .add<|call 4<|ite (Wz)<|cst (.bool Mh)<|ret)<|Wz
open T in
noncomputable def B4:T:=cst (.ref 1160)<|ld Ku<|cst (.int 0 0)<|idx<|ld Kc<|ld Kn<|ld Js<|call 4<|st JD<|seq (ld JD<|isn Mh<|ite (cst (.bool Mh)<|ret)<|cst (.ref 1160)<|ld Ku<|cst (.int 1 0)<|idx<|ld Kc<|ld Kn<|ld Js<|call 4<|ld JD<|eqv Mj<|ite (cst (.bool Mh)<|ret)<|Wz)<|ld Ku<|cst (.int 2 0)<|cst .none<|sli<|WA .seq x8 CG
section
variable{C1:Nat->Int->Int}{m:Nat}{wide:Bool}
theorem XN.wk{E':Loc}(q:XN Q J E')(h:Wk E E'):XN Q J E:=λρ r=>q ρ (h.up r)
theorem BW(G:cV Z Kg)(hn:12<=n)(F:mI A B ja)(W:Wl A B ja Cf C1 m H k J)(hm:m<4)(Y:vt Z.kt B H kl sa da ps tx data marked v C1)(q:∀J',Wl A B ja Cf C1 (m+1) H k J'->XN Q' J' (EL ja kl sa da tx marked wide [(JD,.bytes data 0)])):X Z n Q' [] J (EL ja kl sa da tx marked wide [(JD,.bytes data 0)]) [.ref (B m).m] x8:=by
 unfold x8;lk;intro t ht;have N1:=Wu ht (.tup [.str "end" 0]);have ht1:upd J t (.tup [.str "end" 0]) t=_:=aa _ _ _;have W1:=W.XH N1;have nt:=W.new ht;generalize upd J t (.tup [.str "end" 0])=J1 at*;lk;intro l1 hl1;have N2:=Wu hl1 (.list [.ref t]);have hl1':upd J1 l1 (.list [.ref t]) l1=_:=aa _ _ _;have W2:=W1.XH N2;have ht2:=N2 _ _ ht1;generalize upd J1 l1 (.list [.ref t])=J2 at*;lk;refine ka hl1' (by cases marked<;>exact⟨by decide,by decide⟩) λl2 hl2=>?_;have N3:=Wu hl2 (.list (M9 (if marked=Mj then(1:Int) else 0).toNat (.ref t)));have hl2':upd J2 l2 (.list (M9 (if marked=Mj then(1:Int) else 0).toNat (.ref t))) l2=_:=aa _ _ _;have W3:=W2.XH N3;have ht3:=N3 _ _ ht2;generalize upd J2 l2 (.list (M9 (if marked=Mj then(1:Int) else 0).toNat (.ref t)))=J3 at*;refine ae Y.3 λds z2=>?_;have hds:=W3.1 _ _ z2.1;have hdl:ds.length<=4:=by rw[z2.2.1,i9,Mu];exact Y.5
 refine d7 hds hl2' (by rw[Mu,NX];cases marked<;>simp<;>exact c6 hdl rfl) λdd hdd=>?_;have N4:=Wu hdd (.list (ds.map MK++M9 (if marked=Mj then(1:Int) else 0).toNat (.ref t)));have hdd':upd J3 dd (.list (ds.map MK++M9 (if marked=Mj then(1:Int) else 0).toNat (.ref t))) dd=_:=aa _ _ _;have W4:=W3.XH N4;have nd:=W3.new hdd;have ht4:=N4 _ _ ht3;generalize upd J3 dd (.list (ds.map MK++M9 (if marked=Mj then(1:Int) else 0).toNat (.ref t)))=J4 at*;have TD:bL (Hx (A m) J4) dd (bu tx v0 (full ps marked)):=by
  refine⟨ds++M9 (if marked=Mj then(1:Int) else 0).toNat t,Hx.at (λz=>nd (.inr ⟨m,hm,.inl z⟩)) (by rw[hdd',Od,List.map_replicate]),?_,λj l e=>?_⟩;·rw[nU,MI,MI,z2.2.1,NX];cases marked<;>rfl
  ·rw[nU] at e;by_cases hj:j<ds.length;·rw[M8 (by rw[<-z2.2.1];exact hj)] at e;refine ae (z2.2.2 j l e) λa z1=>?_;exact⟨a,by rw[M8 hj];exact z1.1,W4.hx hm z1.2⟩
   ·rw[MZ (by rw[<-z2.2.1];exact Rf hj),<-z2.2.1] at e;rw[MZ (Rf hj)];refine⟨t,?_,?_⟩
    ·cases marked with
     |false=>cases e
     |true=>
      have:j-ds.length=0:=by have:=(ML.mp e).1;simp at this;exact this
      rw[this];rfl
    ·cases marked with
     |false=>cases e
     |true=>
      have:j-ds.length=0:=by have:=(ML.mp e).1;simp at this;exact this
      rw[this] at e;rw[<-MJ e];exact Hx.at (λz=>nt (.inr ⟨m,hm,.inl z⟩)) ht4
 lk;refine(yQ (n:=n) G.toGood hn F W4 hm Y.1 TD Y.5 Y.6 Y.7 Y.8).Ws λJ5 r1=>?_;have W5:=r1;lk;exact XN.wk (q _ W5) rfl
theorem Ey(G:cV Z Kg)(hn:14<=n)(F:mI A B ja)(W:Wl A B ja Cf C1 0 H k J)(kk:0<=k)(k0:k<=60000)(Y:vt Z.kt B H kl sa da ps tx data marked v C1):X Z n (bV λu a=>u=.bool Mj) [] J (EL ja kl sa da tx marked wide []) [] B4:=by
 unfold B4;lk;have hkl:=W.1 _ _ Y.4;refine av hkl (by decide) (by decide) rfl ?_;lk;refine(lD (n:=n) G.toGood (jR hn rfl) F W (by decide) Y.1 Y.2 Y.5 Y.6 Y.7 Y.8).Ws λJ1 W1=>?_;lk;have hkl:=W1.1 _ _ Y.4;refine av hkl (by decide) (by decide) rfl ?_;lk;refine(lD (n:=n) G.toGood (jR hn rfl) F W1 (by decide) Y.1 Y.2 Y.5 Y.6 Y.7 Y.8).Ws λJ2 W2=>?_;lk;refine kG iE ?_;lk;have hkl:=W2.1 _ _ Y.4;refine ix (i:=2) (j:=4) hkl (by rfl) (MG rfl) λx hx=>?_;have W3:=W2.XH (Wu hx (.list (([MK (B 0).m,.ref (B 1).m,.ref (B 2).m,.ref (B 3).m].take 4).drop 2)));have nx:=W2.new hx;have hx1:upd J2 x (.list (([MK (B 0).m,.ref (B 1).m,.ref (B 2).m,.ref (B 3).m].take 4).drop 2)) x=_:=aa _ _ _;generalize upd J2 x (.list (([MK (B 0).m,.ref (B 1).m,.ref (B 2).m,.ref (B 3).m].take 4).drop 2))=J3 at*;have W4:=W3.re;have X2:=Y.re W3;have hxH:=Hb.at nx hx1;generalize Hb A B ja J3=H2 at*;refine eL (xs:=[MK (B 2).m,.ref (B 3).m]) (λ(_ _ _:Unit)=>EL ja kl sa da tx marked wide [(JD,.bytes data 0)]) (λj a a a J'=>Wl A B ja Cf C1 (2+j) H2 k J') () () () W4 rfl (λa a a a a z=>z.1 _ _ hxH) ?_ ?_;·intro j u _ _ _ J' Q' hu I0 hnext _;have hj:=G5 (n:=2) (λj=>MK (B (2+j)).m) hu;rw[hj.2];exact BW G (lq hn rfl) F I0 (af 0x2100009c20a08414056841f [] [_] hj.1) X2 λJ4 v1=>hnext () () () v1 rfl
 ·intro _ _ _ J' w1;exact E4 G hn F w1 kk k0 X2
end
open T in
noncomputable def zY:T:=cst (.ref 349)<|ld Jn<|call 1<|cst (.ref 1141)<|cst (.ref 349)<|ld Jn<|call 1<|call 1<|cst (.ref 349)<|ld Jn<|call 1<|cst (.ref 1141)<|cst (.ref 349)<|ld Jn<|call 1<|call 1<|Xa 4<|st Ku<|B4
noncomputable def bX(a b c d:α):Nat->α
 |0=>a
 |1=>b
 |2=>c
 |_=>d
theorem Ha(D:∀j,j<4->∀i,i<j->∀a,aE (A i) a->¬aE (A j) a):∀i j,i<4->j<4->i≠j->∀a,aE (A i) a->¬aE (A j) a:=λi j hi hj ne=>
 (SU ne).elim (λh=>D j hj i h) λh a x y=>D i hi j h a y x
section
variable{wide:Bool}{lp:Nat}
theorem iC{A:Rows}(R:aD J A C)(h:aE A a):J a≠none:=λz=>lm R z h
theorem EZ(G:cV Z Kg)(hn:14<=n)(hc:lc<=1)(hp:lp<=1)(hb:pb<=4)(Pp:J p=Md (yy lc lp pb))(LZ:nl J ja k)(kk:0<=k)(k0:k<=50000)(HT:Z.kt 361=Md (bt [1,1,1,1]))(Sa:bL J sa (ps.map aI.vals))(Da:bL J da (bu tx v0 (ps.map Md)))(na:sa≠ja)(nd:da≠ja)(hps:ps.length<=4)(P:PS tx.toList ps v):X Z n (bV λu b=>u=.bool Mj) [] J [(Ki,.ref ja),(Ks,.bool wide),(Js,.bool marked),(Kc,.ref sa),(Kn,.bytes tx 0),(JZ,.ref da),(Jn,.ref p)] [] zY:=by
 unfold zY;lk;refine(cE (n:=n) G.toGood (jR hn rfl) hc hp hb Pp).Z4 λJa A0 B0 D0=>?_;have Sa0:=D0.3;lk;refine(cE (n:=n) G.toGood (jR hn rfl) hc hp hb (Sa0 _ _ Pp)).Z4 λJb A1' B1 D1=>?_;lk;refine(je (n:=n) G.toGood (jR hn rfl) D1.4 D1.2 D1.5).Ws λJc r3=>?_;refine ae r3 λA1 E1=>?_;have Sac:Sub Ja Jc:=E1.5.sub D1.3 D1.8;lk;refine(cE (n:=n) G.toGood (jR hn rfl) hc hp hb (Sac _ _ (Sa0 _ _ Pp))).Z4 λJd A2 B2 D2=>?_;have Scd:=D2.3;lk;refine(cE (n:=n) G.toGood (jR hn rfl) hc hp hb (Scd _ _ (Sac _ _ (Sa0 _ _ Pp)))).Z4 λJe A3' B3 D3=>?_;lk;refine(je (n:=n) G.toGood (jR hn rfl) D3.4 D3.2 D3.5).Ws λJf r4=>?_;refine ae r4 λA3 E3=>?_;have Sdf:Sub Jd Jf:=E3.5.sub D3.3 D3.8;lk;intro kl hkl;have Sfg:=Wu hkl (.list [.ref B0.m,.ref B1.m,.ref B2.m,.ref B3.m]);have hkl1:upd Jf kl (.list [.ref B0.m,.ref B1.m,.ref B2.m,.ref B3.m]) kl=_:=aa _ _ _;generalize upd Jf kl (.list [.ref B0.m,.ref B1.m,.ref B2.m,.ref B3.m])=Jg at*;have Sag:=Sac.trans (Scd.trans (Sdf.trans Sfg));have Scg:=Scd.trans (Sdf.trans Sfg);have Sdg:=Sdf.trans Sfg;have Ssg:=Sa0.trans Sag;have nn:∀{A:Rows}{τ:Sg},(∀j,j<18->τ (A.ra j)=Mr/\τ (A.da j)=Mr)->∀a,aE A a->τ a=none:=by
  rintro A τ N a ⟨j,hj,rfl|rfl⟩;·exact(N j hj).1
  ·exact(N j hj).2
 have n0:=nn D0.7;have n1:∀a,aE A1 a->Ja a=none:=λa h=>D1.3.none (nn E1.4 a h);have n2:=nn D2.7;have n3:∀a,aE A3 a->Jd a=none:=λa h=>D3.3.none (nn E3.4 a h);have r0:∀a,aE A0 a->Ja a≠none:=λa h=>iC D0.5 h;have r1:∀a,aE A1 a->Jc a≠none:=λa h=>iC E1.2 h;have r2:∀a,aE A2 a->Jd a≠none:=λa h=>iC D2.5 h;have low:∀i,i<4->∀a,aE (bX A0 A1 A2 A3 i) a∨W6 (bX B0 B1 B2 B3 i) a->J a=none:=by
  refine iL ?_ ?_ ?_ ?_
  ·rintro a (h|h);·exact n0 a h
   ·exact D0.8 a h
  ·rintro a (h|h);·exact Sa0.none (n1 a h)
   ·exact Sa0.none (D1.8 a h)
  ·rintro a (h|h);·exact Sa0.none (Sac.none (n2 a h))
   ·exact Sa0.none (Sac.none (D2.8 a h))
  ·rintro a (h|h);·exact Sa0.none (Sac.none (Scd.none (n3 a h)))
   ·exact Sa0.none (Sac.none (Scd.none (D3.8 a h)))
 refine ae (b8 LZ) λxj hj=>?_;have F:mI (bX A0 A1 A2 A3) (bX B0 B1 B2 B3) ja:=by
  refine⟨?_,?_,?_,?_,?_,?_,?_⟩;·exact iL rfl (D1.1.2.1.trans D0.1.2.1.symm) (D2.1.2.1.trans D0.1.2.1.symm) (D3.1.2.1.trans D0.1.2.1.symm)
  ·exact iL rfl (D1.1.2.2.1.trans D0.1.2.2.1.symm) (D2.1.2.2.1.trans D0.1.2.2.1.symm) (D3.1.2.2.1.trans D0.1.2.2.1.symm)
  ·exact iL rfl (D1.1.2.2.2.trans D0.1.2.2.2.symm) (D2.1.2.2.2.trans D0.1.2.2.2.symm) (D3.1.2.2.2.trans D0.1.2.2.2.symm)
  ·exact iL D0.6 E1.3 D2.6 E3.3
  ·exact iL D0.2 D1.2 D2.2 D3.2
  ·have d01:∀a,aE A0 a->¬aE A1 a:=λa h h'=>r0 a h (n1 a h');have d02:∀a,aE A0 a->¬aE A2 a:=λa h h'=>r0 a h (Sac.none (n2 a h'));have d03:∀a,aE A0 a->¬aE A3 a:=λa h h'=>r0 a h (Sac.none (Scd.none (n3 a h')));have d12:∀a,aE A1 a->¬aE A2 a:=λa h h'=>r1 a h (n2 a h');have d13:∀a,aE A1 a->¬aE A3 a:=λa h h'=>r1 a h (Scd.none (n3 a h'));have d23:∀a,aE A2 a->¬aE A3 a:=λa h h'=>r2 a h (n3 a h');exact Ha (A:=bX A0 A1 A2 A3) (iL (p:=λj=>∀i,i<j->∀a,aE (bX A0 A1 A2 A3 i) a->¬aE (bX A0 A1 A2 A3 j) a) uT (co uT d01) (co (co uT d02) d12) (co (co (co uT d03) d13) d23))
  ·intro i hi h;have:=low i hi ja (.inl h);rw[hj] at this;cases this
 have nmv:∀{a:Ml}{c:Cell},J a=Md c->a≠ja->¬Mv (bX A0 A1 A2 A3) (bX B0 B1 B2 B3) ja a:=by
  rintro a c h hne (z|⟨i,hi,z⟩);·exact hne z
  ·rw[low i hi a z] at h;cases h
 have W:Wl (bX A0 A1 A2 A3) (bX B0 B1 B2 B3) ja Cf (fH B0 tx Cf ps marked).2 0 (λb=>Mr) k Jg:=by
  refine⟨λa c h=>(by cases h),λb b=>rfl,LZ.sub Ssg,?_,?_⟩;·exact iL (D0.4.Wr Sag) (E1.1.Wr Scg) (D2.4.Wr Sdg) (E3.1.Wr Sfg)
  ·refine iL ?_ ?_ ?_ ?_;·exact λj hj=>(D0.5 j hj).sub Sag
   ·exact λj hj=>(E1.2 j hj).sub Scg
   ·exact λj hj=>(D2.5 j hj).sub Sdg
   ·exact λj hj=>(E3.2 j hj).sub Sfg
 have W2:=W.re;have o:∀{a:Ml}{c:Cell},J a=Md c->a≠ja->Hb (bX A0 A1 A2 A3) (bX B0 B1 B2 B3) ja Jg a=Md c:=λh hne=>Hb.at (nmv h hne) (Ssg _ _ h);have tne:∀{a:Ml}{xs:List Me},J a=Md (.tup xs)->a≠ja:=λ{a xs} h z=>by rw[z,hj] at h;cases h
 have nkl:¬Mv (bX A0 A1 A2 A3) (bX B0 B1 B2 B3) ja kl:=by
  have W':Wl (bX A0 A1 A2 A3) (bX B0 B1 B2 B3) ja Cf (fH B0 tx Cf ps marked).2 0 (λb=>Mr) k Jf:=by
   refine⟨λa c h=>(by cases h),λb b=>rfl,LZ.sub (Sa0.trans (Sac.trans (Scd.trans Sdf))),?_,?_⟩;·exact iL (D0.4.Wr (Sac.trans (Scd.trans Sdf))) (E1.1.Wr (Scd.trans Sdf)) (D2.4.Wr Sdf) E3.1
   ·refine iL ?_ ?_ ?_ ?_;·exact λj hj=>(D0.5 j hj).sub (Sac.trans (Scd.trans Sdf))
    ·exact λj hj=>(E1.2 j hj).sub (Scd.trans Sdf)
    ·exact λj hj=>(D2.5 j hj).sub Sdf
    ·exact E3.2
  exact W'.new hkl
 have Y:vt Z.kt (bX B0 B1 B2 B3) (Hb (bX A0 A1 A2 A3) (bX B0 B1 B2 B3) ja Jg) kl sa da ps tx (fH B0 tx Cf ps marked).1.WX.made.toArray marked v (fH B0 tx Cf ps marked).2:=by
  refine ae Sa λas z4=>?_;refine ae Da λbs z3=>?_;refine⟨HT,⟨as,o z4.1 na,by rw[z4.2.1,Mu],λj q e=>?_⟩,⟨bs,o z3.1 nd,z3.2.1,λj q e=>?_⟩,Hb.at nkl hkl1,hps,P,rfl,rfl⟩;·refine ae (z4.2.2 j q.vals (by rw[MM,e];rfl)) λa z2=>?_;exact⟨a,z2.1,o z2.2 (tne z2.2)⟩
  ·refine ae (z3.2.2 j q e) λa z1=>?_;exact⟨a,z1.1,o z1.2 (tne z1.2)⟩
 exact eG (fP (Ey (wide:=wide) G hn F W2 kk (o9 k0 rfl) Y) rfl)
end
open T in
noncomputable def yN:T:=cst (.ref 1120)<|ld Ki<|blk (ld Ks<|ite (cst (.int 1 0)<|cst (.ref 1113)<|ld Ki<|cst (.int 4 0)<|call 2<|bin .add<|yld)<|cst (.int 1 0)<|yld)<|call 2<|unp 3<|st Kc<|st Kn<|st JZ<|zY
open T in
noncomputable def B6:T:=cst (.ref 209)<|ld 27747<|ld 27760<|cst (.ref 1113)<|ld Ki<|cst (.int 5 0)<|call 2<|call 3<|st Jn<|blk (ld Ks<|dup<|ite (pop<|cst (.ref 1113)<|ld Ki<|cst (.int 2 0)<|call 2<|cst (.int 1 0)<|eqv Mh<|yld)<|yld)<|st Js<|yN
open T in
section
variable{wide:Bool}{lp:Nat}
theorem AY{st:List Me}{e:T}{m:Nat}(q:FG xs st λst=>X Z n Q K J E st e)(h:J a=Md (.tup xs))(hl:xs.length=m):X Z n Q K J E (.ref a::st) (.unp m e):=λρ hr=>⟨_,h,hl,rZ q ρ hr⟩
theorem DP(G:cV Z Kg)(hn:14<=n)(hc:lc<=1)(hp:lp<=1)(hb:pb<=4)(Pp:J p=Md (yy lc lp pb))(LZ:nl J ja k)(kk:0<=k)(k0:k<=400)(HT:Z.kt 361=Md (bt [1,1,1,1])):X Z n (bV λu b=>u=.bool Mj) [] J [(Ki,.ref ja),(Ks,.bool wide),(Js,.bool marked),(Jn,.ref p)] [] yN:=by
 have tail:∀(many:Nat)(k':Int)(J':Sg),many<=4->0<=k'->k'<=401->nl J' ja k'->J' p=Md (yy lc lp pb)->
   ac Z n (.ref 1120) [.ref ja,.int many 0] J' (λu τ=>X Z n (bV λu b=>u=.bool Mj) [] τ [(Ki,.ref ja),(Ks,.bool wide),(Js,.bool marked),(Jn,.ref p)] [u] (.unp 3 (.st Kc (.st Kn (.st JZ zY))))):=by
  intro many k' J' hm q0 q1 LM Pp'
  refine(pn (n:=n) G.toGood (jR hn rfl) LM q0 (o9 q1 rfl) hm).Wr (MD _) ?_
  intro _ τ I0
  cases I0 with
  |mk t sa da w ps v e ht hs hd T T' P l Ma C=>
  rw[e]
  refine ae (b8 LM) λxj hj=>?_
  have ne:∀{a:Ml}{cl:Cell},J' a=Md cl->(∀xs,cl≠.list xs)->τ a=Md cl:=λ{a cl} h hx=>C.1 _ _ (λz=>by rw[z,hj] at h;cases h;exact hx _ rfl) h
  have nja:∀{a:Ml},J' a=Mr->a≠ja:=λh z=>by rw[z,hj] at h;cases h
  have P':PS w.toArray.toList ps v:=by simpa using P
  refine AY ?_ ht rfl
  refine(?_:X _ _ _ _ _ _ _ _)
  exact eG (eG (eG (fP (EZ (wide:=wide) (marked:=marked) G hn hc hp hb (ne Pp' (by nofun)) Ma (BS q0 rfl) (af 0x4200013c888205b0d4050416902e [_] [] q1) HT T T' (nja hs) (nja hd) (Nk (Ot l) hm) P') rfl)))
 unfold yN;lk;induction wide with
 |true=>lk;refine(aF (n:=n) G.toGood (jR hn rfl) LZ (o9 k0 rfl) (by decide) (by decide +kernel)).X3 λJ1 r r0 r1 Ma c1=>?_;refine ae (b8 LZ) λxj hj=>?_;have ne:∀{a:Ml}{cl:Cell},J a=Md cl->(∀xs,cl≠.list xs)->J1 a=Md cl:=λ{a cl} h hx=>c1.1 _ _ (λz=>by rw[z,hj] at h;cases h;exact hx _ rfl) h;obtain⟨q,rfl⟩:∃q:Nat,r=q:=⟨r.toNat,af L9 [_] [_] (MF r0)⟩;lk;rw[show(1:Int)+(q:Int)=((1+q:Nat):Int) from rfl];exact tail (1+q) _ J1 (af 0x1080004e0b8a4520a0467b1e [] [_] r1) (BS kk rfl) (ill k0 rfl) Ma (ne Pp (by nofun))
 |false=>lk;exact tail 1 _ J (Ms _ _) kk (o9 k0 rfl) LZ Pp
end
section
variable{wide:Bool}{lp:Nat}
theorem DN(G:cV Z Kg)(hn:14<=n)(hc:lc<=1)(hp:lp<=1)(LZ:nl J ja k)(kk:0<=k)(k0:k<=300)(HT:Z.kt 361=Md (bt [1,1,1,1])):X Z n (bV λu b=>u=.bool Mj) [] J [(Ki,.ref ja),(Ks,.bool wide),(27747,.int lc 0),(27760,.int lp 0)] [] B6:=by
 unfold B6;lk;refine(aF (n:=n) G.toGood (jR hn rfl) LZ (o9 k0 rfl) (by decide) (by decide +kernel)).X3 λJ1 r r0 r1 Ma c1=>?_;refine ae (b8 LZ) λxj hj=>?_;obtain⟨pb,rfl⟩:∃q:Nat,r=q:=⟨r.toNat,af L9 [_] [_] (MF r0)⟩;lk;refine(pm (n:=n) G.toGood (jR hn rfl) hc hp (af 0x840002745c5229041311 [] [_] r1)).Yc λJ2 p hpn S2 Pp=>?_;have LP:=Ma.sub S2;have fin:∀(mk:Bool)(k':Int)(J':Sg),0<=k'->k'<=400->nl J' ja k'->J' p=Md (yy lc lp pb)->
   X Z n (bV λu b=>u=.bool Mj) [] J' [(Ki,.ref ja),(Ks,.bool wide),(27747,.int lc 0),(27760,.int lp 0),(Jn,.ref p)] [.bool mk] (.st Js yN):=
  λmk k' J' q0 q1 LM Pp'=>eG (fP (DP (wide:=wide) (marked:=mk) G hn hc hp (af 0x840002745c5229041311 [] [_] r1) Pp' LM q0 q1 HT) rfl)
 lk;induction wide with
 |true=>lk;refine(aF (n:=n) G.toGood (jR hn rfl) LP (ill k0 rfl) (by decide) (by decide +kernel)).X3 λJ3 r r0 r1 Mb c3=>?_;refine ae (b8 LP) λxj hj=>?_;have ne:∀{a:Ml}{cl:Cell},J2 a=Md cl->(∀xs,cl≠.list xs)->J3 a=Md cl:=λ{a cl} h hx=>c3.1 _ _ (λz=>by rw[z,hj] at h;cases h;exact hx _ rfl) h;lk;exact iB .int rfl (tX (fin _ _ _ (af 0x42000138101711059cc0825 [_] [] kk) (af 0x1080004e5820816c808882ce6d830 [_] [] k0) Mb (ne Pp (by nofun))))
 |false=>exact iJ (tX (fin _ _ _ (BS kk rfl) (ill k0 rfl) LP Pp))
theorem BO(G:cV Z Kg)(hn:15<=n)(hl:l.length<=1000)(hs:Z.kl sc=Md (bt l))(HT:Z.kt 361=Md (bt [1,1,1,1])):ac Z n (.ref 1189) [.ref sc] J (λu b=>u=.bool Mj):=by
 have hll:(bt l).length=l.length:=by unfold bt;rw[Mu]
 refine run G.toGood (jR hn rfl) ?_;lk;refine(sd (n:=n-1) G.toGood (yq hn rfl) (c6 hl rfl) hs).Yc λJ1 ja hja S1 Ma=>?_;lk;refine qG (xs:=bt l) hs (λj ws J'=>J'=J1) rfl (ur hll hl rfl) ?_ ?_
 ·rintro j u ws J' Q' hu rfl hval hnext;obtain⟨i,rfl⟩:∃i,u=.int i 0:=by have:=MP hu;unfold bt at this;refine ae (NF.mp this) λi z1=>?_;obtain⟨_,rfl⟩:=z1;exact⟨i,rfl⟩
  lk;refine aH (λh=>?_) λh=>?_;·lk;exact hnext _ _ rfl
  ·lk;exact hval _ _ _ rfl
 rintro ws J' x rfl hx;have N1:=Wu hx (.list ws);have hx1:upd J' x (.list ws) x=_:=aa _ _ _;have S2:=S1.trans N1;have LP:=Ma.sub N1;generalize upd J' x (.list ws)=J2 at*;lk;intro y hy;have N2:=Wu hy (.list []);have hy1:upd J2 y (.list []) y=_:=aa _ _ _;have S3:=S2.trans N2;have Mb:=LP.sub N2;have hx2:=N2 _ _ hx1;generalize upd J2 y (.list [])=J3 at*;have hr:∃r,sM J3 (.ref x) (.ref y) r:=by
  induction ws with
  |nil=>exact⟨Mj,.same (.list hx2 hy1 rfl λp hp=>by cases hp)⟩
  |cons w ws=>exact⟨Mh,.odd hx2 hy1 (by simp)⟩
 refine ae hr λr hr=>?_;refine iB hr rfl ?_;generalize(if Mj=Mj then !r else r)=wide;lk;intro t ht;have N3:=Wu ht (.tup [.ref ja,.bool wide]);have ht1:upd J3 t (.tup [.ref ja,.bool wide]) t=_:=aa _ _ _;have S4:=S3.trans N3;have LB:=Mb.sub N3;generalize upd J3 t (.tup [.ref ja,.bool wide])=J4 at*;refine dO ?_ ht1 rfl;lk;intro t1 h1;have N5:=Wu h1 (.tup [.int 0 0,.int 0 0]);have e1:upd J4 t1 (.tup [.int 0 0,.int 0 0]) t1=_:=aa _ _ _;have S5:=S4.trans N5;have Ln:=LB.sub N5;generalize upd J4 t1 (.tup [.int 0 0,.int 0 0])=J5 at*;lk;intro t2 h2;have N6:=Wu h2 (.tup [.int 1 0,.int 0 0]);have e2:upd J5 t2 (.tup [.int 1 0,.int 0 0]) t2=_:=aa _ _ _;have S6:=S5.trans N6;have LU:=Ln.sub N6;have e1:=N6 _ _ e1;generalize upd J5 t2 (.tup [.int 1 0,.int 0 0])=J6 at*;lk;intro t3 h3;have N7:=Wu h3 (.tup [.int 0 0,.int 1 0]);have e3:upd J6 t3 (.tup [.int 0 0,.int 1 0]) t3=_:=aa _ _ _;have S7:=S6.trans N7;have LO:=LU.sub N7;have e1:=N7 _ _ e1;have e2:=N7 _ _ e2;generalize upd J6 t3 (.tup [.int 0 0,.int 1 0])=J7 at*;lk;intro t4 h4;have N8:=Wu h4 (.list [.ref t1,.ref t2,.ref t3]);have e4:upd J7 t4 (.list [.ref t1,.ref t2,.ref t3]) t4=_:=aa _ _ _;have S8:=S7.trans N8;have LJ:=LO.sub N8;have e1:=N8 _ _ e1;have e2:=N8 _ _ e2;have e3:=N8 _ _ e3;have n4:t4≠ja:=λz=>by refine ae (b8 LO) λxj hj=>?_;rw[z,hj] at h4;cases h4
 generalize upd J7 t4 (.list [.ref t1,.ref t2,.ref t3])=J8 at*;lk;refine(aF (n:=n-1) G.toGood (yq hn rfl) LJ (Mt _) (by decide) (by decide +kernel)).X3 λJ9 e p0 p1 LY c9=>?_;refine ae (b8 LJ) λxj hj=>?_;have ne:∀{a:Ml}{cl:Cell},J8 a=Md cl->(∀xs,cl≠.list xs)->J9 a=Md cl:=λ{a cl} h hx=>c9.1 _ _ (λz=>by rw[z,hj] at h;cases h;exact hx _ rfl) h;have e4:=c9.1 _ _ n4 e4;have e1:=ne e1 (by nofun);have e2:=ne e2 (by nofun);have e3:=ne e3 (by nofun);have fin:∀(lc lp:Nat)(u:Ml),lc<=1->lp<=1->J9 u=Md (.tup [.int lc 0,.int lp 0])->X Z (n-1) (bV λu b=>u=.bool Mj) [] J9 [(Kh,.ref sc),(Ki,.ref ja),(Ks,.bool wide)] [.ref u] (.unp 2 (.st 27747 (.st 27760 B6))):=
  by
  intro lc lp u q0 q1 hu
  refine AY ?_ hu rfl
  refine(?_:X _ _ _ _ _ _ _ _)
  exact eG (eG (fP (DN (wide:=wide) (lc:=lc) (lp:=lp) G (Ow hn) q0 q1 LY (Mt _) (Mt _) HT) rfl))
 lk;have he:e=0∨e=1∨e=2:=by lia
 rcases he with rfl|rfl|rfl;·refine av e4 (by decide) (by decide) rfl ?_;exact fin 0 0 t1 (by decide) (by decide) e1
 ·refine av e4 (by decide) (by decide) rfl ?_;exact fin 1 0 t2 (by decide) (by decide) e2
 ·refine av e4 (by decide) (by decide) rfl ?_;exact fin 0 1 t3 (by decide) (by decide) e3
end
variable{w:O7}{s:Mn}
theorem pK{t:RW Fin}{R:Pj->Mn->Prop}(hreg:s.asleep)(h:Wc.Wj (Mk prog w) UU t (λfin s'=>∃f,fin=.done f/\(R (.ok f) s'/\RV s'.gens=Mh)) (λe s'=>R (.error e) s'/\RV s'.gens=Mh) s):yt λn r s' s''=>runN (VK TB) prog w n s ⟨t,.builtin "claim.caller" {},UW,[]⟩=.halted (VL r) s'/\ schedN (VK TB) prog w n (.single s ⟨t,.builtin "claim.caller" {},UW,[]⟩)=.halted (VL r) s'/\s'.forget=s''.forget/\R r s'':=by
 have hw:Sem.wp (Mk prog w) ⟨.builtin "claim.caller" {},Mr,Mr,[],Mr⟩ t (Sem.finPost (Mk prog w) ⟨.builtin "claim.caller" {},Mr,Mr,[],Mr⟩ λr s'=>And (R r s') (RV s'.gens=Mh))
   (λe a s'=>And (R (.error e) s') (RV s'.gens=Mh)) UW s:=by
  refine RD (Mk prog w) _ t (λfin p' s' h'=>?_) (λa a a h'=>h'.and) UW s (h _ UW caller_in (by decide +kernel) λc hc=>by cases hc)
  refine ae h' λf z11=>?_
  rw[z11.1]
  exact z11.2.and
 refine ae (wp_halts_full (M:=Mk prog w) (R:=R) hreg hw) λn z7=>?_;refine ae z7 λr z8=>?_;refine ae z8 λs₁ z9=>?_;refine ae z9 λs₂ z10=>?_;exact⟨n,r,s₂,s₁,z10.2.1,z10.1,z10.2.2.1,z10.2.2.2⟩
theorem DQ{γ δ ε:Type}{P:α->β->Prop}{F:α->β->γ->δ->ε->Prop}{a:α}{b:β}{c:γ}{d:δ}{e:ε}(p:P a b)(h:F a b c d e):Exists λa=>Exists λb=>And (P a b) (Exists λc=>Exists λd=>Exists λe=>F a b c d e):=⟨a,b,p,c,d,e,h⟩
variable{tree:List Me->RW Fin}
theorem vi{c:ClaimW}{free:Ml->Prop}{gens:Prop}{kept:Oy->Prop}(hz:s.asleep)(hgens:s.gens=#[])(hspec:∀args,c.pre args=Mj->VM args=Mj->∀ord:List Ra->List Ra,(∀l,(ord l).Perm l)-> bM λvs s₁=>layAllW c.records (classAt s.heap) w.params ord args s=Md (vs,s₁)/\ Wc.Wj (Mk c.prog w) UU (tree vs) (λfin s'=>∃f,fin=.done f/\(c.Ends s args vs s₁ (.ok f) s'/\s'.os=s.os/\AllBare s'.gens/\kept s'.heap)) (λe s'=>c.Ends s args vs s₁ (.error e) s'/\s'.os=s.os/\AllBare s'.gens/\kept s'.heap) s₁):c.CallFrom (λvs=>⟨tree vs,.builtin "claim.caller" {},UW,[]⟩) w free gens kept s:=by
 intro args hpre hlay ord hord;refine bI (hspec args hpre hlay ord hord) λvs s₁ z6=>?_;have hal:=layAllW_rest _ _ _ z6.1;refine FV (pK (prog:=c.prog) (w:=w) (t:=tree vs) (s:=s₁)
  (R:=λr s'=>c.Ends s args vs s₁ r s'/\s'.os=s.os/\kept s'.heap) (Shared.asleep_of_life hal.2.2.2 hz)
  (Wc.Wn z6.2 (by
   intro fin s' r1;refine ae r1 λf z5=>?_;have e:=z5.1;exact⟨f,e,⟨z5.2.1,z5.2.2.1,z5.2.2.2.2⟩,RP z5.2.2.2.1⟩) (by
   intro e s' r2;exact⟨⟨r2.1,r2.2.1,r2.2.2.2⟩,RP r2.2.2.1⟩))) λk r s' s'' hrun hsched hfo hcase hos hkp=>?_
 have eh:=(VN hfo).1;have eo:=(VN hfo).2.2.2.1;have hcase:=hcase.congr eh;have hkp:kept s'.heap:=by first|exact eh▸hkp|(rw[eh] at hkp;exact hkp)|(rw[<-eh] at hkp;exact hkp)
 rw[<-eo] at hos;have hlife:s'.heap.life=s.heap.life:=(runN_life _ _ _ hrun).trans hal.2.2.2;refine DQ z6.1 (c:=k) (e:=s') ⟨hsched,?_,(λa i x hx=>by rw[hgens] at hx;simp at hx),hkp,congrArg (·.seen) hlife,Shared.rest_eq hos⟩;exact hcase.imp (Vk λv=>And.imp (congrArg VL) (PZ (PZ (PZ (And.imp_left λh b o y a=>h b o y)))))
  (Vk λe=>Vk λob=>Vk λcls=>And.imp (congrArg VL) (PZ (PZ (PZ (PZ λh b o y a=>h b o y)))))
variable{q:R9}{loose:List Np}
theorem uZ{r:RowW}{run:Me->List Me->RW Me}{defs kps:List Np}{writes:Bool}{Xt:Mn->Bool}{XP:(Np->Option Me)->Oy->Prop}{Yf:Mn->α}{Ya:O7->α}{YP:O7->Oy->Prop}(left:LeftO r.prog q loose Xt Yf Ya N)(hY:∀w s,Yf s=Ya w->YP w s.heap)(hYk:∀w h h',YP w h->(∀b o,h.get? b=Md o->h'.get? b=Md o)->YP w h')(hX:∀s,Xt s=Mj->XP (s.heap.nsMap Nz) s.heap)(hXk:∀mg h h',XP mg h->(∀b o,h.get? b=Md o->h'.get? b=Md o)->XP mg h')(hRf:∀s,Xt s=Mj->RecFacts r.records s.heap)(hwr:(!writes||r.records.isEmpty)=Mj)(ok:(chainsOk q&&opensWell r.prog&&(frees r&&r.within.isEmpty))=Mj)(hb:r.prog.bare)(hw:r.promised)(ht:∀vs (w:O7) (s:Mn) mg f (Q:Fin->Mn->Prop) (E:Me->Mn->Prop),s.heap.Ns Nz mg->mg r.name=Md f->Wc.Wj (Mk r.prog w) UU (run f vs) (λv s'=>Q (.done (.ret v)) s') E s->Wc.Wj (Mk r.prog w) UU (tree vs) Q E s)(pin:∀w s,s.heap.isNs Nz=Mj->Ground q loose [] XP w s (s.heap.nsMap Nz) (s.heap.nsMap Qd) s.heap->∀n∈defs,isTheDefsW r.prog s.heap n)(call:∀(w:O7)(s₀ s₁:Mn)(mg mb:Np->Option Me),Ground q loose r.records XP w s₀ mg mb s₁.heap->YP w s₁.heap->YP w s₀.heap->∀(args:List WData)(vs:List Me)(as:List Ml), r.claim.pre args=Mj->VM args=Mj->Laid r.records w s₀ s₁ args vs as->Ua<s₀.heap.objs.size->∃f,mg r.name=Md f/\ Wc.Wj (Mk r.prog w) UU (run f vs) (λv s'=>GoodWG r.claim (classAt s₀.heap) (ExcName.means s₀.heap) args s₁ (.ok (.ret v)) s') (λe s'=>GoodWG r.claim (classAt s₀.heap) (ExcName.means s₀.heap) args s₁ (.error e) s') s₁):r.claim.HoldsOpenBy (λvs=>⟨tree vs,.builtin "claim.caller" {},UW,[]⟩) defs kps writes:=by have q1:=MR.mp ok;have q2:=MR.mp q1.1;have hch:=q2.1;have o1:=q2.2;have q3:=MR.mp q1.2;have k6:=q3.2;have q4:=frees_parts q3.1;have hsame:=q4.1;have hu:=q4.2.1;have ha:=q4.2.2.1;have hap:=q4.2.2.2.1;have hm:=q4.2.2.2.2;refine⟨⟨hb,o1,by show r.makers.map _=[];rw[hm];rfl⟩,hw.witness,λw=>⟨(left.behind hX hch w).1,λs' hs'=>?_⟩⟩;refine ae ((left.behind (XP:=λmg h=>XP mg h/\RecFacts r.records h) (λs hs=>⟨hX s hs,hRf s hs⟩) hch w).2 s' hs') λs₀ z4=>?_;refine ae z4.2.2 λs z5=>?_;have hT:=z5.1;have hz:=z5.2.1;have hgens:=z5.2.2.1;have hg:=z5.2.2.2.1;have G00:=z5.2.2.2.2.1;have G0:Ground q loose [] XP w s (s.heap.nsMap Nz) (s.heap.nsMap Qd) s.heap:=⟨G00.T,G00.B,G00.D,G00.TE,G00.TD,G00.W,G00.X.1,G00.cls,G00.has,G00.apart,G00.once,G00.K⟩;have RF:=G00.X.2;have hT':=hT;refine⟨s₀,z4.1,z4.2.1,s,hT,pin w s hg G0,RF.1,RF.2.1,?_⟩;have hgens:s.gens=#[]:=Ru (beq_iff_eq.mp hgens);have G:Ground q loose r.records XP w s _ _ s.heap:=RF.ground G0;refine vi (c:=r.claim) hz hgens λargs hpre hlay ord hord=>?_;refine ae (NT.mp (layAllW_isSome (P:=w.params) (ord:=ord) G.has args r.args s (pre_splitW hpre).1)) λz3 hlaid=>?_;obtain⟨vs,s₁⟩:=z3;have keeps:=layAllW_keeps _ _ _ hlaid;have hal:=layAllW_rest _ _ _ hlaid;refine ae (reads_layAllW hord _ _ _ hlaid hlay s₁.heap (λa a e=>e)) λas z2=>?_;have L:Laid r.records w s s₁ args vs as:=⟨⟨ord,hord,hlaid⟩,z2.1,z2.2.1,z2.2.2,keeps,hal.1.trans hgens,hal.2.2.1⟩;have G₁:=G.keeps hXk keeps;refine ae (call w s s₁ _ _ G₁ (hYk _ _ _ (hY w s z5.2.2.2.2.2) keeps) (hY w s z5.2.2.2.2.2) args vs as hpre hlay L G.low) λf z1=>?_;have hi:=ident_freeW hu ha hap;have hwi:r.claim.within=[]:=Qn.mp k6;exact⟨vs,s₁,hlaid,ht vs w s₁ _ f _ _ G₁.T.g z1.1 (Wc.Wn z1.2 (λv s' g=>⟨_,rfl,have z:=g.laid (c:=r.claim) hsame hwi hi L;⟨z.1,z.2.1,z.2.2,λq=>⟨namesKept_of hT' hg kps keeps g.2.1.old,noTable hwr q⟩⟩⟩) λe s' g=>have z:=g.laid (c:=r.claim) hsame hwi hi L;⟨z.1,z.2.1,z.2.2,λq=>⟨namesKept_of hT' hg kps keeps g.2.1.old,noTable hwr q⟩⟩)⟩
noncomputable def FP(prog:R9)(w:O7)(s:Mn)(sc:Ml)(l:List Int):Sys:=⟨prog,w,λa=>s.heap.get? a,s.os,[],λa=>if a=sc then Md (bt l) else Mr,λa=>if a=361 then Md (bt [1,1,1,1]) else Mr⟩
theorem px{o:Option α}{p:α->Bool}{x:α}(h:o.all p=Mj)(e:o=Md x):p x=true:=by subst e;exact h
variable{P:Pk}
theorem xb{o:Option (O2×List OO)}(h:∀sc b,o=Md (sc,b)->AP b)(c:o.bind (BV P)=Md e7)(g:o.all (λx=>sB ⟨t8 P,x.1⟩ "BadArgument" (.ref 100))=Mj){sc:O2}{b:List OO}(e:o=Md (sc,b)):Ca ⟨t8 P,sc⟩ 100 b e7:=by
 have g:=px g e;have zqi:_:=h _ _ e;induction zqi with
 |mk=>
 rw[e] at c;refine ae (MQ.mp c) λz5 z6=>?_;have c1:=z5.1;have ok:=z5.2;have e1:=z6.2;exact GD (oY g) (e1▸ok)
section
variable{mg mb:Np->Option Me}
theorem Fe(h:AE (P [361])=Mj)(X:∀as,(P as).In s.heap)(e:(if a=361 then Md (bt [1,1,1,1]) else Mr)=Md xs):bM λys n=>s.heap.get? a=Md (⟨.type "tuple",Mr,.seq ys n,#[]⟩:P9)/\ys.toList.map er=xs:=by
 by_cases q:a=361;·subst q;rw[if_pos rfl] at e;obtain rfl:=MJ e;refine ae (Qx h) λo z1=>?_;refine ae (Qx z1.2) λv z2=>?_;have z3:=MR.mp z2.2;have e:=tG z2.1;rw[Ru (beq_iff_eq.mp z3.1)] at e;exact⟨v.1,v.2,X _ _ _ (e▸z1.1),beq_iff_eq.mp z3.2⟩
 ·rw[if_neg q] at e;cases e
theorem zy(F:ZE P){f:Ml}{ds:List Me}{c:T}(e:iW[i]?=Md (f,ns,ds,c)):dq (t8 P) (iA P f) f=Md c:=by have h:=congrArg (λl=>l[i]?) F.2;unfold Xc at h;simp only[MM,e,Pc] at h;exact MJ h
theorem zV(F:ZE P)(X:∀as,(P as).In s.heap)(hg:s.heap.Ns Nz mg)(hb:s.heap.Ns Qd mb)(hlim:s.heap.NoLimit)(hboot:∀x:Np,x≠"__name__"->mb x=Sk x)(hsc:bM λys n=>s.heap.get? sc=Md (⟨.type "list",Mr,.seq ys n,#[]⟩:P9)/\ys.toList.map er=bt l):cV (FP prog w s sc l) (t8 P):=by
 have hP:∀as,bG (P as) (FP prog w s sc l).base:=λas a o e=>X as a o e;have hF:∀f,bG (iA P f) (FP prog w s sc l).base:=λf=>by
  unfold iA;cases (P [f]).head?.bind λp=>aaa p.2.data with
  |some fd=>exact hP _
  |none=>intro a o e;cases e
 have lim:∀h':Oy,(∀a o,(FP prog w s sc l).base a=Md o->h'.get? a=Md o)->h'.NoLimit:=λh' k=>hlim.keeps k;have h:=F.4;have c3:=F.5;refine⟨⟨⟨hP _,⟨mg,mb,λh' k=>⟨hg.keeps k,hb.keeps k,hlim.keeps k⟩,hboot⟩,λC hC=>?_,?_,λa ha=>⟨P [a],hP _,NU.mp h.1 a (by simpa[Zh] using ha)⟩,λa xs e=>?_,λa xs e=>Fe h.2.2.2.2.2.2.2.2.2.2.2.2.2.2.2.2.2.1 X e⟩,lim,λi f ns ds c e=>⟨iA P f,hF f,NU.mp F.1 (f,ns,ds,c) (MP e),zy F e⟩⟩,
  ⟨lim,Dm P,39,36,hP _,Aj h.2.2.1,E9 h.2.2.2.1,DX h.2.2.2.2.1,AU h.2.2.2.2.2.1,h.2.2.2.2.2.2.1,⟨iA P 36,hF _,h.2.2.2.2.2.2.2.1,λsc b e=>?_⟩⟩,
  ⟨_,hF _,h.2.2.2.2.2.2.2.2.2.1,λsc b e=>xb F.6.2 (congrArg RC c3) h.2.2.2.2.2.2.2.2.2.2.2.2.2.1 e⟩,⟨_,hF _,h.2.2.2.2.2.2.2.2.2.2.1,λsc b e=>xb F.6.3 (congrArg (λx=>x.2.1) c3) h.2.2.2.2.2.2.2.2.2.2.2.2.2.2.1 e⟩,
  ⟨_,hF _,h.2.2.2.2.2.2.2.2.2.2.2.1,λsc b e=>?_⟩,⟨_,hF _,h.2.2.2.2.2.2.2.2.2.2.2.2.2.2.2.2.1,congrArg (λx=>x.2.2) c3⟩⟩
 ·unfold X9 at hC;refine ae (NT.mp hC) λv hv=>?_;exact⟨Hj P C,hP _,NU.mp F.3 (C,v) (Xi hv)⟩
 ·refine ae (NT.mp h.2.1) λo ho=>?_;exact⟨o,hP _ _ _ ho⟩
 ·have e:(if a=sc then Md (bt l) else Mr)=Md xs:=e;by_cases q:a=sc;·subst q;rw[if_pos rfl] at e;rw[<-MJ e];exact hsc
  ·rw[if_neg q] at e;cases e
 ·have z:=px h.2.2.2.2.2.2.2.2.1 e;obtain⟨c,c3⟩:=MR.mp z;obtain⟨c1,c2⟩:=MR.mp c;have zqi:_:=F.6.1 _ _ e;induction zqi with
  |mk el=>exact .mk (oY c1) (beq_iff_eq.mp c2) (beq_iff_eq.mp c3) el
 ·have z:=px h.2.2.2.2.2.2.2.2.2.2.2.2.1 e;obtain⟨z1,z2⟩:=MR.mp z;have c1:=odt z1;have c2:=odt z2;have z3:=px h.2.2.2.2.2.2.2.2.2.2.2.2.2.2.2.1 e;have c3:=oY z3;have zqi:_:=F.6.4 _ _ e;induction zqi with
  |mk=>exact .mk c1 c2 c1 c2 c3 c3
end
theorem xR{mg mb:Np->Option Me}(F:ZE P)(X:∀as,(P as).In s.heap)(hg:s.heap.Ns Nz mg)(hb:s.heap.Ns Qd mb)(hlim:s.heap.NoLimit)(hboot:∀x:Np,x≠"__name__"->mb x=Sk x)(hsc:bM λys n=>s.heap.get? sc=Md (⟨.type "list",Mr,.seq ys n,#[]⟩:P9)/\ys.toList.map er=bt l)(hl:l.length<=1000)(hgens:s.gens=#[]){Q:Me->Mn->Prop}{E:Me->Mn->Prop}(hQ:∀s',(∀a o,s.heap.get? a=Md o->s'.heap.get? a=Md o)->s'.gens=#[]->s'.os=s.os->Q (.bool Mj) s'):Wc.Wj (Mk prog w) UU (OH (.ref 1189) [.ref sc]) Q E s:=by
 have G:=zV (prog:=prog) (w:=w) (l:=l) F X hg hb hlim hboot hsc;have C:=BO (n:=15) (J:=λd=>Mr) G (MD _) hl (if_pos rfl:(if sc=sc then Md (bt l) else Mr)=Md (bt l)) (if_pos rfl:(if(361:Nat)=361 then Md (bt [1,1,1,1]) else Mr)=Md (bt [1,1,1,1]));have I:Inv ⟨λa=>s.heap.get? a,λd=>False⟩ (λd=>Mr) (λa=>if(s.heap.get? a).isSome then .W7 else .free) s.heap:=by
  refine⟨λa o e=>⟨.of e,?_⟩,λd z=>z.elim,λa c e=>(by cases e),λb hb=>?_⟩;·have e:s.heap.get? a=Md o:=e;show(if(s.heap.get? a).isSome=Mj then Own.W7 else .free)=_;rw[e];rfl
  ·cases q:s.heap.get? b with
   |some o=>exact⟨o,rfl⟩
   |none=>rw[q] at hb;exact absurd rfl hb
 refine Wc.WO (Wc.WR (C _ _ s UU [.ref sc] I (λa o e=>⟨e,λz=>z⟩) ?_ hgens rfl rfl) λr s' hR=>?_);·refine⟨by decide +kernel,by decide +kernel,rfl,[],rfl,λenv he=>by cases he⟩
 ·refine ga hR λv J' g' z4=>?_;rw[z4.1];have hg':=z4.2.2.1;have ho':=z4.2.2.2.1;have:=lu z4.2.2.2.2;rw[this];exact hQ s' (λa o e=>(z4.2.1.1 a o e).1.at λz=>z) hg' ho'
section
open PySem.Challenge
noncomputable def YP(h:Oy):Prop:=∃P:Pk,(∀as,(P as).In h)/\ZE P
theorem vU{p:R9}{lk:O7->P7->Bool}{d0 d1 d2 d3:Option (O2×List OO)}(hlk:∀w e,lk w e=(staticsOk (Qy p.main.body) (OP w.params) e.abs.heap&&namesBound p e.abs.heap&&gensDone e.abs&&laidKept (OP w.params) e.abs.heap))(H1:∀(w:O7)(os:O6),(jA (fW p w) (vx 11 ann) N (os0 w os) (RA p)).map (λe=>(lk w e,openSeen q loose (Qy p.main.body) (λa=>Mj) Mj e.abs,rT (aK e),aah (aK e)))=Md (Mj,openGood q loose,(Md e7,Md e7,Md bJ),d0,d1,d2,d3))(H2:∀(w:O7)(os:O6),(jA (fW p w) (vx 11 ann) N (os0 w os) (RA p)).map (λe=>(cU (aK e) (iW.take 60)&&ZH (aK e),Xc (aK e) (iW.take 60)))=Md (Mj,(iW.take 60).map λx=>Md x.2.2.2))(H3:∀(w:O7)(os:O6),(jA (fW p w) (vx 11 ann) N (os0 w os) (RA p)).map (λe=>(cU (aK e) (iW.drop 60)&&Z5 (aK e),Xc (aK e) (iW.drop 60)))=Md (Mj,(iW.drop 60).map λx=>Md x.2.2.2))(hd0:∀sc b,d0=Md (sc,b)->FA b)(hd1:∀sc b,d1=Md (sc,b)->AP b)(hd2:∀sc b,d2=Md (sc,b)->AP b)(hd3:∀sc b,d3=Md (sc,b)->Fw b)(Bf:∀w:O7,((OP w.params).isNs Nz=Mj/\(OP w.params).objs.size=11/\(OP w.params).nsMap Nz "__annotations__"=ann))(hb:∀w:O7,(fencedOpening Pw p w N).map (λs=>(s.heap,s.gens,s.drawn,s.toks))=Md (OP w.params,Wg [],Rt,So)):LeftO p q loose (λa=>Mj) (λs=>YP s.heap) (λa=>True) N:=by
 intro w;refine ae (MQ.mp (hb w)) λz9 z10=>?_;obtain⟨h,gs,d,k,os⟩:=z9;obtain⟨e,e'⟩:=z10;obtain⟨rfl,rfl,rfl,rfl⟩:And (h=OP w.params) (And (gs=Wg []) (And (d=Rt) (k=So))):=by simpa using e'
 refine ae (MQ.mp (H1 w os)) λen z8=>?_;obtain⟨he,hx⟩:=z8;refine ae (MQ.mp (H2 w os)) λen2 z7=>?_;obtain⟨he2,hx2⟩:=z7;refine ae (MQ.mp (H3 w os)) λen3 z6=>?_;obtain⟨he3,hx3⟩:=z6;obtain rfl:=MJ (he.symm.trans he2);obtain rfl:=MJ (he.symm.trans he3);clear he2 he3;rw[<-vM,<-BX] at he;have r:_:=uv N _ _ _ he;rw[As] at r;obtain z4:=Bf w;have x1:lk w en=true:=congrArg RC hx;have x2:openSeen q loose (Qy p.main.body) (λa=>Mj) Mj en.abs=openGood q loose:=congrArg (λx=>x.2.1) hx;have zq224:=MR.mp (congrArg RC hx2);have y1:=zq224.1;have y2:=zq224.2;have k1:=congrArg Vn hx2;have zq225:=MR.mp (congrArg RC hx3);have y3:=zq225.1;have y4:=zq225.2;have k2:=congrArg Vn hx3;have k3:=congrArg (λx=>x.2.2.1) hx;have z0:aM (iA (aK en) 36) 36=d0:=congrArg (λx=>x.2.2.2.1) hx;have z1:aM (iA (aK en) 149) 149=d1:=congrArg (λx=>x.2.2.2.2.1) hx;have z2:aM (iA (aK en) 156) 156=d2:=congrArg (λx=>x.2.2.2.2.2.1) hx;have z3:aM (iA (aK en) 1174) 1174=d3:=congrArg (λx=>x.2.2.2.2.2.2) hx;have x3:YP en.abs.heap:=⟨aK en,wE,oE y1 y3,oo k1 k2,y2,odt y4,k3,⟨λsc b e=>hd0 sc b (z0.symm.trans e),λsc b e=>hd1 sc b (z1.symm.trans e),λsc b e=>hd2 sc b (z2.symm.trans e),λsc b e=>hd3 sc b (z3.symm.trans e)⟩⟩;rw[hlk] at x1;generalize OP w.params=bh at*;have t:topFrom Pw p w N ⟨bh,Wg [],Rt,So,os⟩=Md en.abs:=by unfold topFrom;dsimp only;rw[z4.1,z4.2.1,z4.2.2];show(topRun Pw p w 11 ann N ⟨bh,#[],Rt,So,os⟩ (RA p)).bind _=_;rw[r,NI];show(match staticsOk (Qy p.main.body) bh en.abs.heap&&namesBound p en.abs.heap&&gensDone en.abs&&laidKept bh en.abs.heap with|true=>Md en.abs|false=>Mr)=_;rw[x1]
 unfold openEnds;rw[e];show(topFrom Pw p w N _).map _=_;rw[t];refine congrArg Md (We x2 ?_);exact propext ⟨λa=>trivial,λa=>x3⟩
end
theorem mY{R:WRecords}:∀{xs:List WData},VX R xs .int=Mj->∃ns:List Int,xs=ns.map .int
 |[],_=>⟨[],rfl⟩
 |x::xs,h=>by have h:And (WShape.has R x .int=Mj) (VX R xs .int=Mj):=MR.mp h;refine ae (hasW_int h.1) λi z9=>?_;rw[z9];refine ae (mY h.2) λns z8=>?_;rw[z8];exact⟨i::ns,rfl⟩
variable{l:OpenLaw}{args:List WData}
theorem xM(hm:l.most=Md n)(h:l.row.toRowW.claim.pre args=Mj):∃ns:List Int,args=[.list (ns.map .int)]/\ns.length<=n:=by
 obtain⟨h1,h2⟩:=pre_splitW h;refine ae (hasAllW_cons (show WShape.hasAll [] args [.list .int]=Mj from h1)) λd z6=>?_;refine ae z6 λr z7=>?_;obtain⟨rfl,h3,h4⟩:=z7;obtain rfl:=hasAllW_nil h4;refine ae (hasW_list h3) λxs z5=>?_;obtain⟨rfl,h5⟩:=z5;refine ae (mY h5) λns z4=>?_;obtain rfl:=z4;refine⟨ns,rfl,?_⟩;have h2:VO [] l.pre {args:=[.list (ns.map .int)]}=true:=h2;unfold OpenLaw.pre at h2;rw[hm] at h2;have e1:(WTm.not (.lt (.lit (.int (n:Int))) (.len (.arg 0)))).value [] {args:=[.list (ns.map .int)]}=Md (.bool (!M3 ((n:Int)<((ns.map WData.int).length:Int)))):=
  w_not (w_lt w_lit (w_len_list (w_arg rfl)))
 unfold VO at h2;rw[WTm.value,e1] at h2;by_cases q:(n:Int)<((ns.map WData.int).length:Int);·rw[decide_eq_true q] at h2;simp at h2
 ·rw[Mu] at q;exact af 0x2100009deb8e70c54130f [] [_,_] q
theorem qR{R:WRecords}{cl:Np->Option Ml}{P:Params}{ord:List Ra->List Ra}:∀(ns:List Int)(s:Mn),∃t,layAllW R cl P ord (ns.map .int) s=Md t/\t.1.map er=bt ns/\t.2.heap=s.heap
 |[],s=>⟨([],s),rfl,rfl,rfl⟩
 |n::ns,s=>by refine ae (qR (R:=R) (cl:=cl) (P:=P) (ord:=ord) ns {s with toks:=s.toks+1}) λt z3=>?_;refine⟨(.int n s.toks::t.1,t.2),by show(match layAllW R cl P ord (ns.map .int) {s with toks:=s.toks+1} with|some r=>Md (OD n s.toks::r.1,r.2)|Option.none=>Mr)=_;rw[z3.1],?_,z3.2.2⟩;show er _::t.1.map er=_;rw[z3.2.1];rfl
theorem qZ{R:WRecords}{ns:List Int}(L:Laid R w s₀ s₁ [.list (ns.map .int)] vs as):∃sc,vs=[.ref sc]/\bM λys n=>s₁.heap.get? sc=Md (⟨.type "list",Mr,.seq ys n,#[]⟩:P9)/\ys.toList.map er=bt ns:=by refine ae L.laid λord z2=>?_;obtain⟨_,e⟩:=z2;refine ae (qR (R:=R) (cl:=classAt s₀.heap) (P:=w.params) (ord:=ord) ns s₀) λt z1=>?_;simp only[layAllW,layW,z1.1] at e;simp only[Option.some.injEq,Prod.mk.injEq] at e;obtain⟨rfl,rfl⟩:=e;refine⟨_,rfl,t.1.toArray,_,MS _ rfl,by simpa using z1.2.1⟩
theorem vk{cl:Np->Option Ml}{mean:ExcName->Option Me}{s':Mn}(k:∀a o,s₁.heap.get? a=Md o->s'.heap.get? a=Md o)(hg:s'.gens=#[])(ho:s'.os=s₁.os):GoodWG l.row.toRowW.claim cl mean args s₁ (.ok (.ret (.bool Mj))) s':=by refine⟨.inl ⟨.bool Mj,.bool Mj,[],rfl,λb=>rfl,.bool Mj,?_,λb=>⟨UB,λa h=>by cases h⟩⟩,.of_keep k,ho,.of_eq hg⟩;show(WShape.has [] (.bool Mj) .bool&&VO [] (.eq .res (.lit (.bool Mj))) {args:=args,res:=Md (.bool Mj),after:=args})=Mj;refine MR.mpr (And.intro rfl ?_);unfold VO;rw[w_eq (w_res rfl) w_lit,show same (.bool Mj) (.bool Mj)=Mj by simp[same]]
theorem uk{d:DefRec}{kwd:List (Np×MY)}(ok:l.wellSaid=Mj)(left:LeftO l.prog q loose (λa=>Mj) (λs=>YP s.heap) (λa=>True) N)(hm:l.most=Md 63)(hname:l.name=("law":Np))(hdef:defOf q l.name=Md (d,kwd))(hp:l.prog.theDef l.name=Md (d.params,d.body,d.scope))(hk:kwWritten? d.params.kwonlyargs d.params.kw_defaults=Md kwd)(hok:(chainsOk q&&opensWell l.prog&&(frees l.row.toRowW&&l.row.within.isEmpty))=Mj)(hb:l.prog.bare)(hw:l.row.toRowW.promised):l.Holds:=by
 refine holds_law ok λk1=>⟨k1,hw,uZ (r:=l.row.toRowW) (run:=λf vs=>OH f vs) (tree:=λvs=>do match <-nsGet mainNs l.row.toRowW.name with
   |some f=>do ret (<-OH f vs)
   |none=>Uw "claim.caller:no-such-global") (XP:=λa a=>True) (YP:=λa h=>YP h) left (λw s e=>by rw[e];trivial) (λw h h' y k=>?_) (λa a=>trivial) (λa a a a a=>trivial)
  (λs a=>recFacts_of (by rfl)) (by show(!l.row.writes||true)=Mj;exact Q3 _) hok hb hw
  (λvs w s mg f Q E hg hf h=>Wc.Wi (Wc.of (PySem.wpAny_nsGet hg (by rw[hf];exact Wc.Wi (Wc.Wn h (λa a x=>Wc.wpAny_pure x) λa a x=>x)))))
  (λw s hg G n hn=>?_) λw s₀ s₁ mg mb G Y Y0 args vs as hpre hlay L low=>?_⟩
 ·refine ae y λP z4=>?_;exact⟨P,λas=>(z4.1 as).keeps k,z4.2⟩
 ·obtain rfl:n=l.row.toRowW.name:=by split at hn<;>simp_all
  exact pinned_of_view hg G hdef hp hk
 ·refine ae (xM hm hpre) λns z3=>?_;obtain rfl:=z3.1;refine ae (qZ L) λsc z2=>?_;rw[z2.1];refine ae Y λP z1=>?_;have e:=AU z1.2.4.2.2.2.2.2.2.2.2.2.2.2.2.2.2.2.2.2.2;have hf:=mg_of (z1.1 _) G.T.g e;refine⟨.ref 1189,by show mg l.name=_;rw[hname];exact hf,?_⟩;exact xR z1.2 z1.1 G.T.g G.T.b G.T.nolimit G.T.builtins z2.2 (c6 z3.2 rfl) L.gens λs' k g o=>vk k g o
section
open PySem.Challenge
theorem EI:∀w:O7,(fencedOpening Pw M7 w 9000).map (λs=>(s.heap,s.gens,s.drawn,s.toks))=Md (OP w.params,Wg [],Rt,So):=boot_open Iq (by decide) C8
theorem Ew:LeftO M7 qP sG (λa=>Mj) (λs=>YP s.heap) (λa=>True) 9000:=
 vU (lk:=ym) (λw e=>rfl) Bx Cd BZ GR Ee DE Bz HX EI
theorem abn:Oe.Holds:=by obtain⟨d,kwd,h1,h2,h3⟩:=Gf;exact uk (l:=Oe) DG Ew rfl rfl h1 h2 h3 Ie abh E2
end
end Internal
theorem PySem.Challenge.cw_tg0047_01_holds : PySem.Challenge.rw_tg0047_01.Holds := by
  exact Internal.abn
