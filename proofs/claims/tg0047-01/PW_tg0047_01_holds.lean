import PyProof.Rows.All
import KE.BytesMake
import KE.KxBytes
import KE.BytesMulAny
import PyProof.ZipIter
import Wide.All
import OpenK.KLine
import PyProof.NeKinds
import Wide.FinOn
import OpenK.AllK
import Open.Split
import Lean
import PySem.Challenge.RW_tg0047_01
set_option Elab.async false
set_option maxRecDepth 100000
set_option linter.all false
set_option compiler.extract_closed false
set_option bootstrap.genMatcherCode false
set_option genInjectivity false
set_option genSizeOf false
set_option backward.match.sparseCases false
set_option tactic.hygienic false
open And renaming imp_right→PX
open Array renaming length_toList→NB,getElem?_toList→Ol,getElem?_eq_some_iff→O3,getD_eq_getD_getElem?→P7,getElem?_eq_getElem→Qo,toList_inj→Q8,eq_empty_of_size_eq_zero→Rt,mem_toList_iff→RG,toArray_toList→RM,getElem?_setIfInBounds→RQ,replicate→Uh,mk→Wf
open Bool renaming false→Mg,true→Mh,and_eq_true_iff→MQ,and_eq_true→Oe,false_ne_true→O2,or_eq_false_iff→Qa,false_eq_true→QH,or_true→Q0,noConfusion→Tz,not_eq_true→TB
open Classical renaming byContradiction→O7,em→Se
open Decidable renaming decide→M0
open Exists renaming imp→Vj
open ForInStep renaming yield→QA
open Iff renaming rfl→Pl
open Inhabited renaming default→UU
open Int renaming natCast_nonneg→Ms,toNat_of_nonneg→ME,toNat_natCast→MN,eq_ofNat_of_zero_le→MW,self_le_toNat→Nh,emod_lt_of_pos→Ni,mul_assoc→Nk,le_of_lt→Nl,mul_le_mul_of_nonneg_left→Nr,emod_nonneg→Nv,pow_succ→NL,pow_pos→NU,mul_comm→NX,pow_zero→N9,ediv_nonneg→Oa,lt_of_le_of_lt→Ot,sub_nonneg_of_le→OM,le_trans→OU,ediv_one→OY,toNat→Pa,mul_le_mul_of_nonneg_right→Pw,one_mul→Py,add_zero→PE,lt_of_lt_of_le→PI,le_refl→QL,not_lt→Q6,mul_one→RA,zero_add→R9,ofNat_lt→Sb,not_le→So,add_mul→SY,pow_add→Ti,emod_eq_of_lt→Tj,add_assoc→Tn,sub_zero→Uc,ediv_eq_zero_of_lt→Ud,natCast_add→Ui,add_nonneg→Ur,natAbs_of_nonneg→Us,sub_nonpos_of_le→UH,toNat_of_nonpos→UZ,sub_eq_add_neg→Va,sub_add_cancel→Vf,zero_mul→Vk,ofNat_le→Vl,neg_mul→VO
open List renaming length_map→Mt,getD_eq_getElem?_getD→Mw,getElem?_eq_getElem→MG,length_append→MH,getElem?_eq_some_iff→MK,getElem?_map→ML,mem_singleton→MM,mem_of_getElem?→MO,mem_cons→MS,mem_cons_self→MT,mem_cons_of_mem→MU,length_cons→MV,getElem?_append_right→MY,getElem?_eq_none→MZ,getElem?_append_left→M7,replicate→M8,length_singleton→Ng,map_cons→Nm,getElem?_range→Nu,mem_map_of_mem→NA,mem_map→ND,append_nil→NF,append_assoc→NI,length_range→NJ,all_eq_true→NT,length_replicate→NW,map_append→Oc,drop_eq_getElem_cons→Og,range→Oh,size_toArray→Oi,mem_append→Oo,lookup_cons→Ow,nodup_cons→OE,zip_cons_cons→OH,length_take→OI,contains_cons→OJ,map_map→OX,length_nil→Pc,length_drop→Pn,eq_nil_of_length_eq_zero→PB,lookup_append→PH,take_of_length_le→PJ,foldl_cons→PM,find?_cons→PQ,any_cons→PW,reverse_cons→P4,getElem?_of_mem→Qf,isEmpty_iff→Qm,getElem?_zip_eq_some→Qn,getElem?_eq_none_iff→Qq,map_congr_left→Qs,getElem?_drop→QD,getElem?_take→QK,getElem?_cons_succ→QN,getElem?_replicate→QP,drop_eq_nil_of_le→QV,map_fst_zip→Rf,all_cons→Ru,map_take→Rw,mem_of_mem_take→RN,take_succ_cons→R7,mapM_cons→SP,mem_filterMap→SQ,drop_zero→SU,ext_getElem?→Tg,foldl_append→Th,map_drop→Tw,head_eq_of_cons_eq→TF,any_eq_true→TG,not_mem_nil→TM,drop_length→TS,getElem_mem→TV,of_mem_zip→Uj,take_append_drop→Uo,mem_append_right→Up,nodup_nil→UA,map_eq_cons_iff→UG,forall_mem_cons→UL,replicate_succ→UX,map_eq_nil_iff→UY,length_pos_iff→U3,find?_eq_none→Vg,any_eq_false→Vq,nodup_append→Vs,getElem?_set→Vx,take_add_one→Vz,length→VP,foldl→V6
open List.cons renaming inj→Wg
open Nat renaming sub_add_cancel→Me,le_add_left→Mr,le_refl→MC,le_of_ble_eq_true→MF,lt_succ_self→M9,zero_le→Nb,ne_of_lt→Nd,le_trans→Nj,le_of_lt→Np,sub_self→Nq,lt_succ_of_lt→NY,le_add_right→Of,zero_add→Om,le_of_eq→Oq,le_sub_of_add_le→Ov,min_le_left→OR,pow_le_pow_right→Pg,ne_of_beq_eq_false→PC,ble→PD,not_lt→PF,beq→P2,le_succ→Qe,ne_of_gt→Qh,add_le_add_left→Qr,not_lt_zero→Qy,lt_of_le_of_ne→QI,mul_comm→QS,lt_trans→QZ,eq_of_beq_eq_true→Q5,le_of_not_lt→Rd,succ_le_succ→Rg,lt_irrefl→Ry,two_pow_add_eq_or_of_lt→Sm,lt_of_le_of_lt→Sq,one_le_two_pow→SR,lt_or_gt_of_ne→SS,add_mul_mod_self_left→SV,min_le_right→TU,pow_succ→TY,le_antisymm→Ug,sub_le_iff_le_add→Uk,sub_eq_zero_of_le→Ul,sub_min_sub_right→Un,add_mul_div_left→Uq,mul_le_mul_right→Ut,log2_lt→UK,mul_le_mul_left→U2,add_assoc→U5,add_sub_cancel→Vh,sub_zero→Vt,add_zero→VA,blt→VX,sub_le→V8
open Nat.succ renaming inj→Sf
open Ne renaming symm→Qi
open Option renaming some→Mc,none→Mq,bind_eq_some_iff→My,map_eq_some_iff→MP,bind_some→NH,isSome_iff_exists→NS,isNone_iff_eq_none→O9,map_some→Pb,eq_none_iff_forall_ne_some→QQ,map_eq_none_iff→TZ,bind_eq_bind→U4,noConfusion→U9,pure_def→VV
open Option.some renaming inj→MI
open Or renaming elim→Pj
open Prod renaming fst→RB,snd→Vm,ext→Wd
open Prod.mk renaming inj→VU
open Pure renaming pure→NN
open PyProof.Rows renaming call_isinstance_yes→RZ,subscriptTail→To,tail_any→TP
open PySem renaming Value→Md,wpAny_bind→Mf,model→Mj,Addr→Mk,Shared→Ml,wpAny→Mx,wpAny_pure→Mz,Expr→MX,builtinLookup_eq_fast→Na,Str→Nn,wpAny_of_eq→Nt,mainGlobals→Nw,typeLookup_type→NG,sizeLine_eq→NK,wpAny_mono→NM,isSubtype_type→NO,checkBuiltinCall→NP,eval→NV,wpAny_loadPart_at→NZ,bm_if_false→Oj,Heap→Ox,wpAny_holding→Oy,behindInMarks→Oz,wpAny_specialOf→OF,call→OG,starEach→OL,Stmt→ON,wpAny_callSpecial?_slot→OP,letOwnedTupleGo→OQ,standAt→OV,swapsWithSole→OZ,swappedStores→O0,Scope→O1,recursionLimit→O4,OsState→O5,World→O6,Around→O8,wpAny_newObj_type→Pd,excClassObj→Pe,Result→Ph,holding→Pm,wpAny_call_entry→Po,codeAny_call_builtin→Pr,callEnvC→Pt,treeTable→Pu,wpAny_rule→Px,exec→PZ,wpAny_pyIter_list→P5,Obj→P8,entryFor→P9,execs→Qb,builtinsNs→Qc,typeLookup→Qd,wpAny_execs_nil→Qg,compareOp→Qj,entryFor_of_tree→Qk,wpAny_isInstance→Ql,wpAny_isSubtype_exc→Qt,wpAny_execs_cons→Qu,Pos→Qv,importedModules→Qx,spliced→Qz,isTrue→QB,pyNext→QC,wpAny_load→QF,wpAny_setField_rec→QJ,markedBehindIn_of_false→QM,isSubtype→QO,wpAny_standAt→QR,callWith→QT,foldedSetIterable→QU,getMethod_builtin→QW,wpAny_pyNext_list_item→QY,call_isinstance→Q3,wpAny_pyNext_list_end→Q4,DictEntry→Q9,backTo→Ra,assign→Rb,noteFrame→Rc,getMethod→Rh,isInstance→Rk,assignInOrder→Rv,methodCallPos→Rx,Operator→RE,NameKind→RL,leftWithCleanup_false_of_bare→RO,theTreesLotGoes→RP,Thread→RR,leftWithCleanup→RU,Sem→RV,Model→RW,any_of_findIdx_some→RX,Program→R8,intKind→Sd,getAttr→Sh,callSpecial?→Si,bootBuiltins→Sj,callEnv→Sk,letTemporaryGo→Sr,FuncData→Ss,sizeLine→Sv,intKind_is→Sw,argsOk→Sy,wpAny_Constant_int→SH,wpAny_Constant_str→SJ,assignEach→SK,wpAny_seqItems→SO,interactive→Ta,wpAny_sequenceKey→Tc,slot_list_getitem→Td,wpAny_field→Te,wpAny_release→Tp,pyIter→Tq,table→TA,wpAny_lookBehind→TC,slot_list_append→TQ,Flow→T7,sysModules→T8,stored→Ua,Tok→Ue,wpAny_ite_false→Um,bindName→Uu,unsupported→Uv,BoolOp→Uw,newTuple→Ux,wpAny_mkInt→UC,wpAny_letGo→UD,compTurn→UI,swapsWith→UM,inplaceOp→UN,leaving→UO,setItem→UQ,evalPairs→UR,cellsFrom→US,callerA→UT,Code→UW,wpAt_of_wpAny→U1,wpAny_point→U6,CmpOp→U7,ExceptHandler→U8,typeIs_int→Vb,call_meets→Vc,typeOf→Vd,wpAny_Name→Ve,evalArgs→Vo,setAttr→Vp,wpAny_typeOf→Vr,Env→VC,storeName→VD,Arguments→VE,seqIndex?→VH,denote→VJ,outcomeOf→VK,codeAny→VQ,again→VR,allTrue→VY,BindsTo→VZ,strKind→V0,cLine→Wa,rawInt→Wb
open PySem.Around renaming under_plainId→RD
open PySem.AutoListH renaming list_append_list_val_0→QX
open PySem.Builtin renaming bitOr→Ob,bitAnd→OA,bitNot→We
open PySem.Builtin.Bytes renaming buffer?→P0,checkResize→Qp,takeBufferQuiet?→Rl,write→RY,bindOptional→Sz,fullReadOnly→SA,takeBuffer?→SW,subscript?→Tt,ownRelease→Tv,exportsOf→TH,byteValue→TK,slotIsOwn→TL,exported→Ub
open PySem.Builtin.Bytes.exported renaming match_1→VG
open PySem.Builtin.Int renaming intBits→OT
open PySem.Builtin.Range renaming rangeSize→Nc,small→U0
open PySem.Calls renaming spliced_cons→Vw
open PySem.Challenge renaming pw_tg0047_01→M4,rw_tg0047_01→Od
open PySem.Code renaming quiet_builtin→QG,compLoop→Ts,builtin→Vn
open PySem.DictEntry renaming refKey→VF
open PySem.Env renaming kindOf→SD
open PySem.F renaming excBase_ValueError→M3,store_ValueError→OK,bm_called→RK,slot_range_iterator_iter→SN,args_object_init_2→UE
open PySem.Heap renaming get?_push_of_some→MD,get?_push_size→MR,get?_update_self→Nf,lt_size→Nz,SameBut→NC,size_push→OB,get?_update_ne→OS,get?_none_of_le→UJ,get?_push_at→Vv,IsList→VT
open PySem.Heap.IsList renaming push→TR
open PySem.Heap.SameBut renaming update→OD
open PySem.NameKind renaming free→Tr
open PySem.Obj renaming putNameByArray→QE,putName→RI,putName_eq→Su,mapBytearray→TJ,mapSeq→V9
open PySem.Sem renaming wp_mono→RC
open PySem.SeqAt.EqAt renaming same→VI
open PySem.Shared renaming forget_eq→VM,heap→VS
open PySem.Str renaming ofString→OW
open PySem.Value renaming ref→MJ,int→OC,str→Q7,type→TX
open PySem.W renaming findIn→Ou,boot_heap→OO,looks_findIn→PG,Frag→PO,SharedT→P6,any_some→Qw,emptyDict→Ro,boot_drawn→Rq,topStub→Rz,instObj→Sl,boot_toks→Sn,typeIs_bytes→SX,plainGet_of→Tb,InstAt→Uy,specialIn→UP,look_both→VB,hideAll→V5,Looks→V7
open PySem.W.KBy renaming special_eq→UB
open PySem.W.WData renaming layableAll→VL
open PySem.W.WShape renaming hasItems→VW
open PySem.W.WTm renaming holds→VN
open PySem.callAny renaming viaDunder→Vu
open Subtype renaming val→Uz
open UInt8 renaming ofNat→Pz,toNat_ofNat'→Vi,ofNat_toNat→Vy
namespace Internal
noncomputable abbrev Ku:Nat:=0x84908a10c200034d415109685a275216094142313fa041318
noncomputable abbrev Kv:Nat:=0x21242384200530961142000298b5215a748a28d0ae09bb4b228472168fd4150f
noncomputable abbrev Kw:Nat:=0x1080004ea0a07d4130f
noncomputable abbrev Kx:Nat:=0x2100009c210013a28468d1c8a11c151c
noncomputable abbrev Ky:Nat:=0x847084007a11c20001e800000000000000010526fa1200910124fa1200cd027c88678408f28
noncomputable abbrev Kz:Nat:=0x109325164a1c9400081ac822413219685a275216094142313fa041318
noncomputable abbrev KA:Nat:=0x2100009d4140fa88267b1c
noncomputable abbrev KB:Nat:=0x2124238420053096114200029d50944a505443521689d4150f
noncomputable abbrev KC:Nat:=0x422842003d2828212a128954140f
noncomputable abbrev KD:Nat:=0x210c20001e981008c080b982c0818
noncomputable abbrev KG:Nat:=0x863080007a6ac11423826e3369ab04141c
noncomputable abbrev KH:Nat:=0x843080003f2040760401d30830f702029
noncomputable abbrev KI:Nat:=0x4200013a01988d0230f
noncomputable abbrev KJ:Nat:=0x420001390c4134210c841413
noncomputable abbrev KK:Nat:=0x10ce10c2000299508e342b826ed38e104a8469328e1041318
noncomputable abbrev KL:Nat:=0x845080007a5504cfa3b2a120950230f
noncomputable abbrev KM:Nat:=0x861084007af0507c080b
noncomputable abbrev KN:Nat:=0x849086100014c000000000000000082936a0a87fa1200a11926e290f
noncomputable abbrev KO:Nat:=0x845080007aa2099f472a01989d0230f
noncomputable abbrev KP:Nat:=0x28c5461840005b50503e0a1189fd04102df408bd03482de75841
noncomputable abbrev KQ:Nat:=0x42000139ab04508e09b8cda6ac15104cf6e336
noncomputable abbrev KR:Nat:=0x108a10800f484141390a128ad4140f
noncomputable abbrev KS:Nat:=0x2114218400053282a215216094142313c41310
noncomputable abbrev KT:Nat:=0x2108009c20001388af8ab9ab7151ad4150f
noncomputable abbrev KU:Nat:=0x108610000f464422578c16781dbcc16711c
noncomputable abbrev KV:Nat:=0x108e10800f423840003d000000000000000020a4df424009104810773cc88678408f28
noncomputable abbrev KW:Nat:=0x2108009c200013d48571423826e538d48575104cf6e538
noncomputable abbrev KX:Nat:=0x8420027080004e242b8a11c13729bc48575104cf6e537
noncomputable abbrev KY:Nat:=0x84908a100014ca2099f476a242b4a8fd40331380c0c
noncomputable abbrev KZ:Nat:=0x4012180240005d0000001049340000004884a600000000100122480083167c066
noncomputable abbrev K0:Nat:=0x843080007aa504d0a3b28118954140f
noncomputable abbrev K1:Nat:=0x4210013fc2208fc1012e6700020819
noncomputable abbrev K2:Nat:=0x4200013860002786a0104c7f0d402e28b8107f3a
noncomputable abbrev K3:Nat:=0x108e10000f424842003d2d508d2a41af2e45b8a89efaf2e456413d4150f
noncomputable abbrev K4:Nat:=0x210c20001e8c000000380aa7fffffffc4723059e1227fffffffc472093a
noncomputable abbrev K5:Nat:=0x845080007af04571ea963463f142315f041314
noncomputable abbrev K6:Nat:=0x1080004ff08823f0404b99c080b
noncomputable abbrev K7:Nat:=0x108a10000f404118101dca60a0a
noncomputable abbrev K8:Nat:=0x2108009ff88220417ca60020916
noncomputable abbrev K9:Nat:=0x210c20001ebc141f8100750230f
noncomputable abbrev La:Nat:=0x84708a100014de20d390e411069c7104150b
noncomputable abbrev Lb:Nat:=0x518a8c308000b6a0a07c142313fa08205be81117a06905bceb7c04e
noncomputable abbrev Lc:Nat:=0x421001384000275053094508e0a0e54150f
noncomputable abbrev Ld:Nat:=0x423842003d08a10000f4a2099f476bc112e4556c88d20a11c151e
noncomputable abbrev Le:Nat:=0x86708a100014ea42ba12904a098854130f
noncomputable abbrev Lf:Nat:=0x80245086100018c8101d1810094080b8c004c08d1905e0c0848
noncomputable abbrev Lh:Nat:=0x1080004e108009c508fc61ddc546578a11f8c3b901954150f
noncomputable abbrev Lj:Nat:=0x8200005a81187d00790231f
noncomputable abbrev Lk:Nat:=0x843080007aa0987ff0a118c40041417
noncomputable abbrev Ln:Nat:=0x211421840005328a09a347f5424c2b168572159154130f
noncomputable abbrev Lo:Nat:=0x108610000f4fa1200cd027f424010410fa12004c1a702f
noncomputable abbrev Lq:Nat:=0x2100009f083104d064dc2088267b25
noncomputable abbrev Lr:Nat:=0x211420001e950930aca0a8854130f
noncomputable abbrev Lu:Nat:=0x2180009c45f117314082f
noncomputable abbrev Lv:Nat:=0x8200005a0405e00f0081b
noncomputable abbrev Lw:Nat:=0x84908a100014ca2099f476a242b4a8fd403313a02b10
noncomputable abbrev Ly:Nat:=0x108a10000f6b8e846a1207de090f
noncomputable abbrev LB:Nat:=0x432840003d51215c13759554140f
noncomputable abbrev LJ:Nat:=0x43000138827e30ec082c
noncomputable abbrev LP:Nat:=0x2100009d0158850230f
noncomputable abbrev LZ:Nat:=0x8400027084004f71507de0a0f
noncomputable abbrev Mn:Nat:=0x1080004ea1187d7b8b4081f
noncomputable abbrev Mo:Nat:=0x2100009c413803b1fb02b10
noncomputable abbrev Mu:Nat:=0x2100009c413803b1f80c0c
noncomputable abbrev IB:Nat:=478409942388
noncomputable abbrev IC:Nat:=7811903007710342259
noncomputable abbrev ID:Nat:=8101821151424638830
noncomputable abbrev IF:Nat:=491328333172
noncomputable abbrev IG:Nat:=1667591276
noncomputable abbrev II:Nat:=545072425038954818007668
noncomputable abbrev IJ:Nat:=9146023581206380571204396348020
noncomputable abbrev IK:Nat:=8589278192035828674408812212852
noncomputable abbrev IL:Nat:=439855772532
noncomputable abbrev IM:Nat:=516904535068771937772392
noncomputable abbrev IN:Nat:=135954355373633446092104044
noncomputable abbrev IO:Nat:=2074498830791665084782
noncomputable abbrev IP:Nat:=531071700667243336131685
noncomputable abbrev IQ:Nat:=531071700678238368396392
noncomputable abbrev IR:Nat:=34804314975073700411903730533
noncomputable abbrev IS:Nat:=2074498830778596877160
noncomputable abbrev IT:Nat:=469440048988838611215211
noncomputable abbrev IU:Nat:=30765223050532538237080532072
noncomputable abbrev IV:Nat:=8666030464842607823535046157684
noncomputable abbrev IW:Nat:=24948
noncomputable abbrev IX:Nat:=122472945251443
noncomputable abbrev IY:Nat:=1718185068
noncomputable abbrev IZ:Nat:=6449524
noncomputable abbrev I4:Nat:=1953654117
noncomputable abbrev I5:Nat:=32199706527560549
noncomputable abbrev I6:Nat:=495672977012
noncomputable abbrev I7:Nat:=1936292453
noncomputable abbrev I8:Nat:=427071729268
noncomputable abbrev I9:Nat:=119182682386036
noncomputable abbrev LC:Nat:=109300196926309
noncomputable abbrev Lg:Nat:=1751738216
noncomputable abbrev LO:Nat:=7106423
noncomputable abbrev LY:Nat:=2074066214764707540595
noncomputable abbrev Mb:Nat:=418430674798
noncomputable abbrev LL:Nat:=7598521919695250280
noncomputable abbrev LT:Nat:=115944243488112
noncomputable abbrev Jh:Nat:=29681726332956720
noncomputable abbrev Ji:Nat:=32635403235551006971998989927
noncomputable abbrev Jj:Nat:=29681726332956721
noncomputable abbrev Jk:Nat:=29681726332956722
noncomputable abbrev Jl:Nat:=30510822341240947
noncomputable abbrev Jm:Nat:=482956243059
noncomputable abbrev Jn:Nat:=138296575362156071497263219
noncomputable abbrev Jo:Nat:=495740482675
noncomputable abbrev Jp:Nat:=32493203083583852
noncomputable abbrev Jq:Nat:=7499639
noncomputable abbrev Jr:Nat:=120265298896228
noncomputable abbrev Js:Nat:=120325193165939
noncomputable abbrev Jt:Nat:=1836020596
noncomputable abbrev Ju:Nat:=482854658917
noncomputable abbrev Jv:Nat:=1919250547
noncomputable abbrev Jw:Nat:=495873782885
noncomputable abbrev Jx:Nat:=131294707347319
noncomputable abbrev Jy:Nat:=131333279212914
noncomputable abbrev Jz:Nat:=1919512167
noncomputable abbrev JA:Nat:=1936748404
noncomputable abbrev JB:Nat:=1668244581
noncomputable abbrev JC:Nat:=1684108385
noncomputable abbrev JD:Nat:=1936744814
noncomputable abbrev JE:Nat:=495873782388
noncomputable abbrev JF:Nat:=426835667045
noncomputable abbrev JG:Nat:=109317377451364
noncomputable abbrev JH:Nat:=1751477348
noncomputable abbrev JI:Nat:=1835099237
noncomputable abbrev JJ:Nat:=107135549927012
noncomputable abbrev JK:Nat:=464737208989178820785256
noncomputable abbrev JL:Nat:=1936026726
noncomputable abbrev JM:Nat:=452823639416
noncomputable abbrev JN:Nat:=470020285804
noncomputable abbrev JO:Nat:=121450625394034
noncomputable abbrev JP:Nat:=119182899770472
noncomputable abbrev JQ:Nat:=1936486260
noncomputable abbrev JR:Nat:=435812594273
noncomputable abbrev JS:Nat:=7235441220035437413
noncomputable abbrev JT:Nat:=1650553701
noncomputable abbrev JU:Nat:=108187649798757
noncomputable abbrev JV:Nat:=125779751232882
noncomputable abbrev JW:Nat:=439956631140
noncomputable abbrev JX:Nat:=1919251316
noncomputable abbrev JY:Nat:=6583653
noncomputable abbrev JZ:Nat:=1937007984
noncomputable abbrev L9:Nat:=30787924973348196
noncomputable abbrev Ka:Nat:=1852793957
noncomputable abbrev Kb:Nat:=495874044019
noncomputable abbrev Kc:Nat:=508440638821
noncomputable abbrev Kd:Nat:=422776761956
noncomputable abbrev Ke:Nat:=126870958469236
noncomputable abbrev Kh:Nat:=6971762
noncomputable abbrev Ki:Nat:=512853240933
noncomputable abbrev Kj:Nat:=1650549611
noncomputable abbrev Kk:Nat:=1802071652
noncomputable abbrev Kl:Nat:=1885434484
noncomputable abbrev Km:Nat:=1952807028
noncomputable abbrev Kn:Nat:=31632277023061107
noncomputable abbrev Ko:Nat:=422608071022
noncomputable abbrev Kq:Nat:=482854660462
noncomputable abbrev Kr:Nat:=2003395685
noncomputable abbrev Ks:Nat:=461330343027
inductive An(a b:Prop):Prop where
 |intro(x:a)(y:b)
inductive bM{α:Sort u}{β:Sort v}(P:α->β->Prop):Prop where
 |intro(x:α)(y:β)(h:P x y)
inductive oz{α:Sort u}{β:Sort v}{γ:Sort w}(P:α->β->γ->Prop):Prop where
 |intro(x:α)(y:β)(z:γ)(h:P x y z)
inductive yq{α:Sort u}{β:Sort v}{γ:Sort w}{δ:Sort x}(P:α->β->γ->δ->Prop):Prop where
 |intro(x:α)(y:β)(z:γ)(w:δ)(h:P x y z w)
theorem ae{α:Sort u}{P:α->Prop}{G:Prop}(h:∃x,P x)(q:∀x,P x->G):G:=h.elim q
theorem bI{α:Sort u}{β:Sort v}{P:α->β->Prop}{G:Prop}(h:bM P)(q:∀x y,P x y->G):G:=h.rec q
theorem ga{α:Sort u}{β:Sort v}{γ:Sort w}{P:α->β->γ->Prop}{G:Prop}(h:oz P)(q:∀x y z,P x y z->G):G:=h.rec q
theorem vx{α:Sort u}{β:Sort v}{γ:Sort w}{δ:Sort x}{P:α->β->γ->δ->Prop}{G:Prop}(h:yq P)(q:∀x y z w,P x y z w->G):G:=h.rec q
theorem an{a b:Prop}(h:a/\b):An a b:=⟨h.1,h.2⟩
theorem An.and{a b:Prop}(h:An a b):a/\b:=⟨h.1,h.2⟩
theorem An.imp{a b c d:Prop}(h:An a b)(f:a->c)(g:b->d):An c d:=⟨f h.1,g h.2⟩
@[elab_as_elim]theorem rwl{α:Sort u}{a:α}{P:α->Prop}{b:α}(h:a=b)(x:P b):P a:=h▸x
@[elab_as_elim]theorem rwr{α:Sort u}{a:α}{P:α->Prop}{b:α}(h:b=a)(x:P b):P a:=h▸x
variable{P:Prop}
theorem cft(h:Mg=Mh):P:=Tz h
theorem ctf(h:Mh=Mg):P:=Tz h
theorem cns{α:Type u}{x:α}(h:Mq=Mc x):P:=U9 rfl (heq_of_eq h)
theorem csn{α:Type u}{x:α}(h:Mc x=Mq):P:=U9 rfl (heq_of_eq h)
theorem cnc{α:Type u}{x:α}{l:List α}(h:[]=x::l):P:=List.noConfusion rfl (heq_of_eq h)
theorem ccn{α:Type u}{x:α}{l:List α}(h:x::l=[]):P:=List.noConfusion rfl (heq_of_eq h)
theorem cvv{a b:Md}(h:a=b)(q:P2 a.ctorIdx b.ctorIdx=Mg):P:=absurd (congrArg PySem.Value.ctorIdx h) (PC q)
theorem An.cg{a b c d:Prop}(h:a↔c)(k:b↔d):An a b↔An c d:=⟨λz=>⟨h.mp z.1,k.mp z.2⟩,λz=>⟨h.mpr z.1,k.mpr z.2⟩⟩
theorem qG{a b c:Prop}:An (An a b) c↔An a (An b c):=⟨λz=>⟨z.1.1,z.1.2,z.2⟩,λz=>⟨⟨z.1,z.2.1⟩,z.2.2⟩⟩
noncomputable instance {a b:Prop} [Decidable a] [Decidable b]:Decidable (An a b):=decidable_of_iff (a/\b) ⟨an,An.and⟩
def evA (k:Nat) (n:String) (s:List Lean.Syntax):List Lean.Syntax:=.node .none n.toName (s.take k).reverse.toArray::s.drop k
def evB (n:Lean.Name) (s:List Lean.Syntax):List Lean.Syntax:=.ident .none "".toRawSubstring n []::s
def evC (a:List Lean.Syntax) (c f:Nat) (r:String) (s:List Lean.Syntax):List Lean.Syntax:=match f with
 |44=>.atom .none r::s
 |39=>evB r.toName s
 |45=>evB (.num r.toName c) s
 |36=>a.getD r.length .missing::s
 |33=>evA 1 "Lean.Parser.Tactic.tacticSeq" (evA 1 "Lean.Parser.Tactic.tacticSeq1Indented" s)
 |63=>evA 2 "Lean.Parser.Term.syntheticHole" (.atom .none "_"::.atom .none "?"::s)
 |_=>evA (f%16) ((if f<64 then "Lean.Parser.Tactic." else if f<96 then "" else "Lean.Parser.Term.")++r) s
def ev (a:List Lean.Syntax) (e:String):Lean.MacroM Lean.Syntax:=λc s=>
 let rec go:List String->List Lean.Syntax->Lean.Syntax
 |[],s=>s.headD .missing
 | t::l,s=>go l (Internal.evC a c.currMacroScope t.front.toNat (String.ofList t.toList.tail) s)
 .ok (go (e.splitOn " ") []) s
local macro_rules (kind:=Lean.Parser.Tactic.tacticHave__) | s=>if s[2][0][0][0].isIdent&&s[2][0][1].getNumArgs+s[2][0][2].getNumArgs==0 then Internal.ev [s[2][0][0][0],s[2][0][4]] ",( ,refine ,( ' AhygieneInfo bhygienicLParen ? ,: ,_ ahole ,→ ,_ ahole carrow Anull ,) etypeAscription $$ Anull bapp 2refine ,; ,intro $ Anull 2intro Cnull ! ,) 3paren" else Lean.Macro.throwUnsupported
local macro_rules (kind:=«term_∧_») | s=>Internal.ev [s[0],s[2]] "'Internal.An $ $$ B bapp"
local macro_rules (kind:=Lean.Parser.Tactic.rewriteSeq) | s=>if s[3].getNumArgs > 0 then Lean.Macro.throwUnsupported else if s[2][1].getNumArgs > 1 then Internal.ev [s.setArg 2 (s[2].setArg 1 (.node .none `null (s[2][1].getArgs.extract 0 1))),s.setArg 2 (s[2].setArg 1 (.node .none `null (s[2][1].getArgs.extract 2)))] ",( $ ,; $$ Cnull ! ,) 3paren" else Internal.ev [s[2][1][0][1]] (if s[2][1][0][0].getNumArgs > 0 then ",( ,first ,| ,refine 'Internal.rwr ,( ' AhygieneInfo bhygienicLParen $ ,.. aellipsis Anull bapp ,) cparen ? Bnull bapp 2refine Anull ! Bgroup ,| ,fail @null 2fail Anull ! Bgroup Bnull 2first Anull ! ,) 3paren" else ",( ,first ,| ,refine 'Internal.rwl ,( ' AhygieneInfo bhygienicLParen $ ,.. aellipsis Anull bapp ,) cparen ? Bnull bapp 2refine Anull ! Bgroup ,| ,refine 'Internal.rwl ,( ' AhygieneInfo bhygienicLParen 'propext ,( ' AhygieneInfo bhygienicLParen $ ,.. aellipsis Anull bapp ,) cparen Anull bapp ,) cparen ? Bnull bapp 2refine Anull ! Bgroup ,| ,fail @null 2fail Anull ! Bgroup Cnull 2first Anull ! ,) 3paren")
local macro_rules (kind:=Lean.Parser.Tactic.cases) | s=>if s[1].getNumArgs==1&&s[2].getNumArgs+s[3].getNumArgs==0&&s[1][0][1].isIdent then Internal.ev [s[1][0][1]] ",( ,first ,| ,with_reducible ,exact 'Internal.cns $ Anull bapp 2exact Anull ! 2withReducible Anull ! Bgroup ,| ,with_reducible ,exact 'Internal.csn $ Anull bapp 2exact Anull ! 2withReducible Anull ! Bgroup ,| ,with_reducible ,exact 'Internal.cft $ Anull bapp 2exact Anull ! 2withReducible Anull ! Bgroup ,| ,with_reducible ,exact 'Internal.ctf $ Anull bapp 2exact Anull ! 2withReducible Anull ! Bgroup ,| ,with_reducible ,exact 'Internal.cnc $ Anull bapp 2exact Anull ! 2withReducible Anull ! Bgroup ,| ,with_reducible ,exact 'Internal.ccn $ Anull bapp 2exact Anull ! 2withReducible Anull ! Bgroup ,| ,exact 'Internal.cvv $ 'rfl Bnull bapp 2exact Anull ! Bgroup ,| ,exact 'Internal.cns $ Anull bapp 2exact Anull ! Bgroup ,| ,exact 'Internal.cft $ Anull bapp 2exact Anull ! Bgroup ,| ,exact 'Internal.csn $ Anull bapp 2exact Anull ! Bgroup ,| ,exact 'Internal.ctf $ Anull bapp 2exact Anull ! Bgroup ,| ,fail @null 2fail Anull ! Bgroup Lnull 2first Anull ! ,) 3paren" else Lean.Macro.throwUnsupported
open PySem PySem.Calls PyProof.Rows PySem.W
section
open PySem.Challenge
noncomputable def qP:Program:=view M4 [87]
noncomputable def s3:List Str:=M4.boundNames
noncomputable def AW:List Str:=Qx M4.main.body
theorem Iw:opening M4=plainProg M4.main.scope.names:=by kernel_rfl
theorem CY(s:Ml):fenceModules? M4 s=Mc s:=by kernel_rfl
theorem It(w:O6):An ((OO w.params).isNs Nw=Mh) (An ((OO w.params).objs.size=11) ((OO w.params).nsMap Nw "__annotations__"=Mc (.ref 6))):=⟨by kernel_rfl,by kernel_rfl,by kernel_rfl⟩
theorem GD:bM λd kwd=>defOf qP Od.name=Mc (d,kwd)/\Od.prog.theDef Od.name=Mc (d.params,d.body,d.scope)/\kwWritten? d.params.kwonlyargs d.params.kw_defaults=Mc kwd:=⟨_,_,rfl,rfl,rfl⟩
theorem Il:(chainsOk qP&&opensWell Od.prog&&(frees Od.row.toRowW&&Od.row.within.isEmpty))=true:=by decide +kernel
theorem abh:Od.prog.bare:=⟨rfl,rfl,rfl,rfl,rfl,by decide +kernel⟩
theorem DK:Od.row.toRowW.promised:=RowW.promised_of_found (by decide +kernel)
set_option maxHeartbeats 4000000 in
theorem Cz:looksOpen Od.row.prog=true:=by
 unfold looksOpen;repeat' with_reducible apply VB
 all_goals decide +kernel
set_option maxHeartbeats 4000000 in
theorem abf:Od.row.partSaid=true:=by
 unfold OpenRow.partSaid;repeat' with_reducible apply VB
 ·exact Cz
 all_goals decide +kernel
set_option maxHeartbeats 4000000 in
theorem Gw:Od.row.wellSaid=true:=by
 unfold OpenRow.wellSaid;repeat' with_reducible apply VB
 ·exact abf
 all_goals decide +kernel
set_option maxHeartbeats 4000000 in
theorem El:Od.wellSaid=true:=by
 unfold OpenLaw.wellSaid;repeat' with_reducible apply VB
 ·exact Gw
 all_goals decide +kernel
end
variable{a b:Nat}
theorem lp{n:Nat}(h:a<=n)(e:PD (b+1) a=Mh):b<=n-1:=Ov (Nj (MF e) h)
theorem lq{n:Nat}(h:a<=n)(e:PD b a=Mh):b<=n:=Nj (MF e) h
variable{p:Prop}
theorem GU{a0 a1 a2 a3 a4 a5 a6:Prop}(h:a0/\a1/\a2/\a3/\a4/\a5/\a6)(q:a0->a1->a2->a3->a4->a5->a6->p):p:=by exact q h.1 h.2.1 h.2.2.1 h.2.2.2.1 h.2.2.2.2.1 h.2.2.2.2.2.1 h.2.2.2.2.2.2
variable{t0:Type}
theorem CV{a0 a1 a2 a3 a4:t0->Prop}(h:∃x0,a0 x0/\a1 x0/\a2 x0/\a3 x0/\a4 x0)(q:∀x0,a0 x0->a1 x0->a2 x0->a3 x0->a4 x0->p):p:=by refine ae h λx0 z3=>?_;exact q x0 z3.1 z3.2.1 z3.2.2.1 z3.2.2.2.1 z3.2.2.2.2
variable{t1:Type}
theorem Ds{t2:Type}{a0 a1 a2 a3 a4 a5:t0->t1->t2->Prop}(h:oz λx0 x1 x2=>a0 x0 x1 x2/\a1 x0 x1 x2/\a2 x0 x1 x2/\a3 x0 x1 x2/\a4 x0 x1 x2/\a5 x0 x1 x2)(q:∀x0 x1 x2,a0 x0 x1 x2->a1 x0 x1 x2->a2 x0 x1 x2->a3 x0 x1 x2->a4 x0 x1 x2->a5 x0 x1 x2->p):p:=by refine ga h λx0 x1 x2 z2=>?_;exact q x0 x1 x2 z2.1 z2.2.1 z2.2.2.1 z2.2.2.2.1 z2.2.2.2.2.1 z2.2.2.2.2.2
theorem Gy{t2 t3:Type}{a0 a1 a2 a3 a4 a5:t0->t1->t2->t3->Prop}(h:yq λx0 x1 x2 x3=>a0 x0 x1 x2 x3/\a1 x0 x1 x2 x3/\a2 x0 x1 x2 x3/\a3 x0 x1 x2 x3/\a4 x0 x1 x2 x3/\a5 x0 x1 x2 x3)(q:∀x0 x1 x2 x3,a0 x0 x1 x2 x3->a1 x0 x1 x2 x3->a2 x0 x1 x2 x3->a3 x0 x1 x2 x3->a4 x0 x1 x2 x3->a5 x0 x1 x2 x3->p):p:=by refine vx h λx0 x1 x2 x3 z1=>?_;exact q x0 x1 x2 x3 z1.1 z1.2.1 z1.2.2.1 z1.2.2.2.1 z1.2.2.2.2.1 z1.2.2.2.2.2
noncomputable def BN:List (Nat×List (Nat×Nat)):=[(159,[(6872327479327219551,135),(26845041950351199,142),(115298485004486023744151391,149),(115298706365414908258770783,156)]),
 (209,[(6872327479327219551,185),(IB,192),(IC,199),(ID,206)]),
 (293,[(6872327479327219551,283),(IF,290)]),
 (349,[(6872327479327219551,311),(IF,318),(IG,325),(II,332),(IJ,339),(IK,346)]),
 (407,[(6872327479327219551,369),(IF,376),(IL,383),(7697253,390),(7370100,397),(1668247673,404)]),
 (576,[(6872327479327219551,461),(138296631136979081289102437,468),(112628846781812,475),(123563851081060,482),(8672219036227208731128255966309,489),(516904535068724860776302,496),(IM,503),(7887337266063239540,510),(33551867937639955759409423728,517),(516535667469631416984944,524),(2110238271504539477368,531),(8243118248232772976,538),(2036453570056394401136,545),(1886151033,552),(7501166,559),(8672219036227639976003883069028,566),(115944242638436,573)]),
 (696,[(6872327479327219551,630),(IN,637),(IO,644),(IP,651),(IQ,658),(IR,665),(IS,672),(2074498830761634063736,679),(31654340069582192,686),(2074498830804483797620,693)]),
 (822,[(6872327479327219551,714),(138296631136979081289102437,721),(138296631136979068269978469,728),(123563851081060,735),(IT,742),(IU,749),(30515246123868524,756),(469786452840,763),(7497072,770),(495673373300,777),(7308889606288667243,784),(IV,791),(121390560203838061138636646,798),(564072139095822583489904,805),(144402467608530581373415539,812),(36967031707783833182647380334,819),(IN,637),(IO,644),(IP,651),(IQ,658),(IR,665),(IS,672),(2074498830761634063736,679),(31654340069582192,686),(2074498830804483797620,693)]),
 (905,[(6872327479327219551,838),(427020345714,845),(7370100,860),(1717921124,867),(1852138852,874),(IW,881),(1668247673,888),(IX,895),(121382073889652,902)]),
 (1011,[(6872327479327219551,945),(IB,952),(1970496868,959),(1818584692,966),(435643770212,973),(IY,980),(IZ,987),(110404053590900,994),(I4,1001),(I5,1008)]),
 (1095,[(6872327479327219551,1029),(I6,1036),(IY,1043),(2036448204439583483246,1050),(IZ,1057),(110404053590900,1064),(I4,1071),(I5,1078),(I7,1085),(1685024357,1092)])]
noncomputable def mt(C c:Nat):Option Nat:=(BN.lookup C).bind λl=>l.lookup c
noncomputable def DC:List (Nat×List (Nat×Nat)):=[(905,[(1751217765,852)])]
noncomputable def pt(C c:Nat):Option Nat:=(DC.lookup C).bind λl=>l.lookup c
noncomputable def Ae:List (Nat×List Nat):=[(159,[I8,I9]),
 (209,[27747,27760,28770]),
 (293,[LC,Lg,LO,7170404,LY]),
 (349,[Mb,LL,LT,Jh,Ji,Jj,Jk,Jl,IC,Jm,Jn,Jo,Jp]),
 (407,[Jq]),
 (576,[Jr,Js,Jt,Ju,Jv,Jw,Jx]),
 (696,[Js,Jy]),
 (822,[Js,Ju,Jv,Jw,Jy]),
 (905,[Jz,I7,JA,500086104428]),
 (1011,[JB,JC,Ju,JD,JE,1937010544]),
 (1095,[JF,JG,JH,LO,JI,JD])]
noncomputable def AA(C c:Nat):Bool:=((Ae.lookup C).getD []).contains c
noncomputable def tR:List Nat:=[21,159,170,209,220,227,234,241,248,255,262,269,293,349,407,418,425,432,439,446,576,588,595,602,609,616,696,822,905,916,923,930,1011,1095,1106,1113,1120,1127,1134,1141,1148,1153,1160,1167,1174,1179,1184,1189]
noncomputable def Zo(a:Nat):Bool:=tR.contains a
theorem jG:mt 159 6872327479327219551=Mc 135:=by decide
theorem j0:mt 159 26845041950351199=Mc 142:=by decide
theorem cH:mt 159 115298485004486023744151391=Mc 149:=by decide
theorem cG:mt 159 115298706365414908258770783=Mc 156:=by decide
theorem jw:mt 209 6872327479327219551=Mc 185:=by decide
theorem dZ:mt 293 6872327479327219551=Mc 283:=by decide
theorem iG:mt 349 6872327479327219551=Mc 311:=by decide
theorem kh:mt 407 6872327479327219551=Mc 369:=by decide
theorem dW:mt 576 6872327479327219551=Mc 461:=by decide
theorem fk:mt 822 6872327479327219551=Mc 714:=by decide
theorem iF:mt 905 6872327479327219551=Mc 838:=by decide
theorem eL:mt 1011 6872327479327219551=Mc 945:=by decide
theorem fa:mt 1095 6872327479327219551=Mc 1029:=by decide
inductive LE where
 |k(n:Nat)
 |x(i:Nat)
 |v(i:Nat)
 |add(a b:LE)
 |mul(a b:LE)
 |sub(a b:LE)
 |neg(a:LE)
 |nat(a:LE)
inductive LR where
 |r(o:Nat)(a b:LE)
 |no(r:LR)
 |an(r s:LR)
noncomputable def la(c:Nat):Nat:=(c >>> 9)%2^((c >>> 3)%64)
noncomputable def lb(c:Nat):Nat:=c >>> 9 >>> ((c >>> 3)%64)
noncomputable def dE:Nat->Nat->LE
 |0,_=>.k 0
 |f+1,c=>match c%8 with
  |0=>.k (c >>> 3)
  |1=>.x (c >>> 3)
  |2=>.v (c >>> 3)
  |3=>.add (dE f (la c)) (dE f (lb c))
  |4=>.mul (dE f (la c)) (dE f (lb c))
  |5=>.sub (dE f (la c)) (dE f (lb c))
  |6=>.neg (dE f (c >>> 3))
  |_=>.nat (dE f (c >>> 3))
noncomputable def dR:Nat->Nat->LR
 |0,_=>.r 0 (.k 0) (.k 0)
 |f+1,c=>match c%8 with
  |6=>.no (dR f (c >>> 3))
  |7=>.an (dR f (la c)) (dR f (lb c))
  |o=>.r o (dE 20 (la c)) (dE 20 (lb c))
noncomputable def vN(ns:List Nat):LE->Nat
 |.k n=>n
 |.v i=>ns.getD i 0
 |.add a b=>vN ns a+vN ns b
 |.mul a b=>vN ns a*vN ns b
 |_=>0
noncomputable def vI(xs:List Int)(ns:List Nat):LE->Int
 |.k n=>@OfNat.ofNat Int n (@instOfNat n)
 |.x i=>xs.getD i 0
 |.v _=>0
 |.add a b=>vI xs ns a+vI xs ns b
 |.mul a b=>vI xs ns a*vI xs ns b
 |.sub a b=>vI xs ns a-vI xs ns b
 |.neg a=>- vI xs ns a
 |.nat a=>(vN ns a:Int)
noncomputable def vQ(xs:List Int)(ns:List Nat)(a b:LE):Nat->Prop
 |0=>vI xs ns a<=vI xs ns b
 |1=>vI xs ns a<vI xs ns b
 |2=>vI xs ns a=vI xs ns b
 |3=>vN ns a<=vN ns b
 |4=>vN ns a<vN ns b
 |_=>vN ns a=vN ns b
noncomputable def vR(xs:List Int)(ns:List Nat):LR->Prop
 |.r o a b=>vQ xs ns a b o
 |.no r=>¬vR xs ns r
 |.an r s=>vR xs ns r/\vR xs ns s
noncomputable def lR(xs:List Int)(ns:List Nat)(c:Nat):Prop:=vR xs ns (dR 9 c)
noncomputable def mj:List Int->List Int->List Int
 |[],b=>b
 |a::as,[]=>a::as
 |a::as,b::bs=>(a+b)::mj as bs
noncomputable def me(k:Int)(l:List Int):List Int:=l.map (k*·)
noncomputable def lU:Nat->List Int
 |0=>[1]
 |i+1=>0::lU i
noncomputable def one?:List Int->Option Int
 |[k]=>Mc k
 |_=>Mq
noncomputable def lM(a b:List Int):Option (List Int):=((one? a).map (me · b)).or ((one? b).map (me · a))
noncomputable def lF(m:Bool):LE->Option (List Int)
 |.k n=>Mc [(n:Int)]
 |.x i=>bif m then Mq else Mc (lU (1+2*i))
 |.v i=>bif m then Mc (lU (2+2*i)) else Mq
 |.add a b=>(lF m a).bind λa=>(lF m b).bind λb=>Mc (mj a b)
 |.mul a b=>(lF m a).bind λa=>(lF m b).bind λb=>lM a b
 |.sub a b=>bif m then Mq else(lF m a).bind λa=>(lF m b).bind λb=>Mc (mj a (me (-1) b))
 |.neg a=>bif m then Mq else(lF m a).bind λa=>Mc (me (-1) a)
 |.nat a=>bif m then Mq else lF Mh a
noncomputable def dot(e:Nat->Int):Nat->List Int->Int
 |_,[]=>0
 |i,a::l=>a*e i+dot e (i+1) l
theorem dP(e:Nat->Int):∀(a b:List Int)(i:Nat),dot e i (mj a b)=dot e i a+dot e i b
 |[],b,i=>(R9 _).symm
 |a::as,[],i=>(PE _).symm
 |a::as,b::bs,i=>by show(a+b)*e i+dot e (i+1) (mj as bs)=a*e i+dot e (i+1) as+(b*e i+dot e (i+1) bs);rw[dP e as bs,SY,Tn,Tn,Int.add_left_comm (b*e i)]
theorem dc(e:Nat->Int)(k:Int):∀(a:List Int)(i:Nat),dot e i (me k a)=k*dot e i a
 |[],i=>(Int.mul_zero _).symm
 |a::as,i=>by show k*a*e i+dot e (i+1) (me k as)=k*(a*e i+dot e (i+1) as);rw[dc e k as,Int.mul_add,Nk]
theorem jb(e:Nat->Int):∀(j i:Nat),dot e i (lU j)=e (i+j)
 |0,i=>by show 1*e i+0=e i;rw[Py,PE]
 |j+1,i=>by show 0*e i+dot e (i+1) (lU j)=e (i+(j+1));rw[Vk,R9,jb e j,U5,Nat.add_comm 1]
theorem g9(e:Nat->Int)(h:e 0=1)(k:Int):dot e 0 [k]=k:=by show k*e 0+0=k;rw[h,RA,PE]
variable{k:Int}
theorem yi{a:List Int}(h:one? a=Mc k):a=[k]:=by
 match a,h with
 |[_],h=>exact congrArg (λx=>[x]) (MI h)
variable{e:Nat->Int}
theorem AF(h:e 0=1){a b l:List Int}(hl:lM a b=Mc l):dot e 0 l=dot e 0 a*dot e 0 b:=by
 rcases Option.or_eq_some_iff.mp hl with q|⟨_,q⟩<;>obtain⟨k,hk,rfl⟩:=MP.mp q;·rw[yi hk,dc,g9 e h]
 ·rw[yi hk,dc,g9 e h,NX]
noncomputable def lE(xs:List Int)(ns:List Nat)(i:Nat):Int:=
 if i=0 then 1 else if i%2=1 then xs.getD (i/2) 0 else((ns.getD (i/2-1) 0:Nat):Int)
section
variable(xs:List Int)(ns:List Nat)
theorem Dl:lE xs ns 0=1:=rfl
theorem HW(j:Nat):lE xs ns (0+(1+2*j))=xs.getD j 0:=by unfold lE;rw[Om,if_neg (Qh (Nat.add_pos_left Nat.one_pos _)),SV,if_pos rfl,Uq _ _ (by decide)];show xs.getD (0+j) 0=_;rw[Om]
theorem Hw(j:Nat):lE xs ns (0+(2+2*j))=((ns.getD j 0:Nat):Int):=by unfold lE;rw[Om,if_neg (Qh (Nat.add_pos_left Nat.two_pos _)),SV,if_neg (by decide),Uq _ _ (by decide)];show((ns.getD (1+j-1) 0:Nat):Int)=_;rw[Nat.add_sub_cancel_left]
theorem mY:∀(c:LE){l:List Int},lF Mh c=Mc l->((vN ns c:Nat):Int)=dot (lE xs ns) 0 l
 |.k n,l,h=>by cases h;exact(g9 _ (Dl xs ns) _).symm
 |.v i,l,h=>by cases h;rw[jb,Hw];rfl
 |.add a b,l,h=>by obtain⟨x,hx,h⟩:=My.mp h;obtain⟨y,hy,h⟩:=My.mp h;cases h;rw[dP,<-mY a hx,<-mY b hy];rfl
 |.mul a b,l,h=>by obtain⟨x,hx,h⟩:=My.mp h;obtain⟨y,hy,h⟩:=My.mp h;rw[AF (Dl xs ns) h,<-mY a hx,<-mY b hy];rfl
 |.x _,_,h=>nomatch h
 |.sub _ _,_,h=>nomatch h
 |.neg _,_,h=>nomatch h
 |.nat _,_,h=>nomatch h
theorem kx:∀(c:LE){l:List Int},lF Mg c=Mc l->vI xs ns c=dot (lE xs ns) 0 l
 |.k n,l,h=>by cases h;exact(g9 _ (Dl xs ns) _).symm
 |.x i,l,h=>by cases h;rw[jb,HW];rfl
 |.add a b,l,h=>by obtain⟨x,hx,h⟩:=My.mp h;obtain⟨y,hy,h⟩:=My.mp h;cases h;rw[dP,<-kx a hx,<-kx b hy];rfl
 |.mul a b,l,h=>by obtain⟨x,hx,h⟩:=My.mp h;obtain⟨y,hy,h⟩:=My.mp h;rw[AF (Dl xs ns) h,<-kx a hx,<-kx b hy];rfl
 |.sub a b,l,h=>by obtain⟨x,hx,h⟩:=My.mp h;obtain⟨y,hy,h⟩:=My.mp h;cases h;rw[dP,dc,<-kx a hx,<-kx b hy,VO,Py];exact Va
 |.neg a,l,h=>by obtain⟨x,hx,h⟩:=My.mp h;cases h;rw[dc,<-kx a hx,VO,Py];rfl
 |.nat a,l,h=>mY xs ns a h
 |.v _,_,h=>nomatch h
end
noncomputable def df(a b:List Int)(k:Int):List Int:=mj (mj b (me (-1) a)) [k]
noncomputable def lW(p q:List Int):Nat->Bool->Option (List (List Int))
 |0,Mg=>Mc [df p q 0]
 |0,Mh=>Mc [df q p (-1)]
 |1,Mg=>Mc [df p q (-1)]
 |1,Mh=>Mc [df q p 0]
 |_,Mg=>Mc [df p q 0,df q p 0]
 |_,Mh=>Mq
noncomputable def lH(g:Bool):LR->Option (List (List Int))
 |.r o a b=>(lF (PD 3 o) a).bind λp=>(lF (PD 3 o) b).bind λq=>lW p q (bif PD 3 o then o-3 else o) g
 |.no r=>lH (!g) r
 |.an r s=>bif g then Mq else(lH Mg r).bind λx=>(lH Mg s).bind λy=>Mc (x++y)
noncomputable def vr(e:Nat->Int)(L:List (List Int)):Prop:=∀v∈L,0<=dot e 0 v
variable{v:List Int}
theorem sv:vr e [v]↔0<=dot e 0 v:=⟨λh=>h v (MM.mpr rfl),λh w m=>MM.mp m▸h⟩
theorem li{a b:List (List Int)}:vr e (a++b)↔vr e a/\vr e b:=
 ⟨λh=>⟨λv m=>h v (Oo.mpr (.inl m)),λv m=>h v (Oo.mpr (.inr m))⟩,λh v m=>(Oo.mp m).elim (h.1 v) (h.2 v)⟩
noncomputable def lC(p q:Int):Nat->Prop
 |0=>p<=q
 |1=>p<q
 |_=>p=q
theorem ka(h:e 0=1)(a b:List Int)(k:Int):dot e 0 (df a b k)=dot e 0 b-dot e 0 a+k:=by unfold df;rw[dP,dP,dc,g9 e h,VO,Py,<-Va]
theorem DM{p q:Int}:0<=p-q+-1↔q<p:=by omega
theorem Zu{p q:Int}:0<=p-q+0↔q<=p:=by omega
theorem BD(h:e 0=1)(p q:List Int):∀(o:Nat)(g:Bool){L:List (List Int)},lW p q o g=Mc L->(vr e L↔if g then ¬lC (dot e 0 p) (dot e 0 q) o else lC (dot e 0 p) (dot e 0 q) o)
 |0,Mg,L,z=>by cases z;rw[sv,ka h];exact Zu
 |0,Mh,L,z=>by cases z;rw[sv,ka h];exact DM.trans So.symm
 |1,Mg,L,z=>by cases z;rw[sv,ka h];exact DM
 |1,Mh,L,z=>by cases z;rw[sv,ka h];exact Zu.trans Q6.symm
 |o+2,Mg,L,z=>by cases z;rw[show[df p q 0,df q p 0]=[df p q 0]++[df q p 0] from rfl,li,sv,sv,ka h,ka h];exact⟨λz=>Int.le_antisymm (Zu.mp z.1) (Zu.mp z.2),λz=>⟨Zu.mpr (Int.le_of_eq z),Zu.mpr (Int.le_of_eq z.symm)⟩⟩
 |o+2,Mh,L,z=>nomatch z
variable{xs:List Int}{ns:List Nat}
theorem CC{a b:LE}{p q:List Int}:∀(o:Nat),lF (PD 3 o) a=Mc p->lF (PD 3 o) b=Mc q->(lC (dot (lE xs ns) 0 p) (dot (lE xs ns) 0 q) (bif PD 3 o then o-3 else o)↔vQ xs ns a b o)
 |0,ha,hb=>by rw[<-kx xs ns a ha,<-kx xs ns b hb];exact Pl
 |1,ha,hb=>by rw[<-kx xs ns a ha,<-kx xs ns b hb];exact Pl
 |2,ha,hb=>by rw[<-kx xs ns a ha,<-kx xs ns b hb];exact Pl
 |3,ha,hb=>by rw[<-mY xs ns a ha,<-mY xs ns b hb];exact Vl
 |4,ha,hb=>by rw[<-mY xs ns a ha,<-mY xs ns b hb];exact Sb
 |o+5,ha,hb=>by rw[<-mY xs ns a ha,<-mY xs ns b hb];exact Int.natCast_inj
theorem mC:∀(r:LR)(g:Bool){L:List (List Int)},lH g r=Mc L->(vr (lE xs ns) L↔if g then ¬vR xs ns r else vR xs ns r)
 |.r o a b,g,L,h=>by
  obtain⟨p,hp,h⟩:=My.mp h;obtain⟨q,hq,h⟩:=My.mp h;have e:=CC (xs:=xs) (ns:=ns) o hp hq;refine(BD (Dl xs ns) p q _ g h).trans ?_;cases g;·exact e
  ·exact not_congr e
 |.no r,g,L,h=>by
  refine(mC r (!g) h).trans ?_;cases g;·exact Pl
  ·exact Classical.not_not.symm
 |.an r s,Mg,L,h=>by obtain⟨p,hp,h⟩:=My.mp h;obtain⟨q,hq,h⟩:=My.mp h;cases h;exact li.trans (An.cg (mC r Mg hp) (mC s Mg hq))
 |.an r s,Mh,L,h=>nomatch h
noncomputable def lX(H:List (List Int))(i:Nat):List Int:=bif VX i 16 then H.getD i [] else lU (2+2*(i-16))
noncomputable def lS(H:List (List Int)):Nat->Nat->List Int
 |0,_=>[]
 |f+1,c=>bif P2 c 0 then[] else mj (me ((c >>> 10%2^(c >>> 5%32):Nat):Int) (lX H (c%32))) (lS H f (c >>> 10 >>> (c >>> 5%32)))
noncomputable def lZ(k:Int):List Int->Bool
 |[]=>M0 (-k<=0)
 |d::ds=>M0 (-k<=d)&&ds.all (·==0)
noncomputable def lK(H:List (List Int))(v:List Int)(c:Nat):Bool:=lZ ((c%256:Nat):Int) (mj (me ((c%256+1:Nat):Int) v) (me (-1) (lS H 20 (c >>> 8))))
noncomputable def l1(c:Nat):Nat:=(c >>> 8)%2^(c%256)
noncomputable def l2(c:Nat):Nat:=c >>> 8 >>> (c%256)
noncomputable def G9(H:List (List Int)):List (List Int)->Nat->Bool
 |[],_=>Mh
 |v::vs,c=>lK H v (l1 c)&&G9 H vs (l2 c)
noncomputable def Fs:List Nat->Option (List (List Int))
 |[]=>Mc []
 |h::hs=>(lH Mg (dR 9 h)).bind λx=>(Fs hs).bind λy=>Mc (x++y)
noncomputable def lQ(hs:List Nat)(g c:Nat):Bool:=((Fs hs).bind λH=>(lH Mg (dR 9 g)).bind λG=>Mc (G9 H G c)).getD Mg
noncomputable def FM(hs:List Nat)(c:Nat):Bool:=((Fs hs).bind λH=>Mc (lK H [-1] (l1 c))).getD Mg
theorem xG{o:Option Bool}(h:o.getD Mg=Mh):o=Mc true:=by
 match o,h with
 |some Mh,_=>rfl
theorem rF(e:Nat->Int):∀(l:List Int)(i:Nat),l.all (·==0)=Mh->dot e i l=0
 |[],_,_=>rfl
 |a::l,i,h=>by obtain⟨h1,h2⟩:=MQ.mp ((Ru ..).symm.trans h);obtain rfl:a=0:=beq_iff_eq.mp h1;show 0*e i+dot e (i+1) l=0;rw[rF e l _ h2,Vk];rfl
variable{d:Int}{hs:List Nat}
section
variable{H:List (List Int)}
theorem Cw(h:vr (lE xs ns) H)(i:Nat):0<=dot (lE xs ns) 0 (lX H i):=by
 unfold lX;cases VX i 16;·show 0<=dot _ 0 (lU _);rw[jb,Hw];exact Ms _
 ·show 0<=dot _ 0 (H.getD i []);rw[Mw];cases e:H[i]? with
  |none=>exact QL _
  |some v=>exact h v (MO e)
theorem vL(h:vr (lE xs ns) H):∀f c,0<=dot (lE xs ns) 0 (lS H f c)
 |0,_=>QL _
 |f+1,c=>by
  show 0<=dot (lE xs ns) 0 (bif P2 c 0 then[] else mj (me ((c >>> 10%2^(c >>> 5%32):Nat):Int) (lX H (c%32))) (lS H f _));cases P2 c 0;·show 0<=dot _ 0 (mj _ _);rw[dP,dc];exact Ur (Int.mul_nonneg (Ms _) (Cw h _)) (vL h f _)
  ·exact QL _
theorem Bc{m:Nat}{z:Int}(p:0<=z)(q:-(m:Int)<=((m+1:Nat):Int)*d+-1*z):0<=d:=by refine Q6.mp λhd=>?_;have:((m+1:Nat):Int)*d<=((m+1:Nat):Int)*(-1):=Nr (Int.le_sub_one_of_lt hd) (Ms _);omega
theorem AR(h:vr (lE xs ns) H){c:Nat}(k:lK H v c=Mh):0<=dot (lE xs ns) 0 v:=by
 unfold lK at k;have q:∀w,lZ ((c%256:Nat):Int) w=Mh->-((c%256:Nat):Int)<=dot (lE xs ns) 0 w:=λw k=>by
  induction w with
  |nil=>exact of_decide_eq_true k
  |cons d ds=>obtain⟨k1,k2⟩:=MQ.mp k;show _<=d*1+dot (lE xs ns) 1 ds;rw[rF _ _ _ k2,RA,PE];exact of_decide_eq_true k1
 have q:=q _ k;rw[dP,dc,dc] at q;exact Bc (vL h 20 (c >>> 8)) q
theorem xA(h:vr (lE xs ns) H):∀(G:List (List Int))(c:Nat),G9 H G c=Mh->vr (lE xs ns) G
 |[],_,_=>nofun
 |v::vs,c,k=>by obtain⟨k1,k2⟩:=MQ.mp k;exact(li (a:=[v])).mpr ⟨sv.mpr (AR h k1),xA h vs _ k2⟩
theorem sI:∀(hs:List Nat){H:List (List Int)},Fs hs=Mc H->(∀h∈hs,lR xs ns h)->vr (lE xs ns) H
 |[],H,e,_=>by cases e;exact nofun
 |h::hs,H,e,a=>by obtain⟨x,hx,e⟩:=My.mp e;obtain⟨y,hy,e⟩:=My.mp e;cases e;exact li.mpr ⟨(mC _ Mg hx).mpr (a h (MT ..)),sI hs hy λh' m=>a h' (MU _ m)⟩
theorem Dq{g c:Nat}(a:∀h∈hs,lR xs ns h)(k:lQ hs g c=Mh):lR xs ns g:=by refine ae (My.mp (xG k)) λH zq182=>?_;have e:=zq182.1;have k:=zq182.2;obtain⟨G,e',k⟩:=My.mp k;exact(mC _ Mg e').mp (xA (sI hs e a) G c (MI k))
theorem Bh{c:Nat}(a:∀h∈hs,lR xs ns h)(k:FM hs c=Mh):p:=by obtain⟨H,e,k⟩:=My.mp (xG k);have:=AR (sI hs e a) (MI k);rw[g9 _ (Dl xs ns)] at this;exact absurd this (by decide)
end
variable{p:Nat->Prop}
theorem yL:∀h∈([]:List Nat),p h:=nofun
theorem ny{l:List Nat}(h1:p a)(h:∀x∈l,p x):∀x∈a::l,p x:=λx m=>by
 cases m with
 |head=>exact h1
 |tail _ m=>exact h x m
section
variable(c:Nat)(xs:List Int)(ns:List Nat)
noncomputable def HZ:Bool:=lQ [] (l1 c) (l2 c)
theorem ck(k:HZ c=true:=by rfl):lR xs ns (l1 c):=Dq yL k
noncomputable def Iq:Bool:=lQ [l1 (l2 c)] (l1 c) (l2 (l2 c))
theorem af(h1:lR xs ns (l1 (l2 c)))(k:Iq c=true:=by rfl):lR xs ns (l1 c):=Dq (ny h1 yL) k
noncomputable def HY:Bool:=lQ [l1 (l2 c),l1 (l2 (l2 c))] (l1 c) (l2 (l2 (l2 c)))
theorem ao(h1:lR xs ns (l1 (l2 c)))(h2:lR xs ns (l1 (l2 (l2 c))))(k:HY c=true:=by rfl):lR xs ns (l1 c):=Dq (ny h1 (ny h2 yL)) k
noncomputable def H6:Bool:=lQ [l1 (l2 c),l1 (l2 (l2 c)),l1 (l2 (l2 (l2 c)))] (l1 c) (l2 (l2 (l2 (l2 c))))
theorem aS(h1:lR xs ns (l1 (l2 c)))(h2:lR xs ns (l1 (l2 (l2 c))))(h3:lR xs ns (l1 (l2 (l2 (l2 c)))))(k:H6 c=true:=by rfl):lR xs ns (l1 c):=Dq (ny h1 (ny h2 (ny h3 yL))) k
noncomputable def Ib:Bool:=lQ [l1 (l2 c),l1 (l2 (l2 c)),l1 (l2 (l2 (l2 c))),l1 (l2 (l2 (l2 (l2 c))))] (l1 c) (l2 (l2 (l2 (l2 (l2 c)))))
theorem iK(h1:lR xs ns (l1 (l2 c)))(h2:lR xs ns (l1 (l2 (l2 c))))(h3:lR xs ns (l1 (l2 (l2 (l2 c)))))(h4:lR xs ns (l1 (l2 (l2 (l2 (l2 c))))))(k:Ib c=true:=by rfl):lR xs ns (l1 c):=Dq (ny h1 (ny h2 (ny h3 (ny h4 yL)))) k
noncomputable def Ip:Bool:=lQ [l1 (l2 c),l1 (l2 (l2 c)),l1 (l2 (l2 (l2 c))),l1 (l2 (l2 (l2 (l2 c)))),l1 (l2 (l2 (l2 (l2 (l2 c)))))] (l1 c) (l2 (l2 (l2 (l2 (l2 (l2 c))))))
theorem Dx(h1:lR xs ns (l1 (l2 c)))(h2:lR xs ns (l1 (l2 (l2 c))))(h3:lR xs ns (l1 (l2 (l2 (l2 c)))))(h4:lR xs ns (l1 (l2 (l2 (l2 (l2 c))))))(h5:lR xs ns (l1 (l2 (l2 (l2 (l2 (l2 c)))))))(k:Ip c=true:=by rfl):lR xs ns (l1 c):=Dq (ny h1 (ny h2 (ny h3 (ny h4 (ny h5 yL))))) k
noncomputable def H4:Bool:=FM [l1 c] (l2 c)
theorem Ce{p:Prop}(h1:lR xs ns (l1 c))(k:H4 c=true:=by rfl):p:=Bh (ny h1 yL) k
noncomputable def HS:Bool:=FM [l1 c,l1 (l2 c)] (l2 (l2 c))
theorem fb{p:Prop}(h1:lR xs ns (l1 c))(h2:lR xs ns (l1 (l2 c)))(k:HS c=true:=by rfl):p:=Bh (ny h1 (ny h2 yL)) k
noncomputable def Iu:Bool:=FM [l1 c,l1 (l2 c),l1 (l2 (l2 c))] (l2 (l2 (l2 c)))
theorem CF{p:Prop}(h1:lR xs ns (l1 c))(h2:lR xs ns (l1 (l2 c)))(h3:lR xs ns (l1 (l2 (l2 c))))(k:Iu c=true:=by rfl):p:=Bh (ny h1 (ny h2 (ny h3 yL))) k
end
theorem db{c:Nat}(h:a<=b)(e:PD b c=Mh):a<=c:=Nj h (MF e)
theorem Im{c:Nat}(h:a<b)(e:PD b c=Mh):a<c:=Nj h (MF e)
theorem kG{c:Nat}(h:a<=b)(e:VX b c=Mh):a<c:=Sq h (MF e)
theorem jR{c:Nat}(h:b<=a)(e:PD c b=Mh):c<=a:=Nj (MF e) h
theorem Dn{c:Nat}(h:a=b)(e:PD b c=Mh):a<=c:=h▸MF e
theorem ug{c d:Nat}(h:a=b)(h2:b<=c)(e:PD c d=Mh):a<=d:=h▸db h2 e
theorem yw{c k:Nat}(h:b<=a)(e:PD (c+k) b=Mh):c<=a-k:=Ov (jR h e)
theorem oV{a b c:Int}(h:a<=b)(e:M0 (b<=c)=Mh):a<=c:=OU h (of_decide_eq_true e)
theorem ill{a b c:Int}(h:a<=b)(e:M0 (b<c)=Mh):a<c:=Ot h (of_decide_eq_true e)
theorem r9{a b c:Int}(h:b<=a)(e:M0 (c<=b)=Mh):c<=a:=OU (of_decide_eq_true e) h
theorem nA(h:a<=b):(a:Int)<=b:=Vl.mpr h
theorem FY{c:Nat}(h:a<=c)(e:M0 ((c:Int)<=d)=Mh):(a:Int)<=d:=oV (nA h) e
theorem FG{c:Nat}(h:a<=c)(e:M0 ((c:Int)<d)=Mh):(a:Int)<d:=ill (nA h) e
theorem vX(h:(a:Int)<=b):a<=b:=Vl.mp h
theorem CM{a c:Int}(h:0<=a)(e:M0 (0<=c)=Mh):0<=a+c:=Ur h (of_decide_eq_true e)
theorem DV{a c:Int}(h:0<=a)(e:M0 (0<=c)=Mh):0<=a/c:=Oa h (of_decide_eq_true e)
theorem FP(e:Int)(h:M0 (0<k)=Mh):k*(e/k)<=e:=Int.mul_ediv_self_le (Int.ne_of_gt (of_decide_eq_true h))
theorem Hz(e:Int)(h:M0 (0<k)=Mh):e<k*(e/k)+k:=Int.lt_mul_ediv_self_add (of_decide_eq_true h)
theorem Hl(e:Int)(k:Int):e%k+k*(e/k)=e:=Int.emod_add_mul_ediv e k
theorem vy(e:Int)(h:M0 (0<k)=Mh):0<=e%k:=Nv e (Int.ne_of_gt (of_decide_eq_true h))
theorem Bi(e:Int)(h:M0 (0<k)=Mh):e%k<k:=Ni e (of_decide_eq_true h)
theorem Bo:(2:Int)^8=256:=by decide
theorem vK:(2:Int)^32=4294967296:=by decide
theorem Gr:(2:Int)^60=1152921504606846976:=by decide
theorem ej:(2:Int)^63=9223372036854775808:=by decide
theorem Hq{n v d:Nat}(h:n<=v+d):n<=v+(d-(v+d-n)):=
 Nj (Oq (Nat.sub_sub_self h).symm) (Uk.mpr (by rw[U5];exact Qr (Uk.mp (MC _)) v))
variable{x:Int}
theorem Hy{k:Nat}(h0:0<=x)(h:x<(k:Int)):x.natAbs<k:=Sb.mp (by rw[Us h0];exact h)
theorem HN(h0:0<=x)(h:x<=1000000):x.natAbs<2^64:=Hy h0 (Ot h (by decide))
theorem Fk:∀y<4,2<=y->((y:Nat):Int)%2=((y-2:Nat):Int):=by decide
theorem Et:∀y<4,2<=y->((y-2:Nat):Int)=0∨((y-2:Nat):Int)=1:=by decide
theorem AD:∀i,i<=3->min i 4+(3-i)=3:=by decide
theorem IA(x:Int):x%16777216*256%16777216=x%65536*256:=by rw[NX (x%_)];refine(Int.mul_emod_mul_of_pos (a:=256) (x%16777216) 65536 (by decide)).trans ?_;rw[Int.emod_emod_of_dvd _ (by decide),NX]
noncomputable def er:Md->Md
 |.int i _=>.int i 0
 |.float b _=>.float b 0
 |.str s _=>.str s 0
 |.bytes b _=>.bytes b 0
 |v=>v
theorem ji(v:Md):er v=v∨(bM λi t=>v=.int i t)∨(bM λi t=>v=.str i t)∨(bM λi t=>v=.bytes i t)∨bM λi t=>v=.float i t:=by cases v<;>first|exact .inl rfl|exact .inr (.inl ⟨_,_,rfl⟩)|exact .inr (.inr (.inl ⟨_,_,rfl⟩))|exact .inr (.inr (.inr (.inl ⟨_,_,rfl⟩)))|exact .inr (.inr (.inr (.inr ⟨_,_,rfl⟩)))
variable{v:Md}
theorem jg{w:Md}(h:er v=w)(n:∀i t,w≠.int i t)(n2:∀i t,w≠.str i t)(n3:∀i t,w≠.bytes i t)(n4:∀i t,w≠.float i t):v=w:=by
 rcases ji v with e|⟨i,t,rfl⟩|⟨i,t,rfl⟩|⟨i,t,rfl⟩|⟨i,t,rfl⟩;·exact e.symm.trans h
 ·exact absurd h.symm (n i 0)
 ·exact absurd h.symm (n2 i 0)
 ·exact absurd h.symm (n3 i 0)
 ·exact absurd h.symm (n4 i 0)
variable{a:Mk}
theorem aq(h:er v=.ref a):v=.ref a:=jg h nofun nofun nofun nofun
theorem lm{b:Bool}(h:er v=.bool b):v=.bool b:=jg h nofun nofun nofun nofun
theorem pT(h:er v=.none):v=.none:=jg h nofun nofun nofun nofun
variable{n:String}
theorem bJ(h:er v=.type n):v=.type n:=jg h nofun nofun nofun nofun
theorem lY(h:er v=.builtin n):v=.builtin n:=jg h nofun nofun nofun nofun
variable{i:Int}{t:Ue}
theorem mU(h:er v=.int i t):∃u,v=.int i u:=by
 rcases ji v with e|⟨i,t,rfl⟩|⟨i,t,rfl⟩|⟨i,t,rfl⟩|⟨i,t,rfl⟩;·exact⟨t,e.symm.trans h⟩
 ·cases h;exact⟨_,rfl⟩
 all_goals cases h
theorem Bl{x:Nn}(h:er v=.str x t):∃u,v=.str x u:=by
 rcases ji v with e|⟨i,t,rfl⟩|⟨i,t,rfl⟩|⟨i,t,rfl⟩|⟨i,t,rfl⟩;·exact⟨t,e.symm.trans h⟩
 ·cases h
 ·cases h;exact⟨_,rfl⟩
 all_goals cases h
variable{x:Array UInt8}
theorem qE(h:er v=.bytes x t):∃u,v=.bytes x u:=by
 rcases ji v with e|⟨i,t,rfl⟩|⟨i,t,rfl⟩|⟨i,t,rfl⟩|⟨i,t,rfl⟩;·exact⟨t,e.symm.trans h⟩
 ·cases h
 ·cases h
 ·cases h;exact⟨_,rfl⟩
 ·cases h
variable{P:Md->Prop}
@[elab_as_elim]theorem WM(h:er v=.int i t)(k:∀u,P (.int i u)):P v:=ae (mU h) λu e=>e▸k u
@[elab_as_elim]theorem Yz{x:Nn}(h:er v=.str x t)(k:∀u,P (.str x u)):P v:=ae (Bl h) λu e=>e▸k u
@[elab_as_elim]theorem Xg(h:er v=.bytes x t)(k:∀u,P (.bytes x u)):P v:=ae (qE h) λu e=>e▸k u
noncomputable def enc(s:Nn):Nat:=if s.cps.toList.all (λc=>M0 (0<c)&&M0 (c<256)) then s.cps.toList.foldl (λa c=>a*256+c) 0 else 0
theorem fO(l:List Nat):∀a,l.foldl (λa c=>a*256+c) a=a*256^l.length+l.foldl (λa c=>a*256+c) 0:=by
 induction l with
 |nil=>intro a;simp
 |cons c r ih=>intro a;simp only[PM];refine(ih (a*256+c)).trans (Eq.trans ?_ (congrArg (a*256^(c::r).length+·) (ih (0*256+c)).symm));show _=a*256^(r.length+1)+((0*256+c)*256^r.length+_);generalize 256=b;rw[Nat.zero_mul,Om,Nat.add_mul,Nat.mul_assoc,QS b,U5];rfl
theorem mn(l:List Nat)(h:l.all (λc=>M0 (0<c)&&M0 (c<256))=Mh):l.foldl (λa c=>a*256+c) 0<256^l.length:=by
 induction l with
 |nil=>simp
 |cons c r ih=>simp only[Ru,Oe,decide_eq_true_eq] at h;have:=ih (by simpa using h.2);rw[PM,fO,MV,TY];have h2:(0*256+c)*256^r.length<=255*256^r.length:=Ut _ (by lia);lia
theorem aas(c:Nat)(r:List Nat)(h:0<c):256^r.length<=(c::r).foldl (λa c=>a*256+c) 0:=by rw[PM,fO];have:1*256^r.length<=(0*256+c)*256^r.length:=Ut _ (af 0x1080004e03032800031670232e [] [_] h);exact af 0x432840003d54090f6392a11c131d [] [_,_,_] this
theorem nW{x y:List Nat}(hx:x.all (λc=>M0 (0<c)&&M0 (c<256))=Mh)(hy:y.all (λc=>M0 (0<c)&&M0 (c<256))=Mh)(h:x.foldl (λa c=>a*256+c) 0=y.foldl (λa c=>a*256+c) 0):y.length<=x.length:=by
 induction y with
 |nil=>simp
 |cons c r=>simp only[Ru,Oe,decide_eq_true_eq] at hy;have h1:=aas c r hy.1.1;have h2:=mn x hx;rw[h] at h2;have h3:256^r.length<256^x.length:=Sq h1 h2;have:=(Nat.pow_lt_pow_iff_right (a:=256) (Mr _ _)).mp h3;rw[MV];exact this
theorem ou:∀{x y:List Nat},x.all (λc=>M0 (0<c)&&M0 (c<256))=Mh->y.all (λc=>M0 (0<c)&&M0 (c<256))=Mh-> x.length=y.length->x.foldl (λa c=>a*256+c) 0=y.foldl (λa c=>a*256+c) 0->x=y
 |[],[],_,_,_,_=>rfl
 |[],_::_,_,_,h,_=>by cases h
 |_::_,[],_,_,h,_=>by cases h
 |c::x,d::y,hx,hy,hl,h=>by
  simp only[Ru,Oe,decide_eq_true_eq] at hx hy;rw[MV,MV] at hl;have hl:x.length=y.length:=af 0x2108009c2000138a11c4133e94d4150f [] [_,_] hl;rw[PM,PM,fO x,fO y,hl] at h;have h1:=mn x (by simpa using hx.2);have h2:=mn y (by simpa using hy.2);rw[hl] at h1;generalize 256^y.length=B at*;generalize hX:V6 (λa c=>a*256+c) 0 x=X at*;generalize hY:V6 (λa c=>a*256+c) 0 y=Y at*;have hc:c=d:=by
   simp only[Nat.zero_mul,Om] at h;have e1:(c*B+X)/B=c:=by rw[QS,Nat.mul_add_div (jR h1 rfl),Nat.div_eq_of_lt h1];exact rfl
   have e2:(d*B+Y)/B=d:=by rw[QS,Nat.mul_add_div (by lia),Nat.div_eq_of_lt h2];exact rfl
   rw[<-e1,<-e2,h]
  subst hc;have:X=Y:=af 0x8420027080004ea42ba42b4295d4150f [] [_,_,_] h;rw[ou (x:=x) (y:=y) (by simpa using hx.2) (by simpa using hy.2) hl (by rw[hX,hY];exact this)]
variable{n:Nn}
theorem lB{x:Nn}(hn:enc n≠0)(h:enc x=enc n):x=n:=by
 unfold enc at h hn;split at hn
 ·rename_i h2;split at h;·rename_i h1;have e1:=nW h1 h2 h;have e2:=nW h2 h1 h.symm;have:=ou h1 h2 (Ug e2 e1) h;cases x;cases n;simp only[Str.mk.injEq];exact Q8.mp this
  ·exact absurd h.symm hn
 ·exact absurd rfl hn
abbrev Loc:=List (Nat×Md)
noncomputable def gf:Loc->Nat->Option Md
 |[],_=>Mq
 |(j,v)::r,k=>if j=k then Mc v else gf r k
noncomputable def sf:Loc->Nat->Md->Loc
 |[],k,v=>[(k,v)]
 |(j,u)::r,k,v=>if j=k then(j,v)::r else(j,u)::sf r k v
theorem jC(l:Loc)(k j:Nat)(v:Md):gf (sf l k v) j=if j=k then Mc v else gf l j:=by
 induction l with
 |nil=>
  show(if k=j then Mc v else Mq)=if j=k then Mc v else Mq
  by_cases h:k=j;·rw[if_pos h,if_pos h.symm]
  ·rw[if_neg h,if_neg (Qi h)]
 |cons p r ih=>
  obtain⟨i,u⟩:=p;show gf (if i=k then(i,v)::r else(i,u)::sf r k v) j=if j=k then Mc v else if i=j then Mc u else gf r j
  by_cases h:i=k
  ·rw[if_pos h];show(if i=j then Mc v else gf r j)=_;by_cases e:i=j;·rw[if_pos e,if_pos (e.symm.trans h)]
   ·rw[if_neg e,if_neg (λz=>e (h.trans z.symm)),if_neg e]
  ·rw[if_neg h];show(if i=j then Mc u else gf (sf r k v) j)=_;by_cases e:i=j;·rw[if_pos e,if_neg (λz=>h (e.trans z)),if_pos e]
   ·rw[if_neg e,ih,if_neg e]
inductive Cell where
 |Wu(C:Mk)(fs:Loc)
 |list(xs:List Md)
 |tup(xs:List Md)
 |WJ(b:List UInt8)
 |W8(m:List (Int×Md))
abbrev Sg:=Mk->Option Cell
noncomputable def upd(J:Sg)(a:Mk)(c:Cell):Sg:=λb=>if b=a then Mc c else J b
theorem aa(J:Sg)(a:Mk)(c:Cell):upd J a c a=Mc c:=if_pos rfl
variable{b:Mk}
theorem ag(J:Sg)(c:Cell)(h:b≠a):upd J a c b=J b:=if_neg h
theorem zj(J:Sg)(a:Mk)(c c':Cell):upd (upd J a c) a c'=upd J a c':=by funext b;unfold upd;by_cases h:b=a<;>simp[h]
abbrev HM:=Mk->Option P8
structure bA where
 o:Mk->Option P8
 fr:Mk->Prop
noncomputable def Kept(x:Prop)(h:Ox)(a:Mk)(o:P8):Prop:=∃sl,h.get? a=Mc {o with slots:=sl}/\(¬x->sl=o.slots)
variable{o:P8}{x:Prop}{h:Ox}
theorem Kept.of(e:h.get? a=Mc o):Kept x h a o:=⟨o.slots,e,λb=>rfl⟩
variable{h':Ox}
theorem Kept.to(k:Kept x h a o)(e:∀o',h.get? a=Mc o'->h'.get? a=Mc o'):Kept x h' a o:=⟨k.choose,e _ k.choose_spec.1,k.choose_spec.2⟩
theorem Kept.at(k:Kept x h a o)(n:¬x):h.get? a=Mc o:=by refine ae k λsl z8=>?_;rw[z8.1,z8.2 n]
inductive Own where
 |free
 |W0
 |loc
 |obj
 |part(a:Mk)
noncomputable def dJ(m:Nn->Option Md)(fs:Loc):Prop:=∀x,(m x).map er=gf fs (enc x)
variable{fs:Loc}
theorem dJ.set{m:Nn->Option Md}(h:dJ m fs)(hn:enc n≠0):dJ (λx=>if x=n then Mc v else m x) (sf fs (enc n) (er v)):=λx=>by
 rw[jC];by_cases e:x=n;·subst e;simp
 ·show Option.map er (if x=n then Mc v else m x)=_;rw[if_neg e,if_neg (λq=>e (lB hn q))];exact h x
variable{u:Md}
theorem dJ.get{m:Nn->Option Md}(h:dJ m fs)(e:gf fs (enc n)=Mc u):∃v,m n=Mc v/\er v=u:=by have:=h n;rw[e] at this;refine ae (MP.mp this) λv z7=>?_;obtain⟨a,b⟩:=z7;exact⟨v,a,b⟩
theorem dJ.none{m:Nn->Option Md}(h:dJ m fs)(e:gf fs (enc n)=Mq):m n=none:=by have:=h n;rw[e] at this;exact TZ.mp this
noncomputable def DI(h:Ox)(a:Mk)(kvs:List (Int×Md)):Prop:=
 ∃es,h.get? a=Mc (⟨.type "dict",Mq,.dict es kvs.length,#[]⟩:P8)/\(∀(prog:R8)(w:O6),KeysOf (Sd prog w) es/\Pairs (Sd prog w) es.toList kvs)/\(kvs.map (·.1)).Nodup
variable{kvs:List (Int×Md)}
theorem DI.at(x:DI h a kvs)(prog:R8)(w:O6):h.DictAt (Sd prog w) a kvs kvs.length:=by refine ae x λes z6=>?_;exact⟨_,es,z6.1,⟨rfl,rfl,rfl⟩,rfl,(z6.2.1 prog w).1,(z6.2.1 prog w).2,z6.2.2⟩
inductive xI(C:Mk)(fs:Loc)(m:Nn->Option Md)(es:Array Q9):Prop where
 |mk(map:dJ m fs)
  (handed:∀x v,m x=Mc v->handedIn v=Mh)
  (le:es.size<=fs.length)
  (le2:es.size<=101)
  (AA:∀c,(gf fs c).isSome=Mh->AA C c=Mh)
noncomputable def R(g:Mk->Own)(h:Ox)(a:Mk):Cell->Prop
 |.Wu C fs=>yq λd m es n=>h.get? a=Mc ⟨.ref C,Mc d,.plain,#[]⟩/\g d=.part a/\h.Ns d m/\h.get? d=Mc ⟨.type "dict",Mq,.dict es n,#[]⟩/\xI C fs m es
 |.list xs=>bM λys n=>h.get? a=Mc ⟨.type "list",Mq,.seq ys n,#[]⟩/\ys.toList.map er=xs
 |.tup xs=>bM λys n=>h.get? a=Mc ⟨.type "tuple",Mq,.seq ys n,#[]⟩/\ys.toList.map er=xs
 |.WJ b=>h.get? a=Mc ⟨.type "bytearray",Mq,.bytearray b.toArray 0,#[]⟩
 |.W8 m=>∃kvs,DI h a kvs/\kvs.map (λp=>(p.1,er p.2))=m
structure Inv(Φ:bA)(J:Sg)(g:Mk->Own)(h:Ox):Prop where
 fz:∀a o,Φ.o a=Mc o->Kept (Φ.fr a) h a o/\g a=.W0
 frs:∀a,Φ.fr a->g a=.W0∨g a=.loc
 cells:∀a c,J a=Mc c->g a=.obj/\R g h a c
 used:∀a,g a≠.free->∃o,h.get? a=Mc o
variable{g:Mk->Own}
theorem R.to{g':Mk->Own}{c:Cell}(x:R g h a c)(ha:∀o,h.get? a=Mc o->h'.get? a=Mc o)(hd:∀d,g d=.part a->g' d=.part a/\∀o,h.get? d=Mc o->h'.get? d=Mc o):R g' h' a c:=by
 induction c with
 |Wu C fs=>refine vx x λd m es n z5=>?_;have e:=hd d z5.2.1;refine ae z5.2.2.1 λo z2=>?_;refine ae z2 λes' z3=>?_;refine ae z3 λep z4=>?_;have q:=z4.1;have r:=z4.2;exact⟨d,m,es,n,ha _ z5.1,e.1,⟨o,es',ep,e.2 _ q,r⟩,e.2 _ z5.2.2.2.1,z5.2.2.2.2⟩
 |list xs=>refine bI x λys n h1=>?_;exact⟨ys,n,ha _ h1.1,h1.2⟩
 |tup xs=>refine bI x λys n h1=>?_;exact⟨ys,n,ha _ h1.1,h1.2⟩
 |WJ b=>exact ha _ x
 |W8 m=>refine ae x λkvs z1=>?_;refine ae z1.1 λes h1=>?_;exact⟨kvs,⟨es,ha _ h1.1,h1.2⟩,z1.2⟩
theorem R.keeps{c:Cell}(x:R g h a c)(k:∀b o,h.get? b=Mc o->h'.get? b=Mc o):R g h' a c:=x.to (k a) λd hd=>⟨hd,k d⟩
variable{x:Own}{Φ Φ':bA}{J J':Sg}
section
variable{g':Mk->Own}
theorem Inv.tr(S:Mk->Prop)(I:Inv Φ J g h)(out:∀b,¬S b->g' b=g b/\Φ'.o b=Φ.o b/\(Φ'.fr b↔Φ.fr b)/\J' b=J b)(keep:∀b o,¬S b->h.get? b=Mc o->h'.get? b=Mc o)(part:∀b a,S b->g b=.part a->S a)(fz:∀b o,S b->Φ'.o b=Mc o->Kept (Φ'.fr b) h' b o/\g' b=.W0)(frs:∀b,S b->Φ'.fr b->g' b=.W0∨g' b=.loc)(cells:∀b c,S b->J' b=Mc c->g' b=.obj/\R g' h' b c)(used:∀b,S b->g' b≠.free->∃o,h'.get? b=Mc o):Inv Φ' J' g' h' where
 fz b o e:=(Se (S b)).elim (λq=>fz b o q e) λq=>by have t:=out b q;rw[propext t.2.2.1,t.1];have:=I.1 b o (t.2.1▸e);exact⟨this.1.to λo=>keep b o q,this.2⟩
 frs b hb:=(Se (S b)).elim (λq=>frs b q hb) λq=>by have t:=out b q;rw[t.1];exact I.2 b (t.2.2.1.mp hb)
 cells b c e:=(Se (S b)).elim (λq=>cells b c q e) λq=>by have t:=out b q;have:=I.3 b c (t.2.2.2▸e);refine⟨t.1.trans this.1,this.2.to (λo=>keep b o q) λd hd=>?_⟩;have hs:¬S d:=λz=>q (part d b z hd);exact⟨(out d hs).1.trans hd,λo=>keep d o hs⟩
 used b hb:=(Se (S b)).elim (λq=>used b q hb) λq=>by rw[(out b q).1] at hb;exact(I.4 b hb).elim λo ho=>⟨o,keep b o q ho⟩
theorem Inv.at{c:Cell}(I:Inv Φ J g h)(hg:g a=.obj)(al:∀b o,h.get? b=Mc o->∃o',h'.get? b=Mc o')(same:∀b,b≠a->g b≠.part a->h'.get? b=h.get? b)(r:R g h' a c):Inv Φ (upd J a c) g h':=by
 have no:∀b,(b=a∨g b=.part a)->g b≠.W0/\g b≠.loc/\(g b=.obj->b=a):=λb q=>by
  rcases q with q|q;·rw[q,hg];exact⟨nofun,nofun,λf=>rfl⟩
  ·rw[q];exact⟨nofun,nofun,nofun⟩
 refine I.tr (λb=>b=a∨g b=.part a) (λb q=>⟨rfl,rfl,Pl,ag _ _ λz=>q (.inl z)⟩) (λb o q e=>(same b (λz=>q (.inl z)) λz=>q (.inr z)).trans e)
  (λb d q e=>?_) (λb o q e=>absurd (I.1 b o e).2 (no b q).1) (λb q e=>(I.2 b e).elim (λz=>absurd z (no b q).1) λz=>absurd z (no b q).2.1) (λb c' q e=>?_) λb f hb=>(I.4 b hb).elim λo ho=>al b o ho
 ·rcases q with q|q;·rw[q,hg] at e;cases e
  ·rw[q] at e;cases e;exact .inl rfl
 ·by_cases z:b=a;·subst z;rw[aa] at e;cases e;exact⟨hg,r⟩
  ·rw[ag _ _ z] at e;exact absurd ((no b q).2.2 (I.3 b c' e).1) z
theorem Inv.keeps(I:Inv Φ J g h)(k:∀b o,h.get? b=Mc o->h'.get? b=Mc o):Inv Φ J g h' where
 fz b o e:=⟨(I.1 b o e).1.to (k _),(I.1 b o e).2⟩
 frs:=I.2
 cells b c e:=⟨(I.3 b c e).1,(I.3 b c e).2.keeps k⟩
 used b hb:=(I.4 b hb).elim λo ho=>⟨o,k b o ho⟩
theorem i8{q:P8}(hb:h.get? b=Mc q):(h.push o).get? b=Mc q:=MD _ hb
theorem Inv.Wx(I:Inv Φ J g h)(o:P8):Inv Φ J g (h.push o):=I.keeps λa a e=>MD _ e
theorem Inv.nC(I:Inv Φ J g h)(hg:g a=.free):J a=none:=
 QQ.mpr λc q=>Own.noConfusion (hg.symm.trans (I.3 a c q).1)
theorem Inv.nO(I:Inv Φ J g h)(hg:g a=.free):Φ.o a=none:=
 QQ.mpr λc q=>Own.noConfusion (hg.symm.trans (I.1 a c q).2)
theorem Inv.fresh(I:Inv Φ J g h)(ha:h.objs.size<=a):J a=Mq/\Φ.o a=Mq/\g a=.free:=by have hg:g a=.free:=O7 λq=>(I.4 a q).elim λo ho=>absurd (Nz ho) (PF.mpr ha);exact⟨I.nC hg,I.nO hg,hg⟩
theorem Inv.XZ(I:Inv Φ J g h)(ha:h.objs.size<=a):¬Φ.fr a:=λq=>by have:=I.2 a q;rw[(I.fresh ha).2.2] at this;rcases this with z|z<;>cases z
theorem Inv.aai(I:Inv Φ J g h)(ha:g a≠.obj):J a=none:=by
 cases q:J a with
 |none=>rfl
 |some c=>exact absurd (I.3 a c q).1 ha
theorem Inv.Z2(I:Inv Φ J g h)(ha:g a≠.W0):Φ.o a=none:=by
 cases q:Φ.o a with
 |none=>rfl
 |some c=>exact absurd (I.1 a c q).2 ha
noncomputable def ij(g:Mk->Own)(a:Mk)(x:Own):Mk->Own:=λb=>if b=a then x else g b
theorem bi:ij g a x a=x:=if_pos rfl
theorem c6(h:b≠a):ij g a x b=g b:=if_neg h
theorem Inv.Y6(I:Inv Φ J g h)(hf:g a=.free)(ha:∃o,h.get? a=Mc o):Inv Φ J (ij g a x) h:=by
 have nf:¬Φ.fr a:=λq=>by have:=I.2 a q;rw[hf] at this;rcases this with z|z<;>cases z
 refine I.tr (·=a) (λb q=>⟨c6 q,rfl,Pl,rfl⟩) (λb b b e=>e) (λb d q e=>by rw[q,hf] at e;cases e) (λb o q e=>?_) (λb q e=>absurd (q▸e) nf) (λb c q e=>?_) λb q b=>q▸ha;·exact cns ((I.nO (q▸hf)).symm.trans e)
 ·exact cns ((I.nC (q▸hf)).symm.trans e)
theorem Inv.cell{c:Cell}(I:Inv Φ J g h)(hf:g a=.obj)(hn:J a=Mq)(r:R g h a c):Inv Φ (upd J a c) g h where
 fz:=I.1
 frs:=I.2
 cells b c' e:=by
  by_cases q:b=a;·subst q;rw[aa] at e;cases e;exact⟨hf,r⟩
  ·rw[ag _ _ q] at e;exact I.3 b c' e
 used:=I.4
theorem Inv.Xe(I:Inv Φ J g h)(o:P8)(c:Cell)(ho:o.isFreed=Mg)(r:∀g' h',h'.get? h.objs.size=Mc o->R g' h' h.objs.size c):Inv Φ (upd J h.objs.size c) (ij g h.objs.size .obj) (h.push o):=by have F:=I.fresh (MC _);have I2:=(I.Wx o).Y6 (x:=.obj) F.2.2 ⟨o,MR _ ho⟩;exact I2.cell bi F.1 (r _ _ (MR _ ho))
theorem Inv.Zn(I:Inv Φ J g h)(hg:g a=.loc∨g a=.W0)(hl:∃o,h.get? a=Mc o)(out:∀b,b≠a->Φ'.o b=Φ.o b/\(Φ'.fr b↔Φ.fr b))(ho:∀o,Φ'.o a=Mc o->x=.W0/\h.get? a=Mc o)(hx:Φ'.fr a->x=.W0∨x=.loc):Inv Φ' J (ij g a x) h:=by
 refine I.tr (·=a) (λb q=>⟨c6 q,(out b q).1,(out b q).2,rfl⟩) (λf f f e=>e) (λb d q e=>?_) (λb o q e=>?_) (λb q e=>?_) (λb c q e=>?_) λb q f=>q▸hl;·subst q;rcases hg with z|z<;>rw[z] at e<;>cases e
 ·subst q;exact⟨.of (ho o e).2,bi.trans (ho o e).1⟩
 ·subst q;rw[bi];exact hx e
 ·subst q;have:=(I.3 b c e).1;rcases hg with z|z<;>rw[z] at this<;>cases this
end
variable{α:Type}
theorem XX{vs:List α}(h:vs.length=1):∃v,vs=[v]:=by
 cases vs with
 |nil=>cases h
 |cons v l=>induction l with
  |nil=>exact⟨v,rfl⟩
  |cons=>cases h
theorem dM{vs:List α}(h:vs.length=2):bM λv u=>vs=[v,u]:=by
 cases vs with
 |nil=>cases h
 |cons v l=>refine ae (XX (Sf h)) λu z11=>?_;rw[z11];exact⟨v,u,rfl⟩
variable{n:Nat}
theorem cm(h:∀i,i<n->p i)(hn:p n):∀i,i<n+1->p i:=λi hi=>(Nat.lt_succ_iff_lt_or_eq.mp hi).elim (h i) λe=>e▸hn
theorem uQ:∀i,i<0->p i:=λi h=>absurd h (Qy i)
theorem iL(h0:p 0)(h1:p 1)(h2:p 2)(h3:p 3):∀i,i<4->p i:=cm (cm (cm (cm uQ h0) h1) h2) h3
variable{b:Builtin}{p pos:Qv}{k:Md->RV Unit}{e value:MX}{x name attr:Nn}{w:O6}{β:Type}{A:O8}{E Q:Md->Ml->Prop}{s:Ml}{env:VC}{vs rest first:List Md}{f:Md}{prog:R8}{id:String}{args:List (Bool×RV Md)}{whole:RV Md}{K:PO}{ox:P8}{od:Option P8}{expr:Bool}
namespace Wc
noncomputable def Yl(id:String):Bool:=Builtin.Bytes.decodersThatHold.contains id||(["bytearray.__contains__", "bytearray.__mod__", "bytearray.__rmod__", "_struct.pack_into.held", "bytearray.find.held"]:List String).contains id
noncomputable def dec:UW->Bool
 |.builtin id _=>Yl id
 |_=>Mg
noncomputable def Cl(l:List (UW×Qv)):Prop:=∀c∈l,dec c.1=Mg
theorem Cl.cons{c:UW}{l:List (UW×Qv)}(h:dec c=Mg)(k:Cl l):Cl ((c,p)::l):=λx hx=>by
 rcases MS.mp hx with q|q;·rw[q];exact h
 ·exact k x q
noncomputable def Wi(M:RW)(A:O8)(t:RV α)(Q:α->Ml->Prop)(E:Md->Ml->Prop)(s:Ml):Prop:=
 ∀Γ p,Γ.In A->dec Γ.code=Mg->Cl Γ.below->Sem.wp M Γ t (λa b s'=>Q a s') (λe b s'=>E e s') p s
noncomputable def Wv(M:RW)(A:O8)(c:UW)(R:Ph->Ml->Prop)(s:Ml):Prop:=
 ∀Γ p,Γ.code=c->Γ.Below A->Cl Γ.below->wpCode M Γ R p s
section
variable{M:RW}{R:Ph->Ml->Prop}
theorem of{t:RV α}{Q:α->Ml->Prop}(h:Mx M A t Q E s):Wi M A t Q E s:=λΓ p a b b=>h Γ p a
theorem aag{c:UW}(h:VQ M A c R s):Wv M A c R s:=λΓ p a b d=>h Γ p a b
theorem wpAny_pure{a:α}{Q:α->Ml->Prop}(h:Q a s):Wi M A (NN a) Q E s:=of (Mz h)
theorem Wo{Q:Unit->Ml->Prop}(h:Q () s):Wi M A (OV pos) Q E s:=of (QR h)
theorem WU{t:String}{Q:Unit->Ml->Prop}(h:Q () s):Wi M A (rule t) Q E s:=of (Px h)
theorem Xl{Q:Unit->Ml->Prop}(h:Q () s):Wi M A point Q E s:=of (U6 h)
theorem Wm{t:RV α}{Q Q':α->Ml->Prop}{E':Md->Ml->Prop}(h:Wi M A t Q E s)(hQ:∀a s,Q a s->Q' a s)(hE:∀e s,E e s->E' e s):Wi M A t Q' E' s:=
 λΓ p a b c=>RC M Γ t (λa d s=>hQ a s) (λe d s=>hE e s) p s (h Γ p a b c)
theorem Wh{m:RV α}{f:α->RV β}{Q:β->Ml->Prop}(h:Wi M A m (λa s'=>Wi M A (f a) Q E s') E s):Wi M A (m>>=f) Q E s:=λΓ p a b c=>by rw[Sem.wp_bind'];exact RC M Γ m (λx p' s' h'=>h' Γ p' a b c) (λd d d h'=>h') p s (h Γ p a b c)
theorem Xk{m:RV α}{Q:α->Ml->Prop}(h:Wi M A m Q (λe s'=>Wi M A (k e) (λd s''=>E e s'') E s') s):Wi M A (m.onRaise k) Q E s:=λΓ p a b c=>by rw[Sem.wp_onRaise];exact RC M Γ m (λd d d h'=>h') (λe p' s' h'=>h' Γ p' a b c) p s (h Γ p a b c)
theorem Wn{m:RV α}{Q:α->Ml->Prop}(h:Wi M A m Q E s):Wi M A (Pm vs m) Q E s:=
 λΓ p a b c=>by rw[Sem.wp_holding];exact h Γ p a b c
theorem Z5{m:RV α}{Q:α->Ml->Prop}(h:Wi M A m Q E s):Wi M A (m.keep vs) Q E s:=
 λΓ p a b c=>by rw[Sem.wp_keep];exact h Γ p a b c
theorem bv{m:RV Md}(h:Wi M A m Q E s):Wi M A (operate vs m) Q E s:=
 λΓ p a b c=>by rw[Sem.wp_operate];exact h Γ p a b c
theorem XQ{Q:Unit->Ml->Prop}(h:Wi M A (VD env x v) Q E s):Wi M A (Uu env x v) Q E s:=
 λΓ p a b c=>by rw[Sem.wp_bindName];exact h Γ p a b c
theorem WO{c:UW}{R':Ph->Ml->Prop}(h:Wv M A c R s)(hR:∀r s,R r s->R' r s):Wv M A c R' s:=
 λΓ p hc hΓ k=>wpCode_mono hR (h Γ p hc hΓ k)
set_option backward.match.sparseCases true in theorem XT{c:UW}(hc:Wv M A c (λr s'=>match r with|.ok (.ret v)=>Q v s'|.ok _=>False|.error e=>E e s') s):Wi M A (runValue c) Q E s:=
 λΓ p a b k=>by rw[Sem.wp_runValue];exact hc _ p rfl (a.enter c Mq p (by intro x;cases x)) (Cl.cons b k)
set_option backward.match.sparseCases true in theorem WN{pos:List Md}{kw:List (Nn×Md)}(hc:Wv M A (.call f ⟨pos,kw⟩) (λr s'=>match r with|.ok (.ret v)=>Q v s'|.ok _=>False|.error e=>E e s') s):Wi M A (OG f pos kw) Q E s:=XT hc
theorem mw{c:UW}{Q:T7->Ml->Prop}(hc:Wv M A c (λr s'=>match r with|.ok f=>Q f s'|.error e=>E e s') s):Wi M A (run c Mq) Q E s:=
 λΓ p a b k=>by rw[Sem.wp_run];exact hc _ p rfl (a.enter c Mq p (by intro x;cases x)) (Cl.cons b k)
theorem YN{c:UW}{Q:T7->Ml->Prop}(hc:Wv M A c (λr s'=>match r with|.ok f=>Q f s'|.error _=>False) s):Wi M A (runOwn c env) Q E s:=by
 unfold runOwn;refine Xk (mw (WO hc λr s' h=>?_));induction r with
 |ok f=>exact h
 |error e=>exact h.elim
theorem WB{c:UW}(hd:dec c=Mg)(h:Wi M (A.under c) (M.den c) (λfin s'=>match fin with|.done f=>R (.ok f) s'|.again c'=>c'.quiet=Mh/\Wv M A c' R s') (λe s'=>R (.error e) s') s):Wv M A c R s:=λΓ p hc hΓ k=>by
 rw[wpCode_iff_wp,hc];refine RC M Γ _ (λfin p' s' h'=>?_) (λa a a h'=>h') p s (h Γ p (hc▸hΓ.in) (by rw[hc];exact hd) k);induction fin with
 |done f=>exact h'
 |again c'=>exact⟨h'.1,h'.2 (Γ.goto c') p' rfl (hΓ.goto c') k⟩
def LQ(M:RW)(A:O8)(c:UW)(R:Ph->Ml->Prop)(I:Nat->Ml->Prop)(n:Nat):Fin->Ml->Prop
 |.done f,s'=>R (.ok f) s'
 |.again c',s'=>(c'=c/\∃m,m<n/\I m s')∨(c'.quiet=Mh/\Wv M A c' R s')
theorem Yg{c:UW}(hd:dec c=Mg)(hq:c.quiet=Mh)(I:Nat->Ml->Prop)(turn:∀n s,I n s->Wi M (A.under c) (M.den c) (LQ M A c R I n) (λe s'=>R (.error e) s') s)(n:Nat)(h:I n s):Wv M A c R s:=by
 induction n using Nat.strongRecOn generalizing s with
 |ind n ih=>
  refine WB hd (Wm (turn n s h) (λfin s' hf=>?_) λa a h'=>h');induction fin with
  |done f=>exact hf
  |again c'=>
   rcases hf with⟨rfl,m,hm,hI⟩|hf;·exact⟨hq,ih m hm hI⟩
   ·exact hf
end
section
variable{R:Ph->Ml->Prop}
noncomputable abbrev N0:Md->Ml->Prop:=λa a=>False
theorem Xp{args:Args}(hb:P9 TA id=Mc b)(hd:Yl id=Mg)(h:Wi (Mj prog w) (A.under (.builtin id args)) (b args) (λfin s'=>match fin with|.done f=>R (.ok f) s'|.again c'=>c'.quiet=Mh/\Wv (Mj prog w) A c' R s') (λe s'=>R (.error e) s') s):Wv (Mj prog w) A (.builtin id args) R s:=by refine WB hd ?_;show Wi _ _ (match P9 TA id with|some b=>b args|none=>Uv ((withoutEnding? id "#data").getD id)) _ _ s;rw[hb];exact h
theorem WG{args:Args}(hq:plainId id=Mh)(hb:P9 TA id=Mc b)(hd:Yl id=Mg)(h:Wi (Mj prog w) A.in1 (NP id args) (λa s₁=>Wi (Mj prog w) A.in1 (b args) (λfin s'=>match fin with|.done f=>R (.ok f) s'|.again c'=>c'.quiet=Mh/\Wv (Mj prog w) A c' R s') (λe s'=>R (.error e) s') s₁) (λe s'=>R (.error e) s') s):Wv (Mj prog w) A (.call (.builtin id) args) R s:=by refine WB rfl ?_;show Wi _ A.in1 (do NP id args;VR (.builtin id args)) _ _ s;refine Wh (Wm h (λa s₁ h₁=>wpAny_pure ⟨plainId_quiet hq args,Xp hb hd ?_⟩) λa a z=>z);rw[RD hq args];exact h₁
set_option backward.match.sparseCases true in theorem XO{args:List Md}(hk:NP id ⟨args,[]⟩=NN ())(hp:plainId id=Mh)(hd:Yl id=Mg)(hb:P9 TA id=Mc b)(hc:Wi (Mj prog w) A.in1 (b ⟨args,[]⟩) (λfin s'=>∃v,fin=.done (.ret v)/\Q v s') E s):Wi (Mj prog w) A (OG (.builtin id) args) Q E s:=by refine WN (WG hp hb hd ?_);rw[hk];exact wpAny_pure (Wm hc (λfin s' h'=>by refine ae h' λv z3=>?_;obtain rfl:=z3.1;exact z3.2) λa a h'=>h')
theorem ZQ{l op r pos}(h:Wi (Mj prog w) A (NV l env) (λa s₁=>Wi (Mj prog w) A (NV r env) (λb s₂=>Wi (Mj prog w) A (binaryOp op a b) Q E s₂) E s₁) E s):Wi (Mj prog w) A (NV (.BinOp l op r pos) env) Q E s:=by rw[eval_BinOp];exact Wh (Wm h (λa s₁ h₁=>Wh (Wn (Wm h₁ (λb s₂ h₂=>Wh (Wo (bv h₂))) λc c z=>z))) λc c z=>z)
theorem Zs{l op r pos}(h:Wi (Mj prog w) A (NV l env) (λa s₁=>Wi (Mj prog w) A (NV r env) (λb s₂=>Wi (Mj prog w) A (Qj op a b) Q E s₂) E s₁) E s)(hm:Oz op r=Mg):Wi (Mj prog w) A (NV (.Compare l [op] [r] pos) env) Q E s:=by rw[eval_Compare1,QM hm];exact Wh (Wm h (λa s₁ h₁=>Wh (Wn (Wm h₁ (λb s₂ h₂=>Wh (Wo (bv h₂))) λc c z=>z))) λc c z=>z)
theorem Yu{l op r pos whole}{Q:Bool->Ml->Prop}(h:Wi (Mj prog w) A (NV l env) (λa s₁=>Wi (Mj prog w) A (NV r env) (λb s₂=>Wi (Mj prog w) A (Qj op a b) (λc s₃=>Wi (Mj prog w) A (truthy c) Q E s₃) E s₂) E s₁) E s)(hm:Oz op r=Mg):Wi (Mj prog w) A (QB (.Compare l [op] [r] pos) env whole) Q E s:=by rw[isTrue_Compare1,QM hm];exact Wh (Wm h (λa s₁ h₁=>Wh (Wn (Wm h₁ (λb s₂ h₂=>Wh (Wo (Wh (bv (Wm h₂ (λc s₃ h₃=>Wn h₃) λd d z=>z))))) λd d z=>z))) λd d z=>z)
theorem YJ{op:UnaryOp}{x:MX}(h:Wi (Mj prog w) A (NV x env) (λv s₁=>Wi (Mj prog w) A (unaryOp op v) Q E s₁) E s):Wi (Mj prog w) A (NV (.UnaryOp op x pos) env) Q E s:=by rw[arm_eval_UnaryOp];exact Wh (Wm h (λv s₁ h₁=>Wh (Wo (Wn h₁))) λa a z=>z)
theorem ZP{test body orelse:MX}(h:Wi (Mj prog w) A (QB test env (NV test env)) (λb s₁=>if b then Wi (Mj prog w) A (NV body env) Q E s₁ else Wi (Mj prog w) A (NV orelse env) Q E s₁) E s):Wi (Mj prog w) A (NV (.IfExp test body orelse pos) env) Q E s:=by rw[arm_eval_IfExp];refine Wh (Wm h (λb s₁ h₁=>?_) λa a z=>z);cases b<;>exact h₁
theorem Za{x:MX}{Q:Bool->Ml->Prop}(h:Wi (Mj prog w) A (QB x env (NV x env)) (λb s₁=>Q (!b) s₁) E s):Wi (Mj prog w) A (QB (.UnaryOp .Not x pos) env whole) Q E s:=by rw[arm_isTrue_UnaryOp];exact Wh (Wm h (λb s₁ h₁=>wpAny_pure h₁) λa a z=>z)
theorem YM{e:MX}{Q:Bool->Ml->Prop}(h:Wi (Mj prog w) A whole (λv s₁=>Wi (Mj prog w) A (truthy v) Q E s₁) E s)
  (he:QB e env whole=(do let v <-whole;OV e.pos;Pm [v] (truthy v)):=by rfl):Wi (Mj prog w) A (QB e env whole) Q E s:=by
 rw[he]
 exact Wh (Wm h (λv s₁ h₁=>Wh (Wo (Wn h₁))) λa a z=>z)
theorem YL{op:Uw}{values:List MX}{Q:Bool->Ml->Prop}(h:Wi (Mj prog w) A (VY op values env) Q E s):Wi (Mj prog w) A (QB (.BoolOp op values pos) env whole) Q E s:=by rw[arm_isTrue_BoolOp];exact h
set_option backward.match.sparseCases true in theorem Ys{x:MX}{rest:List MX}{Q:Bool->Ml->Prop}(h:Wi (Mj prog w) A (QB x env (NV x env)) (λb s₁=>if b then Wi (Mj prog w) A (VY .And rest env) Q E s₁ else Q Mg s₁) E s):Wi (Mj prog w) A (VY .And (x::rest) env) Q E s:=by
 show Wi (Mj prog w) A (do match BoolOp.And,<-QB x env (NV x env) with|.And,Mg=>NN Mg|.Or,Mh=>NN Mh|_,_=>VY .And rest env) Q E s;refine Wh (Wm h (λb s₁ h₁=>?_) λa a z=>z);cases b;·exact wpAny_pure h₁
 ·exact h₁
theorem Xb{Q:List Md->Ml->Prop}(h:Q [] s):Wi (Mj prog w) A (Qz (Ra pos (OL [] env))) Q E s:=of (PySem.wpAny_items_nil h)
theorem WR{rest:List MX}{Q:List Md->Ml->Prop}(h:Wi (Mj prog w) A (NV e env) (λv s₁=>Wi (Mj prog w) A (Qz (Ra pos (OL rest env))) (λvs s₂=>Q (v::vs) s₂) E s₁) E s)(he:OL (e::rest) env=(Mg,NV e env)::OL rest env:=by rfl):Wi (Mj prog w) A (Qz (Ra pos (OL (e::rest) env))) Q E s:=by
 rw[he];show Wi (Mj prog w) A (do
  let v <-NV e env
  let here <-(NN [v]:RV (List Md))
  return here++(<-Pm here (Qz (Ra pos (OL rest env))))) Q E s
 exact Wh (Wm h (λv s₁ h₁=>Wh (wpAny_pure (Wh (Wn (Wm h₁ (λvs s₂ h₂=>wpAny_pure h₂) λa a z=>z))))) λa a z=>z)
theorem ZS{elts:List MX}{k:Nat}(h:Wi (Mj prog w) A (Qz (Ra pos (OL elts env))) (λvs s₁=>Wi (Mj prog w) A (Ux vs) Q E s₁) E s):Wi (Mj prog w) A (NV (.Tuple elts k pos) env) Q E s:=by rw[arm_eval_Tuple];exact Wh (Wo (Wh h))
theorem XU{x:RV Md}{rest:List (Bool×RV Md)}{Q:Args->Ml->Prop}(h:Wi (Mj prog w) A (Qz ((Mg,x)::rest)) (λvs s'=>Q ⟨vs,[]⟩ s') E s):Wi (Mj prog w) A (Vo f Mh ((Mg,x)::rest) []) Q E s:=by show Wi (Mj prog w) A (Qz ((Mg,x)::rest)>>=_) Q E s;refine Wh (Wm h (λvs s' h'=>?_) λa a z=>z);exact Wn (Wh (wpAny_pure (Wh (wpAny_pure (wpAny_pure h')))))
theorem pf{Q:Args->Ml->Prop}(h:Q ⟨[],[]⟩ s):Wi (Mj prog w) A (Vo f Mh [] []) Q E s:=of (evalArgs_nil3 h)
theorem pw{Q:Args->Ml->Prop}(hp:args.any (·.1)=Mg)(h:Wi (Mj prog w) A (Qz args) (λvs s'=>Q ⟨vs,[]⟩ s') E s):Wi (Mj prog w) A (Vo f Mh args []) Q E s:=by
 induction args with
 |nil=>intro Γ p a b c;have h':Q ⟨[],[]⟩ s:=h Γ p a b c;exact pf (E:=E) h' Γ p a b c
 |cons p r=>obtain⟨b,t⟩:=p;obtain rfl:b=false:=(Qa.mp hp).1;exact XU h
theorem Y2{P:Ox->Prop}(hp:args.any (·.1)=Mg)(hk:∀h,P h->∃k,(k=Keeper.frame∨k=Keeper.machine∨k=Keeper.boundFrame)/\V7 (Mj prog w) h (keeperOf f) k)(h:Wi (Mj prog w) A (Qz args) (λvs s₁=>P s₁.heap/\Wi (Mj prog w) A (OG f (first++vs)) Q E s₁) E s):Wi (Mj prog w) A (QT pos f first args []) Q E s:=by
 unfold QT;refine Wh (Wn (pw hp (Wm h (λvs s₁ h₁=>Wh (Wo ?_)) λd d z=>z)));refine ae (hk _ h₁.1) λk z2=>?_;have hk':=z2.1;have hb:(args.any (·.1)||([]:List (Option Nn×RV Md)).any (·.1.isNone))=false:=by rw[hp];rfl
 rw[hb];refine Wh (of (z2.2.here ?_));have tail:∀{t:RV Md},Wi (Mj prog w) A t Q E s₁->Wi (Mj prog w) A (t>>=λr=>Pm [r] point>>=λd=>NN r) Q E s₁:=
  λht=>Wh (Wm ht (λr s₂ hr=>Wh (Wn (Xl (wpAny_pure hr)))) λd d z=>z)
 have marked (mk:Md):Wi (Mj prog w) A (callMarked mk f (first++vs) []) Q E s₁:=by unfold callMarked;exact Z5 h₁.2
 have both:∀{c:Prop}[Decidable c]{a b:RV Md},Wi (Mj prog w) A a Q E s₁->Wi (Mj prog w) A b Q E s₁->Wi (Mj prog w) A (if c then a else b) Q E s₁:=λ{c _ a b} ha hb=>by
  by_cases q:c;·rw[if_pos q];exact ha
  ·rw[if_neg q];exact hb
 refine hk'.elim (λe=>?_) λe=>e.elim (λe=>?_) λe=>?_;·rw[e];exact both (c:=args.length+2*([]:List (Option Nn×RV Md)).length>30) (tail h₁.2) (tail (marked _))
 ·rw[e];exact tail h₁.2
 ·rw[e];exact both (c:=args.length+2*([]:List (Option Nn×RV Md)).length>30) (tail h₁.2) (tail (marked _))
theorem dr(hp:args.any (·.1)=Mg)(hf:∀a,f≠.ref a)(h:Wi (Mj prog w) A (Qz args) (λvs s₁=>Wi (Mj prog w) A (OG f (first++vs)) Q E s₁) E s):Wi (Mj prog w) A (QT pos f first args []) Q E s:=by refine Y2 (P:=λb=>True) hp (λh b=>⟨.machine,.inr (.inl rfl),λA Q E s b hq=>?_⟩) (Wm h (λb b z=>⟨trivial,z⟩) λb b z=>z);cases f<;>first|exact Mz hq|exact absurd rfl (hf _)
theorem Zw{value:MX}{attr:Nn}{pos:Qv}{Q:Md->Ml->Prop}
  (h:Wi (Mj prog w) A (NV value env) (λo s₁=>Wi (Mj prog w) A (Sh o attr Mh) Q E s₁) E s)
  (he:NV (.Attribute value attr pos) env=(do
   let o <-NV value env
   OV pos.atName
   let r <-Pm [o] (Sh o attr Mh)
   Sr value o r
   NN r)):Wi (Mj prog w) A (NV (.Attribute value attr pos) env) Q E s:=by
 rw[he]
 exact Wh (Wm h (λo s₁ h₁=>Wh (Wo (Wh (Wn (Wm h₁ (λr s₂ h₂=>Wh (of (wpAny_letTemporaryGo (wpAny_pure h₂)))) λa a z=>z))))) λa a z=>z)
theorem X7{value slice pos}(h:Wi (Mj prog w) A (NV value env) (λo s₁=>Wi (Mj prog w) A (NV slice env) (λi s₂=>Wi (Mj prog w) A (To value slice o i) Q E s₂) E s₁) E s):Wi (Mj prog w) A (NV (.Subscript value slice pos) env) Q E s:=by rw[eval_Subscript];exact Wh (Wm h (λo s₁ h₁=>Wh (Wn (Wm h₁ (λi s₂ h₂=>Wh (Wo h₂)) λa a z=>z))) λa a z=>z)
theorem YS{id:Nn}{args:List MX}{keywords:List Keyword}(h:Wi (Mj prog w) A (NV (.Name id p) env) (λf s₁=>Wi (Mj prog w) A (QT pos f [] (Ra pos (OL args env)) (backToKw pos (keywordEach keywords env))) Q E s₁) E s):Wi (Mj prog w) A (NV (.Call (.Name id p) args keywords pos) env) Q E s:=by rw[arm_eval_Call_Name'];exact Wh h
theorem YF{x C f:Mk}{args:List Md}{Q:Option Md->Ml->Prop}(X:K.In s.heap)(I:Uy s.heap x ox C od)(hs:Ou K (.ref C) name=Mc (Mc (.ref f)))(hf:typeIn K (.ref f)=Mc (.type "function"))(h:Wi (Mj prog w) A (OG (.ref f) (.ref x::args)) (λv=>Q (Mc v)) E s):Wi (Mj prog w) A (Si (.ref x) name args) Q E s:=
 Wh (Wh (of (I.type.here (of ((PG X hs).here (Wn (Wh (of ((bind_fn X _ hf).here (Wh (Wm h (λa a z=>wpAny_pure z) λa a z=>z)))))))))))
theorem aaK{x C:Mk}{g a:Md}(X:K.In s.heap)(I:Uy s.heap x ox C od)(hga:Ou K (.ref C) "__getattribute__"=Mc (Mc (.builtin "object.__getattribute__")))(hf:findObj K C od name=Mc (.bind g a))(hk:Ou K (.ref C) "__getattr__"=Mc Mq)(h:Wi (Mj prog w) A.in1 (OG g [a,.ref x,.ref C]) (λv s'=>Wi (Mj prog w) A (handedOut v) Q E s') N0 {s with toks:=s.toks+1}):Wi (Mj prog w) A (Sh (.ref x) name expr) Q E s:=by have L0:=I.type (M:=Mj prog w);have L1:=PG (M:=Mj prog w) X hga;have L2:=looks_find (M:=Mj prog w) X I hf;have L3:=PG (M:=Mj prog w) X hk;refine Wh (of (PySem.wpAny_mkText (Wn (Wh (of (L0.at (Wh (of (L1.at ?_)))))))));show Wi _ _ (getAttrEveryday _ _ _) _ _ _;refine Wh (Xk (XT (Xp F.plainObj_entry_getattr_hooked (by decide +kernel) ?_)));rw[RD (by decide +kernel)];refine Wh (wpAny_pure (Wh (of (L0.at (Wh (of (L2.at (Wh (of (L3.at ?_))))))))));show Wi _ _ (Pm [a] (OG g [a,.ref x,.ref C])>>=ret) _ _ _;exact Wh (Wn (Wm h (λv s' z=>wpAny_pure z) λb b z=>z.elim))
theorem aaB{p x:Mk}{fget:Mk}{tp:Md}(X:K.In s.heap)(hp:recIn K p "property"=Mc (.ref fget::rest))(h:Wv (Mj prog w) A (.call (.ref fget) ⟨[.ref x],[]⟩) R s):Wv (Mj prog w) A (.call (.builtin "property.__get__") ⟨[.ref p,.ref x,tp],[]⟩) R s:=by
 refine ae (rec_of X hp) λd z1=>?_;refine ae z1 λsl ho=>?_;refine WG KF.slot_prop.plain KF.entry_prop (by decide +kernel) (of (KF.slot_prop.check _ _ _ _ _ _ _ _ ⟨_,ho,rfl⟩ (KF.args_prop _ _ _) ?_));refine of ?_;obtain⟨hh,g,d0,t,os⟩:=s;dsimp only at ho;repeat lk
 exact⟨rfl,h⟩
theorem WK{st rest}{Q:T7->Ml->Prop}(h:Wi (Mj prog w) A (PZ st env) (λf s'=>match f with|.next=>Wi (Mj prog w) A (Qb rest env) Q E s'|f=>Q f s') E s):Wi (Mj prog w) A (Qb (st::rest) env) Q E s:=by
 rw[execs_cons];refine Wh (Wm h (λf s' h'=>?_) λa a z=>z);induction f with
 |next=>exact h'
 |_=>exact wpAny_pure h'
theorem ZO{test body orelse pos}{Q:T7->Ml->Prop}(h:Wi (Mj prog w) A (QB test env (NV test env)) (λb s₂=>if b then Wi (Mj prog w) A (Qb body env) Q E s₂ else Wi (Mj prog w) A (Qb orelse env) Q E s₂) E s):Wi (Mj prog w) A (PZ (.If test body orelse pos) env) Q E s:=by rw[exec_If];refine Wh (Wo (Wh (Wm h (λb s₂ h₂=>?_) λa a z=>z)));cases b<;>exact h₂
theorem X6{e pos}{Q:T7->Ml->Prop}(h:Wi (Mj prog w) A (NV e env) (λv=>Q (.ret v)) E s):Wi (Mj prog w) A (PZ (.Return (Mc e) pos) env) Q E s:=by rw[exec_Return_some];exact Wh (Wo (Wh (Wm h (λv s' z=>wpAny_pure z) λa a z=>z)))
theorem Yw{e pos}{Q:T7->Ml->Prop}(h:Wi (Mj prog w) A (NV e env) (λa=>Q .next) E s)(hi:Ta env=Mg)(hs:UM e Mq pos.line env=NN Mg):Wi (Mj prog w) A (PZ (.Expr e pos) env) Q E s:=by rw[exec_Expr env e pos hi hs];exact Wh (Wo (Wh (Wm h (λv s' h'=>of (wpAny_dropValue h')) λa a z=>z)))
theorem YE{x pos' op value pos}{Q:T7->Ml->Prop}(h:Wi (Mj prog w) A (loadName env x) (λold s₁=>Wi (Mj prog w) A (NV value env) (λv s₂=>Wi (Mj prog w) A (UN op old v) (λr s₃=>Wi (Mj prog w) A (VD env x r) (λa=>Q .next) E s₃) E s₂) E s₁) E s):Wi (Mj prog w) A (PZ (.AugAssign (.Name x pos') op value pos) env) Q E s:=by rw[exec_AugAssign_Name];refine Wh (Wo (Wh (Wm h (λold s₁ h₁=>?_) λa a z=>z)));refine Wh (Wn (Wm h₁ (λv s₂ h₂=>?_) λa a z=>z));refine Wh (Wo (Wh (bv (Wm h₂ (λr s₃ h₃=>?_) λa a z=>z))));exact Wh (Wo (Wh (XQ (Wm h₃ (λa a z=>wpAny_pure z) λa a z=>z))))
theorem XS{o:MX}{tpos:Qv}{op:RE}{Q:T7->Ml->Prop}(h:Wi (Mj prog w) A (NV o env) (λov s₁=>Wi (Mj prog w) A (Sh ov attr Mh) (λold s₂=> Wi (Mj prog w) A (NV value env) (λv s₃=>Wi (Mj prog w) A (UN op old v) (λnew s₄=> Wi (Mj prog w) A (Vp ov attr new) (λa=>Q .next) E s₄) E s₃) E s₂) E s₁) E s):Wi (Mj prog w) A (PZ (.AugAssign (.Attribute o attr tpos) op value pos) env) Q E s:=by
 have e:PZ (.AugAssign (.Attribute o attr tpos) op value pos) env=(do
   OV pos
   let ov <-NV o env
   let new <-Pm [ov] do
    OV tpos.atName
    let old <-Sh ov attr Mh
    let v <-Pm [old] (NV value env)
    OV pos
    operate [old,v] (UN op old v)
   OV tpos.atName
   Pm [new,ov] (Vp ov attr new)
   release [new,ov] []
   NN .next):=rfl
 rw[e];refine Wh (Wo (Wh (Wm h (λov s₁ h₁=>?_) λa a z=>z)));refine Wh (Wn (Wh (Wo (Wh (Wm h₁ (λold s₂ h₂=>?_) λa a z=>z)))));refine Wh (Wn (Wm h₂ (λv s₃ h₃=>?_) λa a z=>z));refine Wh (Wo (bv (Wm h₃ (λnew s₄ h₄=>?_) λa a z=>z)));exact Wh (Wo (Wh (Wn (Wm h₄ (λa a h₅=>Wh (of (Tp (wpAny_pure h₅)))) λa a z=>z))))
theorem YH{elts k tpos value pos}{names:List Nn}{Q:T7->Ml->Prop}(h:Wi (Mj prog w) A (NV value env) (λv s₁=>Wi (Mj prog w) A (unpackItems v names.length Mq) (λitems s₂=> Wi (Mj prog w) A (Rv (names.reverse.map λn=>Uu env n) items.reverse) (λa=>Q .next) E s₂) E s₁) E s)(hs:OZ [.Tuple elts k tpos] value pos.line env=NN Mg)(hw:O0 [.Tuple elts k tpos] value env=NN (Mc names)):Wi (Mj prog w) A (PZ (.Assign [.Tuple elts k tpos] value pos) env) Q E s:=by rw[exec_Assign,hs,hw];refine Wh (Wo (Wh (wpAny_pure ?_)));rw[if_neg (by decide)];refine Wh (Wm h (λv s₁ h₁=>Wh (wpAny_pure ?_)) λa a z=>z);show Wi (Mj prog w) A (do rule "assign.swapped-stores";let items <-unpackItems v names.length Mq;Rv (names.reverse.map λn=>Uu env n) items.reverse;NN .next) Q E s₁;exact Wh (WU (Wh (Wm h₁ (λitems s₂ h₂=>Wh (Wm h₂ (λa a z=>wpAny_pure z) λa a z=>z)) λa a z=>z)))
theorem Yq{Q:Unit->Ml->Prop}(h:Wi (Mj prog w) A (VD env x v) Q E s):Wi (Mj prog w) A (Rb (.Name x pos) env v) Q E s:=by show Wi (Mj prog w) A (do OV pos;Uu env x v) Q E s;exact Wh (Wo (XQ h))
theorem Xd{m:RV α}{Q:α->Ml->Prop}(h:Wi (Mj prog w) A m Q N0 s):Wi (Mj prog w) A (m.onRaise k) Q E s:=
 Xk (Wm h (λa a z=>z) λa a z=>z.elim)
theorem ZA{stmts:List ON}(h:Wi (Mj prog w) A (Qb stmts env) (λf s'=>R (.ok f) s') N0 s):Wv (Mj prog w) A (.block stmts env) R s:=by refine WB rfl ?_;show Wi _ _ (do return Fin.done (<-(Qb stmts env).onRaise (λx=>do Rc x env;RP x))) _ _ s;exact Wh (Xd (Wm h (λf s' h'=>wpAny_pure h') λa a z=>z))
def BQ(I:Nat->Ml->Prop)(R:Ph->Ml->Prop)(n:Nat):T7->Ml->Prop
 |.next,s=>∃m,m<n/\I m s
 |.cont,s=>∃m,m<n/\I m s
 |.brk,s=>R (.ok .next) s
 |.ret v,s=>R (.ok (.ret v)) s
def FQ(M:RW)(A:O8)(env:VC)(target:MX)(it:Md)(body orelse:List ON)(I:Nat->Ml->Prop)(R:Ph->Ml->Prop)(n:Nat):Option Md->Ml->Prop
 |none,s=>Wi M A (Qb orelse env) (λf s₃=>R (.ok f) s₃) N0 s
 |some v,s=>Wi M A (OQ target it v) (λa=>Wi M A (Rb target env v) (λa=>Wi M A (Qb body env) (BQ I R n) N0) N0) N0 s
theorem YK{target it body orelse}(I:Nat->Ml->Prop)(turn:∀n s,I n s->Wi (Mj prog w) A (QC it) (FQ (Mj prog w) A env target it body orelse I R n) N0 s)(n:Nat)(h:I n s):Wv (Mj prog w) A (.forLoop target it body orelse env) R s:=by
 refine Yg rfl rfl I (λn s hI=>?_) n h;show Wi _ A ((forTurn target it body orelse env).onRaise (λx=>do Rc x env;RP x)) _ _ s;refine Xd ?_;refine Wh (Wo (Wh (Xd (Wm (turn n s hI) (λr s₁ h₁=>?_) λa a z=>z))));induction r with
 |none=>exact wpAny_pure (.inr ⟨rfl,ZA h₁⟩)
 |some v=>
  refine Wh (Wm h₁ (λa s₁' h₁'=>?_) λa a z=>z);refine Wh (Wm h₁' (λa s₂ h₂=>Wh (Wm h₂ (λf s₃ h₃=>?_) λa a z=>z)) λa a z=>z);induction f with
  |next=>exact wpAny_pure (.inl ⟨rfl,h₃⟩)
  |cont=>exact wpAny_pure (.inl ⟨rfl,h₃⟩)
  |brk=>exact wpAny_pure h₃
  |ret v=>exact wpAny_pure h₃
def WQ(M:RW)(A:O8)(env:VC)(body orelse:List ON)(I:Nat->Ml->Prop)(R:Ph->Ml->Prop)(n:Nat):Bool->Ml->Prop
 |true,s=>Wi M A (Qb body env) (BQ I R n) N0 s
 |false,s=>Wi M A (Qb orelse env) (λf s₃=>R (.ok f) s₃) N0 s
theorem YZ{test body orelse}(I:Nat->Ml->Prop)(turn:∀n s,I n s->Wi (Mj prog w) A (QB test env (NV test env)) (WQ (Mj prog w) A env body orelse I R n) N0 s)(n:Nat)(h:I n s):Wv (Mj prog w) A (.whileLoop test body orelse env) R s:=by
 refine Yg rfl rfl I (λn s hI=>?_) n h;show Wi _ A ((whileTurn test body orelse env).onRaise (λx=>do Rc x env;RP x)) _ _ s;refine Xd ?_;show Wi _ _ (QB test env (NV test env)>>=_) _ _ _;refine Wh (Wm (turn n s hI) (λb s₂ h₂=>?_) λa a z=>z);induction b with
 |false=>exact Wh (Wm h₂ (λf s₃ h₃=>wpAny_pure h₃) λa a z=>z)
 |true=>
  refine Wh (Wm h₂ (λf s₃ h₃=>?_) λa a z=>z);induction f with
  |next=>exact wpAny_pure (.inl ⟨rfl,h₃⟩)
  |cont=>exact wpAny_pure (.inl ⟨rfl,h₃⟩)
  |brk=>exact wpAny_pure h₃
  |ret v=>exact wpAny_pure h₃
theorem XH{target iter body orelse pos}{Q:T7->Ml->Prop}(h:Wi (Mj prog w) A (NV iter env) (λx s₁=>Wi (Mj prog w) A (Tq x) (λit s₂=> Wv (Mj prog w) A (.forLoop target it body orelse env) (λr s'=>match r with|.ok f=>Q f s'|.error _=>False) s₂) E s₁) E s)(hs:∀x,QU iter env x=NN x):Wi (Mj prog w) A (PZ (.For target iter body orelse pos) env) Q E s:=by rw[exec_For];refine Wh (Wo (Wh (Wm h (λx s₁ h₁=>?_) λa a z=>z)));rw[hs x];exact Wh (wpAny_pure (Wh (Wo (Wh (Wn (Wm h₁ (λit s₂ h₂=>YN h₂) λa a z=>z))))))
theorem ZW{test body orelse pos}{Q:T7->Ml->Prop}(h:Wv (Mj prog w) A (.whileLoop test body orelse env) (λr s'=>match r with|.ok f=>Q f s'|.error _=>False) s):Wi (Mj prog w) A (PZ (.While test body orelse pos) env) Q E s:=by rw[exec_While];exact Wh (Wo (YN h))
set_option backward.match.sparseCases true in theorem ZI{body}(h:Wi (Mj prog w) (A.deeper env) (Qb body env) (λf s'=>R (.ok (.ret (match f with|.ret v=>v|_=>.none))) s') N0 s):Wv (Mj prog w) A (.func body env) R s:=by refine WB rfl ?_;show Wi _ (A.deeper env) (do point;match <-(Qb body env).onRaise (UO env) with|.ret v=>ret v|_=>ret .none) _ _ s;refine Wh (Xl (Wh (Xd (Wm h (λf s' h'=>?_) λa a z=>z))));cases f<;>exact wpAny_pure h'
end
end Wc
inductive Op where
 |add|sub|mul|shl|shr|Zc|bor|Yc|X1|pow
inductive Cm where
 |lt|le|gt|ge
inductive LK where
 |rng(down:Bool)
 |seq
 |keys
 |zip(n:Nat)
inductive T where
 |cst(v:Md)(k:T)
 |ld(c:Nat)(k:T)
 |ldc(c:Nat)(k:T)
 |st(c:Nat)(k:T)
 |pop(k:T)
 |dup(k:T)
 |W7(k:T)
 |fld(c:Nat)(k:T)
 |prop(c:Nat)(k:T)
 |XF(c:Nat)(k:T)
 |bin(op:Op)(k:T)
 |iop(op:Op)(k:T)
 |cmp(op:Cm)(k:T)
 |XJ(op:Cm)(k:T)
 |eqv(neg:Bool)(k:T)
 |isn(neg:Bool)(k:T)
 |inn(neg:Bool)(xs:List Md)(k:T)
 |neg(k:T)
 |abm(k:T)
 |ite(a b:T)
 |blk(e k:T)
 |seq(s k:T)
 |Xy(n:Nat)(k:T)
 |W9(n:Nat)(k:T)
 |YO(k:T)
 |idx(k:T)
 |XD(k:T)
 |sli(k:T)
 |sel(keys:List Md)(k:T)
 |call(n:Nat)(k:T)
 |meth(c:Nat)(k:T)
 |XM(n:Nat)(k:T)
 |bm(c:Nat)(k:T)
 |cb(n:Nat)(k:T)
 |len(k:T)
 |isi(t:Md)(k:T)
 |Xq(k:T)
 |abs(k:T)
 |YU(k:T)
 |Xa(k:T)
 |YC(k:T)
 |Yh(k:T)
 |unp(n:Nat)(k:T)
 |Wz(kd:LK)(body k:T)
 |whl(body k:T)
 |Xn(rng:Bool)(c:Nat)(body k:T)
 |ret
 |Wy
 |brk
 |WY
 |rai
 |yld
inductive Out where
 |ret(v:Md)
 |next(ρ:Loc)
 |brk(ρ:Loc)
 |WY(ρ:Loc)
 |val(v:Md)(ρ:Loc)
noncomputable def uH:Op->Int->Int->Prop
 |.mul,a,b=>IntMulOk a b
 |.shl,a,b=>0<=b/\b<=1000000/\a.natAbs<2^64
 |.shr,_,b=>0<=b
 |.Yc,_,b=>b≠0/\b.natAbs.log2<9000
 |.X1,_,b=>b≠0
 |.pow,a,b=>0<=b/\b<=1000000/\a.natAbs<2^64
 |_,_,_=>True
noncomputable def opV:Op->Int->Int->Int
 |.add,a,b=>a+b
 |.sub,a,b=>a-b
 |.mul,a,b=>a*b
 |.shl,a,b=>a*2^b.toNat
 |.shr,a,b=>a.fdiv (2^b.toNat)
 |.Zc,a,b=>OA a b
 |.bor,a,b=>Ob a b
 |.Yc,a,b=>a.fdiv b
 |.X1,a,b=>a.fmod b
 |.pow,a,b=>a^b.toNat
noncomputable def yn:Cm->Int->Int->Bool
 |.lt,a,b=>M0 (a<b)
 |.le,a,b=>M0 (a<=b)
 |.gt,a,b=>M0 (b<a)
 |.ge,a,b=>M0 (b<=a)
structure Sys where
 prog:R8
 w:O6
 base:HM
 os:O5
 cv:Loc:=[]
 kl:Mk->Option (List Md):=λa=>Mq
 kt:Mk->Option (List Md):=λa=>Mq
noncomputable def WI(Z:Sys)(Φ:bA):Prop:=∀a o,Z.base a=Mc o->Φ.o a=Mc o/\¬Φ.fr a
noncomputable def BV(Φ:bA)(here:Mk->Prop)(l:List VC):Prop:=∀env∈l,env.scope.kind=.function/\∃L,env.frame=Mc L/\Φ.fr L/\(here L∨∃o,Φ.o L=Mc o/\∀vs,o.data≠.fields vs)
variable{P:Mk->Prop}
theorem BV.Wq{P':Mk->Prop}{l:List VC}(h:BV Φ P l)(h1:∀a,Φ.fr a->Φ'.fr a)(h2:∀a o,Φ.o a=Mc o->Φ'.o a=Mc o)(h3:∀a,P a->P' a∨∃o,Φ'.o a=Mc o/\∀vs,o.data≠.fields vs):BV Φ' P' l:=λenv he=>by
 obtain z3:=h env he;refine ae z3.2 λL z4=>?_;have c:=z4.2.2;refine⟨z3.1,L,z4.1,h1 _ z4.2.1,?_⟩;rcases c with c|⟨o,c,d⟩;·exact h3 _ c
 ·exact .inr ⟨o,h2 _ _ c,d⟩
noncomputable def oU(n:Nat)(A:O8)(Φ:bA):Prop:=A.depth+20*n<=900/\A.units+60*n<=9000/\A.handled=Mq/\∃l,A.frames=Mc l/\BV Φ (λa=>False) l
theorem oU.le{m:Nat}(h:oU m A Φ)(e:n<=m):oU n A Φ:=⟨by have:=h.1;exact ao 0x108685000117082540448270b379508c4b841540448270336 [] [_,_,_] e this,by have:=h.2.1;exact ao 0x843e1800047194097809904e26792a118946502bc04c8270b3b [] [_,_,_] e this,h.2.2⟩
noncomputable def og(n:Nat)(A:O8)(Φ:bA)(L:Mk):Prop:=A.depth+20*n<=900/\A.units+60*n<=9000/\A.handled=Mq/\∃l,A.frames=Mc l/\BV Φ (λa=>a=L) l
noncomputable def cR(n:Nat)(A:O8)(Φ:bA)(L:Mk):Prop:=A.depth+20*n+10<=900/\A.units+60*n+30<=9000/\A.handled=Mq/\∃l,A.frames=Mc l/\BV Φ (λa=>a=L) l
variable{L:Mk}
theorem cR.room(h:cR n A Φ L):og n A Φ L:=⟨by have:=h.1;exact af 0x4200013e1050aa02241381e0d1b841540448270336 [] [_,_] this,by have:=h.2.1;exact af 0x2100009c6503c2bc04c8270bc9a646502bc04c8270b3b [] [_,_] this,h.2.2⟩
theorem cR.Xm{B:O8}(h:cR n A Φ L)(hd:B.depth<=A.depth+10)(hu:B.units<=A.units+30)(hh:B.handled=A.handled:=by rfl)(hf:B.frames=A.frames:=by rfl):og n B Φ L:=⟨by have:=h.1;exact ao 0x108610000f7082855011242b8de6d268485704c83841540448270336 [] [_,_,_] hd this,by have:=h.2.1;exact ao 0x108610000f46503c2bc04c90ae47ab4ff090ae0990c6502bc04c8270b3b [] [_,_,_] hu this,hh.trans h.2.2.1,by rw[hf];exact h.2.2.2⟩
noncomputable def AI(Z:Sys)(Φ:bA)(Q:Md->Sg->Prop)(r:Ph)(s':Ml):Prop:=
 oz λv J' g'=>r=.ok (.ret v)/\Inv Φ J' g' s'.heap/\s'.gens=#[]/\s'.os=Z.os/\Q (er v) J'
noncomputable def ac(Z:Sys)(n:Nat)(f:Md)(args:List Md)(J:Sg)(Q:Md->Sg->Prop):Prop:=
 ∀(Φ:bA)(g:Mk->Own)(s:Ml)(A:O8)(vals:List Md),Inv Φ J g s.heap->WI Z Φ->oU n A Φ->s.gens=#[]->s.os=Z.os->vals.map er=args->
  Wc.Wv (Mj Z.prog Z.w) A (.call f ⟨vals,[]⟩) (AI Z Φ Q) s
variable{Q:Md->Sg->Prop}{Z:Sys}
theorem ac.Wq{m:Nat}{args:List Md}{Q':Md->Sg->Prop}(h:ac Z n f args J Q)(e:n<=m)(q:∀v J',Q v J'->Q' v J'):ac Z m f args J Q':=
 λΦ g s A vals I b r h1 h2 h3=>Wc.WO (h Φ g s A vals I b (r.le e) h1 h2 h3) λ_ _ ⟨v,J',g',a,b,c,d,z⟩=>⟨v,J',g',a,b,c,d,q _ _ z⟩
inductive ey(J:Sg):Nat->Md->Md->Prop
 |int{d:Nat}{x:Int}{t u:Ue}:ey J (d+1) (.int x t) (.int x u)
 |str{d:Nat}{x:Nn}{t u:Ue}:ey J (d+1) (.str x t) (.str x u)
 |none{d:Nat}:ey J (d+1) .none .none
 |bool{d:Nat}{x:Bool}:ey J (d+1) (.bool x) (.bool x)
 |list {d:Nat} {a b:Mk} {xs ys:List Md}:J a=Mc (.list xs)->J b=Mc (.list ys)->xs.length=ys.length->(∀p∈xs.zip ys,ey J d p.1 p.2)->ey J (d+1) (.ref a) (.ref b)
 |tup {d:Nat} {a b:Mk} {xs ys:List Md}:J a=Mc (.tup xs)->J b=Mc (.tup ys)->xs.length=ys.length->(∀p∈xs.zip ys,ey J d p.1 p.2)->ey J (d+1) (.ref a) (.ref b)
inductive ss(J:Sg):Md->Md->Bool->Prop
 |int {x y:Int} {t u:Ue}:ss J (.int x t) (.int y u) (M0 (x=y))
 |str {x y:Nn} {t u:Ue}:ss J (.str x t) (.str y u) (M0 (x=y))
 |bytes {x y:Array UInt8} {t u:Ue}:ss J (.bytes x t) (.bytes y u) (M0 (x=y))
 |same{x y:Mk}:ey J 9 (.ref x) (.ref y)->ss J (.ref x) (.ref y) Mh
 |odd {x y:Mk} {xs ys:List Md}:J x=Mc (.list xs)->J y=Mc (.list ys)->xs.length≠ys.length->ss J (.ref x) (.ref y) Mg
noncomputable def take?(n:Nat)(st:List Md):Option (List Md×List Md):=if n<=st.length then Mc ((st.take n).reverse,st.drop n) else Mq
noncomputable def AS:Cell->Option (List Md)
 |.list xs=>Mc xs
 |.tup xs=>Mc xs
 |_=>Mq
noncomputable def WX:Cell->Option (List Md)
 |.list xs=>Mc xs
 |_=>Mq
theorem rx(xs:List Md):WX (.list xs)=Mc xs:=rfl
noncomputable def qZ:Cell->Option (List Md)
 |.tup xs=>Mc xs
 |_=>Mq
noncomputable def YA:Cell->Option (List (Int×Md))
 |.W8 m=>Mc m
 |_=>Mq
abbrev Nx:=Nat->Sg->Option (Option (List Md))
noncomputable def AM(l:List Md):Nx:=λi a=>Mc ((l[i]?).map λv=>[v])
noncomputable def rR(sel:Cell->Option (List Md))(a:Mk):Nx:=λi J=>((J a).bind sel).map λxs=>(xs[i]?).map λv=>[v]
noncomputable def Cc(a:Mk)(N:Nat):Nx:=λi J=>((J a).bind YA).bind λm=>if m.length=N then Mc ((m[i]?).map λp=>[.int p.1 0]) else Mq
noncomputable def uD(as:List Mk):Nx:=λi J=>(as.mapM λa=>(J a).bind WX).map λxss=>xss.mapM λxs=>xs[i]?
noncomputable def tf(N D:Loc->Sg->Prop)(R:Md->Sg->Prop):Out->Sg->Prop:=λo J=>match o with
 |.next ρ=>N ρ J
 |.WY ρ=>N ρ J
 |.brk ρ=>D ρ J
 |.ret v=>R v J
 |.val _ _=>False
abbrev aaw(α:Type):=α->Loc->Sg->(Out->Sg->Prop)->Prop
noncomputable def rU(nx:Nx)(turn:aaw (List Md))(D:Loc->Sg->Prop)(R:Md->Sg->Prop):Nat->Nat->Loc->Sg->Prop
 |0,_,_,_=>False
 |f+1,i,ρ,J=>(nx i J=Mc Mq/\D ρ J)∨∃vs,nx i J=Mc (Mc vs)/\turn vs ρ J (tf (rU nx turn D R f (i+1)) D R)
noncomputable def yS(turn:Loc->Sg->(Out->Sg->Prop)->Prop)(D:Loc->Sg->Prop)(R:Md->Sg->Prop):Nat->Loc->Sg->Prop
 |0,_,_=>False
 |f+1,ρ,J=>turn ρ J (tf (yS turn D R f) D R)
noncomputable def wR(N:List Md->Sg->Prop)(ws:List Md):Out->Sg->Prop:=λo J=>match o with
 |.val w _=>N (ws++[w]) J
 |.next _=>N ws J
 |_=>False
noncomputable def kz(nx:Nx)(turn:Md->Sg->(Out->Sg->Prop)->Prop)(D:List Md->Sg->Prop):Nat->Nat->List Md->Sg->Prop
 |0,_,_,_=>False
 |f+1,i,ws,J=>(nx i J=Mc Mq/\D ws J)∨∃v,nx i J=Mc (Mc [v])/\turn v J (wR (kz nx turn D f (i+1)) ws)
noncomputable def aQ(a b:Int):List Int:=(Oh (b-a).toNat).map λi:Nat=>a+(i:Int)
noncomputable def eZ(a b:Int):List Int:=(Oh (a-b).toNat).map λi:Nat=>a-(i:Int)
noncomputable def cS(l:List Int):List Value:=l.map λi=>.int i 0
noncomputable def iI:Md->Bool
 |.builtin _=>Mg
 |_=>Mh
inductive fG(Z:Sys)(n:Nat)(J:Sg)(Q:Md->Sg->Prop):Md->Md->Prop
 |bytes {b:Array UInt8} {t u:Ue} {j:Int} {x:UInt8}:b.size<=1000000->0<=j->j<2^63->b[j.toNat]?=Mc x->Q (.int x.toNat 0) J->fG Z n J Q (.bytes b t) (.int j u)
 |list {a:Mk} {xs:List Md} {v:Md} {j:Int} {u:Ue}:J a=Mc (.list xs)->0<=j->j<2^63->xs[j.toNat]?=Mc v->Q v J->fG Z n J Q (.ref a) (.int j u)
 |neg {a:Mk} {xs:List Md} {v:Md} {j:Int} {u:Ue}:J a=Mc (.list xs)->j<0->-(2^63)<=j->0<=j+xs.length->xs[(j+xs.length).toNat]?=Mc v->Q v J->fG Z n J Q (.ref a) (.int j u)
 |tup {a:Mk} {xs:List Md} {v:Md} {j:Int} {u:Ue}:J a=Mc (.tup xs)->0<=j->j<2^63->xs[j.toNat]?=Mc v->Q v J->fG Z n J Q (.ref a) (.int j u)
 |WJ {a:Mk} {b:List UInt8} {x:UInt8} {j:Int} {u:Ue}:J a=Mc (.WJ b)->0<=j->j<2^63->b[j.toNat]?=Mc x->Q (.int x.toNat 0) J->fG Z n J Q (.ref a) (.int j u)
 |Wu {a C:Mk} {fs:Loc} {f:Nat} {j:Int} {u:Ue}:J a=Mc (.Wu C fs)->mt C 115298485004486023744151391=Mc f->ac Z n (.ref f) [.ref a,.int j u] J Q->fG Z n J Q (.ref a) (.int j u)
inductive kT(Z:Sys)(n:Nat)(J:Sg)(Q:Sg->Prop):Md->Md->Md->Prop
 |list {a:Mk} {xs:List Md} {v:Md} {j:Int} {u:Ue}:J a=Mc (.list xs)->0<=j->j<xs.length->xs.length<=1000000->Q (upd J a (.list (xs.set j.toNat v)))->kT Z n J Q (.ref a) (.int j u) v
 |dict {a:Mk} {m:List (Int×Md)} {v:Md} {j:Int} {u:Ue}:J a=Mc (.W8 m)->m.length<=1000000->Q (upd J a (.W8 (if m.any (·.1==j) then m.map (λp=>if p.1==j then(j,v) else p) else m++[(j,v)])))->kT Z n J Q (.ref a) (.int j u) v
 |Wu {a C:Mk} {fs:Loc} {f:Nat} {v:Md} {j:Int} {u:Ue}:J a=Mc (.Wu C fs)->mt C 115298706365414908258770783=Mc f->ac Z n (.ref f) [.ref a,.int j u,v] J (λb=>Q)->kT Z n J Q (.ref a) (.int j u) v
inductive gr(Z:Sys)(n:Nat)(J:Sg)(Q:Md->Sg->Prop):Md->Prop
 |bytes {b:Array UInt8} {t:Ue}:b.size<=1000000->Q (.int b.size 0) J->gr Z n J Q (.bytes b t)
 |list {a:Mk} {xs:List Md}:J a=Mc (.list xs)->xs.length<=1000000->Q (.int xs.length 0) J->gr Z n J Q (.ref a)
 |tup {a:Mk} {xs:List Md}:J a=Mc (.tup xs)->xs.length<=1000000->Q (.int xs.length 0) J->gr Z n J Q (.ref a)
 |WJ {a:Mk} {b:List UInt8}:J a=Mc (.WJ b)->b.length<=1000000->Q (.int b.length 0) J->gr Z n J Q (.ref a)
 |dict {a:Mk} {m:List (Int×Md)}:J a=Mc (.W8 m)->m.length<=1000000->Q (.int m.length 0) J->gr Z n J Q (.ref a)
 |Wu {a C:Mk} {fs:Loc} {f:Nat}:J a=Mc (.Wu C fs)->mt C 26845041950351199=Mc f->ac Z n (.ref f) [.ref a] J (λv J'=>∃i,v=.int i 0/\0<=i/\i<2^63/\Q v J')->gr Z n J Q (.ref a)
noncomputable def end?(v:Md)(d:Nat):Option Nat:=match v with
 |.none=>Mc d
 |.int j _=>if 0<=j/\j<2^63 then Mc j.toNat else Mq
 |_=>Mq
noncomputable def cut(l u:Md)(len:Nat):Option (Nat×Nat):=(end? l 0).bind λi=>(end? u len).map λj=>(i,j)
inductive fU(J:Sg):Md->Md->Bool->Prop
 |int{i:Int}{t:Ue}:fU J (.int i t) (.type "int") Mh
 |aaS{i:Int}{t:Ue}:fU J (.int i t) (.type "bool") Mg
 |abc{i:Int}{t:Ue}:fU J (.int i t) (.type "tuple") Mg
 |abl{b:Bool}:fU J (.bool b) (.type "int") Mh
 |tup {a:Mk} {xs:List Md}:J a=Mc (.tup xs)->fU J (.ref a) (.type "tuple") Mh
 |list {a:Mk} {xs:List Md}:J a=Mc (.list xs)->fU J (.ref a) (.type "tuple") Mg
 |Wu {a C:Mk} {fs:Loc}:J a=Mc (.Wu C fs)->fU J (.ref a) (.ref C) Mh
 |aa1 {a C:Mk} {xs:List Md}:J a=Mc (.list xs)->(BN.lookup C).isSome=Mh->fU J (.ref a) (.ref C) Mg
noncomputable def ED(v x:Md):Option Bool:=match v,x with
 |.int a _,.int b _=>Mc (M0 (a=b))
 |.str a _,.str b _=>Mc (M0 (a=b))
 |_,_=>Mq
noncomputable def zV(v:Md):List Md->Option Bool
 |[]=>Mc Mg
 |x::r=>(ED v x).bind λb=>(zV v r).map λc=>b||c
noncomputable def YV(vs:List Md)(b:List UInt8):Prop:=∃ns:List Int,vs=ns.map (λi=>.int i 0)/\(∀n∈ns,0<=n/\n<256)/\ns.map (λn=>n.toNat.toUInt8)=b
inductive BM(J:Sg):Nat->Md->String->Prop
 |Y9 {a:Mk} {xs:List Md}:J a=Mc (.list xs)->BM J JJ (.ref a) "list.append"
 |bapp {a:Mk} {b:List UInt8}:J a=Mc (.WJ b)->BM J JJ (.ref a) "bytearray.append"
 |Y7 {a:Mk} {b:List UInt8}:J a=Mc (.WJ b)->BM J 111568023285348 (.ref a) "bytearray.extend"
 |Y4 {a:Mk} {m:List (Int×Md)}:J a=Mc (.W8 m)->BM J 6776180 (.ref a) "dict.get"
 |Y8{i:Int}{t:Ue}:BM J JK (.int i t) "int.bit_length"
inductive rS(J:Sg)(Q:Md->Sg->Prop):String->Md->List Md->Prop
 |Y9 {a:Mk} {xs:List Md} {v:Md}:J a=Mc (.list xs)->xs.length<=100000->Q .none (upd J a (.list (xs++[v])))->rS J Q "list.append" (.ref a) [v]
 |bapp {a:Mk} {b:List UInt8} {i:Int} {t:Ue}:J a=Mc (.WJ b)->0<=i->i<256->b.length<=100000->Q .none (upd J a (.WJ (b++[Pz i.toNat])))->rS J Q "bytearray.append" (.ref a) [.int i t]
 |Y7 {a:Mk} {b:List UInt8} {x:Array UInt8} {t:Ue}:J a=Mc (.WJ b)->b.length+x.size<=100000->Q .none (upd J a (.WJ (b++x.toList)))->rS J Q "bytearray.extend" (.ref a) [.bytes x t]
 |Y4 {a:Mk} {m:List (Int×Md)} {i:Int} {t:Ue} {d:Md}:J a=Mc (.W8 m)->Q (((m.find? (·.1==i)).map (·.2)).getD d) J->rS J Q "dict.get" (.ref a) [.int i t,d]
 |Y8{i:Int}{t:Ue}:0<i->Q (.int ((i.toNat.log2:Nat)+1:Int) 0) J->rS J Q "int.bit_length" (.int i t) []
inductive s5(op:Op)(J:Sg)(K:Md->Sg->Prop):Md->Md->Prop
 |int{a b:Int}{t u:Ue}:uH op a b->K (.int (opV op a b) 0) J->s5 op J K (.int a t) (.int b u)
 |bytes {a b:Array UInt8} {t u:Ue}:op=.add->a.size+b.size<=100000->K (.bytes (a++b) 0) J->s5 op J K (.bytes a t) (.bytes b u)
 |aa8 {a:UInt8} {b:Int} {t u:Ue}:op=.mul->0<=b->b<=1000->K (.bytes (Uh b.toNat a) 0) J->s5 op J K (.bytes #[a] t) (.int b u)
 |list {a b:Mk} {xs ys:List Md}:op=.add->J a=Mc (.list xs)->J b=Mc (.list ys)->xs.length+ys.length<=100000->(∀x,J x=Mq->K (.ref x) (upd J x (.list (xs++ys))))->s5 op J K (.ref a) (.ref b)
 |aa3 {a:Mk} {v:Md} {b:Int} {u:Ue}:op=.mul->J a=Mc (.list [v])->0<=b->b<=100000->(∀x,J x=Mq->K (.ref x) (upd J x (.list (M8 b.toNat v))))->s5 op J K (.ref a) (.int b u)
inductive xH(J:Sg)(K:Md->Sg->Prop):Md->Prop
 |bytes{b:Array UInt8}{t:Ue}:K (.bytes b 0) J->xH J K (.bytes b t)
 |WJ {a:Mk} {b:List UInt8}:J a=Mc (.WJ b)->b.length<=100000->K (.bytes b.toArray 0) J->xH J K (.ref a)
 |list {a:Mk} {xs:List Md} {b:List UInt8}:J a=Mc (.list xs)->YV xs b->b.length<=100000->K (.bytes b.toArray 0) J->xH J K (.ref a)
inductive AP(Z:Sys)(J:Sg)(sel:Cell->Option (List Md))(kst:Mk->Option (List Md))(F:Mk->List Md->Prop):Md->Prop
 |cell {a:Mk} {xs:List Md}:(J a).bind sel=Mc xs->F a xs->AP Z J sel kst F (.ref a)
 |Yk {a:Mk} {xs:List Md}:kst a=Mc xs->F a xs->AP Z J sel kst F (.ref a)
noncomputable def BP:Op->Bool
 |.add=>Mh|.sub=>Mh|.shl=>Mh|.shr=>Mh|.bor=>Mh
 |_=>Mg
noncomputable def p1(F:Md->List Md->Prop):List Md->Prop
 |v::st=>F v st
 |[]=>False
noncomputable def p2(F:Md->Md->List Md->Prop)(st:List Md):Prop:=p1 (λu st=>p1 (F u) st) st
noncomputable def bB(F:Int->Prop):Md->Prop
 |.int a _=>F a
 |_=>False
noncomputable def fZ(F:Mk->Prop):Md->Prop
 |.ref a=>F a
 |_=>False
noncomputable def dT(F:Bool->Prop):Md->Prop
 |.bool a=>F a
 |_=>False
theorem bB.inv{F:Int->Prop}(h:bB F (er v)):bM λa t=>v=.int a t/\F a:=by cases v<;>first|exact⟨_,_,rfl,h⟩|exact h.elim
theorem fZ.inv{F:Mk->Prop}(h:fZ F (er v)):∃a,v=.ref a/\F a:=by cases v<;>first|exact⟨_,rfl,h⟩|exact h.elim
theorem dT.inv{F:Bool->Prop}(h:dT F (er v)):∃a,v=.bool a/\F a:=by cases v<;>first|exact⟨_,rfl,h⟩|exact h.elim
theorem ints.inv{F:Int->Int->Prop}{w:Md}(h:bB (λb=>bB (λa=>F a b) (er v)) (er w)):yq λa t b u=>v=.int a t/\w=.int b u/\F a b:=by refine bI (bB.inv h) λb u z2=>?_;refine bI (bB.inv z2.2) λa t z1=>?_;exact⟨a,t,b,u,z1.1,z2.1,z1.2⟩
noncomputable abbrev FK(K:Md->Loc->Sg->Prop):Out->Sg->Prop:=λo J=>match o with
 |.val v ρ=>K v ρ J
 |_=>False
noncomputable abbrev B6(K:Loc->Sg->Prop)(Q:Out->Sg->Prop):Out->Sg->Prop:=λo J=>match o with
 |.next ρ=>K ρ J
 |o=>Q o J
noncomputable def Src(J:Sg):LK->List Md->List Md->Nx->Prop
 |.rng down,st,st',nx=>p2 (λw v r=>r=st'/\bB (λb=>bB (λa=>(-1000000<=a/\a<=1000000/\-1000000<=b/\b<=1000000)/\nx=AM (cS (if down then eZ a b else aQ a b))) v) w) st
 |.seq,st,st',nx=>p1 (λo r=>r=st'/\fZ (λa=>((∃xs,J a=Mc (.list xs))/\nx=rR WX a)∨((∃xs,J a=Mc (.tup xs))/\nx=rR qZ a)) o) st
 |.keys,st,st',nx=>p1 (λo r=>r=st'/\fZ (λa=>∃m,J a=Mc (.W8 m)/\nx=Cc a m.length) o) st
 |.zip m,st,st',nx=>∃as,take? m st=Mc (as.map MJ,st')/\nx=uD as
noncomputable def GP(Z:Sys)(J:Sg):Bool->List Md->List Md->Nx->Prop
 |true,st,st',nx=>Src J (.rng Mg) st st' nx
 |false,st,st',nx=>p1 (λo r=>r=st'/\fZ (λa=>((∃xs,J a=Mc (.list xs))/\nx=rR WX a)∨∃xs,Z.kl a=Mc xs/\nx=AM xs) o) st
noncomputable def exec(Z:Sys)(n:Nat):T->List Md->Loc->Sg->(Out->Sg->Prop)->Prop
 |.cst v k,st,ρ,J,Q=>exec Z n k (v::st) ρ J Q
 |.ld c k,st,ρ,J,Q=>∃v,gf ρ c=Mc v/\exec Z n k (v::st) ρ J Q
 |.ldc c k,st,ρ,J,Q=>∃v,gf Z.cv c=Mc v/\exec Z n k (v::st) ρ J Q
 |.st c k,st,ρ,J,Q=>p1 (λv st=>exec Z n k st (sf ρ c v) J Q) st
 |.pop k,st,ρ,J,Q=>p1 (λd st=>exec Z n k st ρ J Q) st
 |.dup k,st,ρ,J,Q=>p1 (λv st=>exec Z n k (v::v::st) ρ J Q) st
 |.W7 k,st,ρ,J,Q=>p2 (λu v st=>exec Z n k (v::u::st) ρ J Q) st
 |.fld c k,st,ρ,J,Q=>p1 (λo st=>fZ (λa=>oz λC fs v=>J a=Mc (.Wu C fs)/\gf fs c=Mc v/\exec Z n k (v::st) ρ J Q) o) st
 |.prop c k,st,ρ,J,Q=>p1 (λo st=>fZ (λa=>oz λC fs f=>J a=Mc (.Wu C fs)/\pt C c=Mc f/\ac Z n (.ref f) [.ref a] J λv J'=>iI v=Mh/\exec Z n k (v::st) ρ J' Q) o) st
 |.XF c k,st,ρ,J,Q=>p2 (λo v st=>fZ (λa=>bM λC fs=>J a=Mc (.Wu C fs)/\((gf fs c).isSome=Mh∨(AA C c=Mh/\fs.length<=100))/\iI v=Mh/\exec Z n k st ρ (upd J a (.Wu C (sf fs c v))) Q) o) st
 |.bin op k,st,ρ,J,Q=>p2 (λw v st=>s5 op J (λr J'=>exec Z n k (r::st) ρ J' Q) v w) st
 |.iop op k,st,ρ,J,Q=>p2 (λw v st=>bB (λb=>bB (λa=>uH op a b/\BP op=Mh/\exec Z n k (.int (opV op a b) 0::st) ρ J Q) v) w) st
 |.cmp op k,st,ρ,J,Q=>p2 (λw v st=>bB (λb=>bB (λa=>exec Z n k (.bool (yn op a b)::st) ρ J Q) v) w) st
 |.XJ op k,st,ρ,J,Q=>p2 (λw v st=>bB (λb=>bB (λa=>exec Z n k (.bool (yn op a b)::w::st) ρ J Q) v) w) st
 |.eqv neg k,st,ρ,J,Q=>p2 (λb a st=>∃r,ss J a b r/\exec Z n k (.bool (if neg then !r else r)::st) ρ J Q) st
 |.isn neg k,st,ρ,J,Q=>p1 (λv st=>exec Z n k (.bool (if neg then !(v==.none) else(v==.none))::st) ρ J Q) st
 |.inn neg xs k,st,ρ,J,Q=>p1 (λv st=>∃r,zV v xs=Mc r/\exec Z n k (.bool (if neg then !r else r)::st) ρ J Q) st
 |.neg k,st,ρ,J,Q=>p1 (λv st=>bB (λa=>exec Z n k (.int (-a) 0::st) ρ J Q) v) st
 |.abm k,st,ρ,J,Q=>p1 (λv st=>dT (λb=>exec Z n k (.bool (!b)::st) ρ J Q) v) st
 |.ite a b,st,ρ,J,Q=>p1 (λv st=>dT (λc=>(c=Mh->exec Z n a st ρ J Q)/\(c=Mg->exec Z n b st ρ J Q)) v) st
 |.blk e k,st,ρ,J,Q=>exec Z n e [] ρ J (FK λv ρ' J'=>exec Z n k (v::st) ρ' J' Q)
 |.seq s k,st,ρ,J,Q=>exec Z n s [] ρ J (B6 (λρ' J'=>exec Z n k st ρ' J' Q) Q)
 |.Xy m k,st,ρ,J,Q=>bM λvs st'=>take? m st=Mc (vs,st')/\∀x,J x=Mq->exec Z n k (.ref x::st') ρ (upd J x (.tup vs)) Q
 |.W9 m k,st,ρ,J,Q=>bM λvs st'=>take? m st=Mc (vs,st')/\∀x,J x=Mq->exec Z n k (.ref x::st') ρ (upd J x (.list vs)) Q
 |.YO k,st,ρ,J,Q=>∀x,J x=Mq->exec Z n k (.ref x::st) ρ (upd J x (.W8 [])) Q
 |.idx k,st,ρ,J,Q=>p2 (λi o st=>fG Z n J (λv J'=>exec Z n k (v::st) ρ J' Q) o i) st
 |.XD k,st,ρ,J,Q=>p2 (λi o st=>p1 (λv st=>kT Z n J (λJ'=>exec Z n k st ρ J' Q) o i v) st) st
 |.sli k,st,ρ,J,Q=>p2 (λu l st=>p1 (λo st=>AP Z J WX Z.kl (λd xs=>bM λi j=>cut l u xs.length=Mc (i,j)/\xs.length<=1000000/\∀x,J x=Mq->exec Z n k (.ref x::st) ρ (upd J x (.list ((xs.take j).drop i))) Q) o) st) st
 |.sel keys k,st,ρ,J,Q=>p1 (λkey st=>oz λvs st' p=>take? keys.length st=Mc (vs,st')/\(keys.zip vs).find? (λp=>p.1==key)=Mc p/\exec Z n k (p.2::st') ρ J Q) st
 |.call m k,st,ρ,J,Q=>oz λvs f st'=>take? m st=Mc (vs,f::st')/\ac Z n f vs J λv J'=>exec Z n k (v::st') ρ J' Q
 |.meth c k,st,ρ,J,Q=>p1 (λo st=>fZ (λa=>oz λC fs f=>J a=Mc (.Wu C fs)/\mt C c=Mc f/\gf fs c=Mq/\exec Z n k (.ref f::o::st) ρ J Q) o) st
 |.XM m k,st,ρ,J,Q=>yq λvs f o st'=>take? m st=Mc (vs,f::o::st')/\ac Z n f (o::vs) J λv J'=>exec Z n k (v::st') ρ J' Q
 |.bm c k,st,ρ,J,Q=>p1 (λo st=>∃id,BM J c o id/\exec Z n k (.builtin id::o::st) ρ J Q) st
 |.cb m k,st,ρ,J,Q=>yq λvs id o st'=>take? m st=Mc (vs,.builtin id::o::st')/\rS J (λv J'=>exec Z n k (v::st') ρ J' Q) id o vs
 |.len k,st,ρ,J,Q=>p1 (λo st=>gr Z n J (λv J'=>exec Z n k (v::st) ρ J' Q) o) st
 |.isi t k,st,ρ,J,Q=>p1 (λv st=>∃b,fU J v t b/\exec Z n k (.bool b::st) ρ J Q) st
 |.Xq k,st,ρ,J,Q=>p1 (λv st=>dT (λb=>exec Z n k (.int (if b then 1 else 0) 0::st) ρ J Q) v) st
 |.abs k,st,ρ,J,Q=>p1 (λv st=>bB (λa=>exec Z n k (.int (a.natAbs:Int) 0::st) ρ J Q) v) st
 |.YU k,st,ρ,J,Q=>p2 (λw v st=>bB (λb=>bB (λa=>exec Z n k (.int (if b<a then b else a) 0::st) ρ J Q) v) w) st
 |.Xa k,st,ρ,J,Q=>p1 (λv st=>xH J (λr J'=>exec Z n k (r::st) ρ J' Q) v) st
 |.YC k,st,ρ,J,Q=>∀x,J x=Mq->exec Z n k (.ref x::st) ρ (upd J x (.WJ [])) Q
 |.Yh k,st,ρ,J,Q=>p1 (λo st=>AP Z J AS Z.kt (λd xs=>xs.length<=100000/\∀x,J x=Mq->exec Z n k (.ref x::st) ρ (upd J x (.list xs)) Q) o) st
 |.unp m k,st,ρ,J,Q=>p1 (λo st=>fZ (λa=>∃xs,J a=Mc (.tup xs)/\xs.length=m/\exec Z n k (xs++st) ρ J Q) o) st
 |.Wz kd body k,st,ρ,J,Q=>oz λst' nx f=>Src J kd st st' nx/\rU nx (λvs ρ J Q'=>exec Z n body vs ρ J Q') (λρ' J'=>exec Z n k st' ρ' J' Q) (λv J'=>Q (.ret v) J') f 0 ρ J
 |.whl body k,st,ρ,J,Q=>∃f,yS (λρ J Q'=>exec Z n body [] ρ J Q') (λρ' J'=>exec Z n k st ρ' J' Q) (λv J'=>Q (.ret v) J') f ρ J
 |.Xn rng c body k,st,ρ,J,Q=>oz λst' nx f=>f<=100001/\GP Z J rng st st' nx/\
   kz nx (λv J Q'=>exec Z n body [] [(c,v)] J Q') (λws J'=>∀x,J' x=Mq->exec Z n k (.ref x::st') ρ (upd J' x (.list ws)) Q) f 0 [] J
 |.ret,st,_,J,Q=>p1 (λv d=>Q (.ret v) J) st
 |.Wy,_,ρ,J,Q=>Q (.next ρ) J
 |.brk,_,ρ,J,Q=>Q (.brk ρ) J
 |.WY,_,ρ,J,Q=>Q (.WY ρ) J
 |.rai,_,_,_,_=>False
 |.yld,st,ρ,J,Q=>p1 (λv d=>Q (.val v ρ) J) st
structure CX where
 K:PO
 scope:O1
noncomputable def qD:Op->RE
 |.add=>.Add|.sub=>.Sub|.mul=>.Mult|.shl=>.LShift|.shr=>.RShift|.Zc=>.BitAnd|.bor=>.BitOr|.Yc=>.FloorDiv|.X1=>.Mod|.pow=>.Pow
noncomputable def sK:Cm->U7
 |.lt=>.Lt|.le=>.LtE|.gt=>.Gt|.ge=>.GtE
noncomputable def HK:(op:RE)->Option {o:Op // op=qD o}
 |.Add=>Mc ⟨.add,rfl⟩|.Sub=>Mc ⟨.sub,rfl⟩|.Mult=>Mc ⟨.mul,rfl⟩|.LShift=>Mc ⟨.shl,rfl⟩|.RShift=>Mc ⟨.shr,rfl⟩|.BitAnd=>Mc ⟨.Zc,rfl⟩|.BitOr=>Mc ⟨.bor,rfl⟩|.FloorDiv=>Mc ⟨.Yc,rfl⟩|.Mod=>Mc ⟨.X1,rfl⟩|.Pow=>Mc ⟨.pow,rfl⟩
 |_=>Mq
noncomputable def F5:(op:U7)->Option {o:Cm // op=sK o}
 |.Lt=>Mc ⟨.lt,rfl⟩|.LtE=>Mc ⟨.le,rfl⟩|.Gt=>Mc ⟨.gt,rfl⟩|.GtE=>Mc ⟨.ge,rfl⟩
 |_=>Mq
noncomputable def Xj:MX->Bool
 |.Starred _ _=>Mh
 |_=>Mg
noncomputable def du:MX->Bool
 |.Slice ..=>Mh
 |_=>Mg
noncomputable def YD:MX->Bool
 |.Set ..=>Mh
 |_=>Mg
noncomputable def cW(X:CX)(scope:O1):CX:=⟨X.K,{scope with names:=scope.names.map λ(n,k)=>if k==.free&&X.scope.kind==.function&&X.scope.names.lookup n==Mc .cell then(n,.cell) else(n,k)}⟩
abbrev Ez(X:CX)(scope:O1)(y:Nn):Prop:=
 scope.kind=.function/\(∀x∈scope.names,x.2≠.cell)/\(∀x∈scope.names,x.2=.free->X.scope.kind=.function/\X.scope.names.lookup x.1=Mc .cell)/\
 (∀x∈scope.names,x.2=.local->scope.names.lookup x.1=Mc .local)/\scope.names.lookup y=Mc .local/\enc y≠0
noncomputable def kr(X:CX)(scope:O1)(y:Nn):Bool:=M0 (Ez X scope y)
inductive St(Z:Sys)(Φ:bA)(J:Sg)(L:Mk)(ρ:Loc)(s:Ml):Prop
 |mk (g:Mk->Own) (m:Nn->Option Md) (inv:Inv Φ J g s.heap) (hL:g L=.loc) (ns:s.heap.Ns L m) (hm:dJ m ρ) (gens:s.gens=#[]) (os:s.os=Z.os)
variable{ρ:Loc}
theorem St.gens:St Z Φ J L ρ s->s.gens=#[]|⟨_,_,_,_,_,_,h,_⟩=>h
theorem St.os:St Z Φ J L ρ s->s.os=Z.os|⟨_,_,_,_,_,_,_,h⟩=>h
theorem St.tk(x:St Z Φ J L ρ s)(t:Nat):St Z Φ J L ρ {s with toks:=t}:=by cases x with|mk g m a b c d e f=>exact .mk g m a b c d e f
noncomputable def PV(Z:Sys)(Φ:bA)(L:Mk)(ρ:Loc)(C:Md->Sg->Prop)(v:Md)(s':Ml):Prop:=∃J',St Z Φ J' L ρ s'/\C (er v) J'
variable{op:Op}{C:Md->Sg->Prop}
theorem yz{a b:Int}{u:Ue}(x:St Z Φ J L ρ s)(ok:uH op a b)(h:C (.int (opV op a b) 0) J):Mx (Mj Z.prog Z.w) A (binaryOp (qD op) (.int a t) (.int b u)) (PV Z Φ L ρ C) E s:=by
 have q:PV Z Φ L ρ C (.int (opV op a b) s.toks) {s with toks:=s.toks+1}:=⟨J,x.tk _,h⟩;induction op with
 |add=>exact PyProof.Rows.add_int q
 |sub=>exact sub_int' q
 |mul=>exact mul_int q ok
 |shl=>exact lshift_int_small ok.1 ok.2.1 ok.2.2 q
 |shr=>exact rshift_int ok q
 |Zc=>exact and_int q
 |bor=>exact or_int q
 |Yc=>exact floordiv_int ok.1 q (.inl (PyProof.noPylong_of_log2 ok.2))
 |X1=>exact mod_int' ok q
 |pow=>exact pow_int_small ok.1 ok.2.1 ok.2.2 q
theorem yR{a b:Int}{u:Ue}(x:St Z Φ J L ρ s)(ok:uH op a b)(h:C (.int (opV op a b) 0) J)(ho:BP op=Mh):Mx (Mj Z.prog Z.w) A (UN (qD op) (.int a t) (.int b u)) (PV Z Φ L ρ C) E s:=by
 have q:PV Z Φ L ρ C (.int (opV op a b) s.toks) {s with toks:=s.toks+1}:=⟨J,x.tk _,h⟩;induction op with
 |add=>exact PyProof.Rows.iadd_int q
 |sub=>exact PyProof.Rows.isub_int q
 |shl=>exact ilshift_int_small ok.1 ok.2.1 ok.2.2 q
 |shr=>exact irshift_int ok q
 |bor=>exact ior_int q
 |_=>cases ho
theorem ua{op:Cm}{a b:Int}{u:Ue}(x:St Z Φ J L ρ s)(h:C (.bool (yn op a b)) J):Mx (Mj Z.prog Z.w) A (Qj (sK op) (.int a t) (.int b u)) (PV Z Φ L ρ C) E s:=by
 have q:PV Z Φ L ρ C (.bool (yn op a b)) s:=⟨J,x,h⟩;induction op with
 |lt=>exact PyProof.Rows.lt_int q
 |le=>exact PyProof.Rows.le_int q
 |gt=>exact PyProof.Rows.gt_int q
 |ge=>exact PyProof.Rows.ge_int q
variable{ns:List Nn}
theorem gP(nd:ns.Nodup):∀{i:Nat}{n:Nn}{v:Md},ns[i]?=Mc n->vs[i]?=Mc v->(ns.zip vs).lookup n=Mc v:=by
 induction ns generalizing vs with
 |nil=>intro i n v h;simp at h
 |cons m r ih=>
  intro i n v h1 h2;cases vs with
  |nil=>simp at h2
  |cons u vs=>
   rw[OH,Ow];induction i with
   |zero=>simp at h1 h2;subst h1 h2;simp
   |succ i=>simp only[QN] at h1 h2;have hm:n∈r:=MO h1;have:(n==m)=false:=beq_eq_false_iff_ne.mpr λq=>(OE.mp nd).1 (q▸hm);rw[this];exact ih (OE.mp nd).2 h1 h2
theorem nq(nd:ns.Nodup):∀{i:Nat}{n:Nn},ns[i]?=Mc n->vs.length<=i->(ns.zip vs).lookup n=none:=by
 induction ns generalizing vs with
 |nil=>intro i n h;simp at h
 |cons m r ih=>
  intro i n h1 h2;induction vs with
  |nil=>rfl
  |cons u vs=>
   rw[OH,Ow];induction i with
   |zero=>simp at h2
   |succ i=>simp only[QN] at h1;have hm:n∈r:=MO h1;have:(n==m)=false:=beq_eq_false_iff_ne.mpr λq=>(OE.mp nd).1 (q▸hm);rw[this];exact ih (OE.mp nd).2 h1 (by simpa using h2)
variable{l:List (Nn×Md)}
theorem nB(hl:ns.length<=vs.length)(h:∀(i:Nat)(n:Nn)(v:Md),ns[i]?=Mc n->vs[i]?=Mc v->l.lookup n=Mc v):(ns.filterMap λn=>(l.lookup n).map (n,·))=ns.zip vs:=by
 induction ns generalizing vs with
 |nil=>rfl
 |cons m r ih=>
  induction vs with
  |nil=>simp at hl
  |cons v vs=>rw[List.filterMap_cons,h 0 m v rfl rfl];simp only[Pb,OH];rw[ih (by simpa using hl) λi n u h1 h2=>h (i+1) n u (by simpa using h1) (by simpa using h2)]
noncomputable def fill(l:List (Nn×Md)):List (Nn×Md)->List (Nn×Md)
 |[]=>l
 |(n,d)::r=>fill (if(l.lookup n).isNone then l++[(n,d)] else l) r
theorem iP{n:Nn}{v:Md}:∀{r l:List (Nn×Md)},l.lookup n=Mc v->(fill l r).lookup n=Mc v
 |[],_,h=>h
 |(m,d)::r,l,h=>by
  refine iP (r:=r) ?_;split;·rw[PH,h];rfl
  ·exact h
theorem qx{n:Nn}{d:Md}:∀{r l:List (Nn×Md)}{i:Nat},(r.map (·.1)).Nodup->r[i]?=Mc (n,d)->l.lookup n=Mq->(fill l r).lookup n=Mc d
 |[],_,i,_,h,_=>by simp at h
 |(m,e)::r,l,0,nd,h,hn=>by simp at h;obtain⟨rfl,rfl⟩:=h;refine iP (r:=r) ?_;rw[hn];simp[PH,hn]
 |(m,e)::r,l,i+1,nd,h,hn=>by
  simp only[QN] at h;simp only[Nm,OE] at nd;refine qx (r:=r) nd.2 h ?_;have hm:n≠m:=λq=>nd.1 (q▸NA (f:=(·.1)) (MO h));split;·rw[PH,hn];simp[Ow,beq_eq_false_iff_ne.mpr hm]
  ·exact hn
theorem sL{M:RW}{Q:List (Nn×Md)->Ml->Prop}(r:List (Nn×Md)):∀{l:List (Nn×Md)},Q (fill l r) s-> Mx M A (forIn r l λx (b:List (Nn×Md))=>(if(b.lookup x.1).isNone then NN (QA (b++[(x.1,x.2)])) else NN (QA b):RV (ForInStep (List (Nn×Md))))) Q E s:=by
 induction r with
 |nil=>intro l h;rw[List.forIn_nil];exact Mz h
 |cons p r ih=>
  intro l h;obtain⟨n,d⟩:=p;rw[List.forIn_cons];refine Mf ?_;dsimp only;cases hq:(l.lookup n).isNone with
  |true=>rw[if_pos rfl];refine Mz (ih ?_);have h:Q (fill (if(l.lookup n).isNone=Mh then l++[(n,d)] else l) r) s:=h;rw[if_pos hq] at h;exact h
  |false=>rw[if_neg (by decide)];refine Mz (ih ?_);have h:Q (fill (if(l.lookup n).isNone=Mh then l++[(n,d)] else l) r) s:=h;rw[if_neg (by rw[hq];decide)] at h;exact h
inductive aaQ(p:VE)(ns:List Nn):Prop where
 |mk (po:p.posonlyargs=[])
  (ar:p.args.map (·.arg)=ns)
  (va:p.vararg=Mq)
  (ko:p.kwonlyargs=[])
  (kw:p.kwarg=Mq)
variable{ds:List Md}
theorem zT{vals:List Md}(nd:ns.Nodup)(h2:ds.length<=ns.length)(h3:ns.length<=vals.length+ds.length):(ns.take (ns.length-ds.length)).filter (λn=>((ns.zip vals).lookup n).isNone)=[]:=by rw[List.filter_eq_nil_iff];intro n hn;refine ae (List.getElem_of_mem hn) λi z1=>?_;refine ae z1 λhi z2=>?_;rw[OI] at hi;have hv:i<vals.length:=iK 0x42484508610001a5510cc565aa866a5228a0a08ea8472159054140f [] [_,_,_,_,_,_] h3 hi (Me h2) (OR _ _);rw[<-z2,List.getElem_take,gP nd (MG _) (MG hv)];nofun
theorem Ao{vals:List Md}(nd:ns.Nodup)(h1:vals.length<=ns.length)(h2:ds.length<=ns.length)(h3:ns.length<=vals.length+ds.length):(ns.filterMap λn=>((fill (ns.zip vals) ((ns.drop (ns.length-ds.length)).zip ds)).lookup n).map (n,·))=ns.zip (vals++ds.drop (vals.length+ds.length-ns.length)):=by
 refine nB (by rw[MH,Pn];exact Hq h3) λi n v hi hv=>?_;by_cases hlt:i<vals.length;·rw[M7 hlt] at hv;exact iP (gP nd hi hv)
 ·have hle:=Rd hlt;rw[MY hle,QD] at hv;have hin:i<ns.length:=(MK.mp hi).1;refine qx ?_ ((Qn (i:=i-(ns.length-ds.length))).mpr ⟨?_,?_⟩) (nq nd hi hle);·rw[Rf (by rw[Pn];exact ao 0x422842003da9413428f6aa42b4a9054130f [] [_,_,_,_] (Me h2) (Me (V8 _ _)))];exact nd.sublist (List.drop_sublist _ _)
  ·rw[QD,show ns.length-ds.length+(i-(ns.length-ds.length))=i from af 0x8420027080004e5508cfa3b2a8267d1d [] [_,_,_] (Me (aS Ln [] [_,_,_,_,_] h3 hlt (Me h2)))];exact hi
  ·rw[show i-(ns.length-ds.length)=vals.length+ds.length-ns.length+(i-vals.length) from iK 0x42684908e10001a42784b08a10801a65d4856a5238ba19d54234e98e5a826851faa2d0ad4a472a11c151d [] [_,_,_,_,_,_,_,_] (Me h2) (Me (aS Ln [] [_,_,_,_,_] h3 hlt (Me h2))) (Me h3) (Me (af 0x840002750930954130f [] [_,_] hlt))];exact hv
variable{fd:Ss}
theorem qT{vals:List Md}(hp:aaQ fd.params ns)(nd:ns.Nodup)(hd:∀(M:RW)(A:O8)(E:Md->Ml->Prop)(Q:Option (Array Md)->Ml->Prop),(∀x:Option (Array Md),(x.getD #[]).toList=ds->Q x s)->Mx M A (seqItems? fd.defaults) Q E s)(h1:vals.length<=ns.length)(h2:ds.length<=ns.length)(h3:ns.length<=vals.length+ds.length):VZ s fd ⟨vals,[]⟩ (ns.zip (vals++ds.drop (vals.length+ds.length-ns.length))):=by
 intro M A E Q hq;obtain⟨_,_,⟨po,ar,va,ko,_,kg,_⟩,_,_,_,_,df⟩:=fd;induction hp with
 |mk e1 e2 e3 e4 e5=>
 replace e1:po=[]:=e1;replace e2:ar.map (·.arg)=ns:=e2;replace e3:va=none:=e3;replace e4:ko=[]:=e4;replace e5:kg=none:=e5;subst e1 e2 e3 e4 e5;show Mx M A (seqItems? df>>=_) Q E _;refine Mf (hd M A E _ λx hx=>?_);subst hx;have e0:(x.getD #[]).toList.drop ((x.getD #[]).toList.length-(ar.map (·.arg)).length)=(x.getD #[]).toList:=by rw[Ul h2];rfl
 refine Um (decide_eq_false λz=>absurd (of_decide_eq_true (MQ.mp z).1) (PF.mpr h1)) (Um (decide_eq_false λz=>?c2) (Mf (sL (Q:=λslots s'=>_) _ (Mz ?_))));case c2=>
  refine Tz (z.symm.trans (congrArg (λl:List Nn=>!l.isEmpty) (Eq.trans (b:=(ar.map (·.arg)).take ((ar.map (·.arg)).length-(x.getD #[]).toList.length) |>.filter _) ?_ (zT nd h2 h3))))
  exact congrArg (λd:List Md=>((ar.map (·.arg)).take ((ar.map (·.arg)).length-d.length)).filter (λn=>(((ar.map (·.arg)).zip vals).lookup n).isNone)) e0
 show Q (List.filterMap (λn=>((fill ((ar.map (·.arg)).zip vals) (((ar.map (·.arg)).drop ((ar.map (·.arg)).length-((x.getD #[]).toList.drop ((x.getD #[]).toList.length-(ar.map (·.arg)).length)).length)).zip ((x.getD #[]).toList.drop ((x.getD #[]).toList.length-(ar.map (·.arg)).length)))).lookup n).map (n,·)) (ar.map (·.arg)++[])) _;rw[e0,NF,Ao nd h1 h2 h3];exact hq
noncomputable def bA.add(Φ:bA)(L:Mk)(o:P8):bA:=⟨λb=>if b=L then Mc o else Φ.o b,Φ.fr⟩
theorem bA.XR:(Φ.add L o).o L=Mc o:=if_pos rfl
theorem bA.YW{b:Mk}(h:b≠L):(Φ.add L o).o b=Φ.o b:=if_neg h
theorem bA.Zp{o':P8}(h:Φ.o L=Mq)(e:Φ.o a=Mc o):(Φ.add L o').o a=Mc o:=(if_neg λq=>by rw[q,h] at e;cases e).trans e
inductive xv(Z:Sys)(Φ:bA)(J:Sg)(L:Mk)(ρ:Loc)(n:Nat)(A:O8)(s:Ml):Prop
 |mk (Φ':bA) (g:Mk->Own):Inv Φ' J g s.heap->WI Z Φ'->oU n A Φ'->(∀J' g' s',Inv Φ' J' g' s'.heap->s'.gens=#[]->s'.os=Z.os->St Z Φ J' L ρ s')->xv Z Φ J L ρ n A s
theorem St.aap(hb:WI Z Φ)(hr:og n A Φ L)(x:St Z Φ J L ρ s):xv Z Φ J L ρ n A s:=by
 obtain⟨g,m,I,hL,⟨oL,es,ep,hLo,r⟩,hm,hg,ho⟩:=x;have hΦL:Φ.o L=none:=I.Z2 (by rw[hL];exact nofun);refine⟨Φ.add L oL,ij g L .W0,I.Zn (.inl hL) ⟨_,hLo⟩ (λb q=>⟨bA.YW q,Pl⟩) (λo e=>?_) λb=>.inl rfl,λa o e=>⟨bA.Zp hΦL (hb a o e).1,(hb a o e).2⟩,?_,λJ' g' s' I2 hg' ho'=>?_⟩;·exact⟨rfl,by rw[hLo,<-e];exact bA.XR.symm⟩
 ·refine ae hr.2.2.2 λl z3=>?_;exact⟨hr.1,hr.2.1,hr.2.2.1,l,z3.1,z3.2.Wq (λb q=>q) (λa o e=>bA.Zp hΦL e) λa q=>.inr ⟨oL,by rw[q];exact bA.XR,λvs z=>by rw[r.1] at z;cases z⟩⟩
 ·have hL2:=I2.1 L oL bA.XR;refine ae hL2.1 λsl z2=>?_;have hL3:=z2.1;exact⟨ij g' L .loc,m,I2.Zn (.inr hL2.2) ⟨_,hL3⟩ (λb q=>⟨(bA.YW q).symm,Pl⟩) (λo e=>by rw[hΦL] at e;cases e) λb=>.inr rfl,bi,⟨_,es,ep,hL3,r⟩,hm,hg',ho'⟩
theorem tg{vals:List Md}(hb:WI Z Φ)(hr:og n A Φ L)(x:St Z Φ J L ρ s)(h:ac Z n f (vals.map er) J C):Wc.Wv (Mj Z.prog Z.w) A (.call f ⟨vals,[]⟩) (λr s'=>∃v,r=.ok (.ret v)/\PV Z Φ L ρ C v s') s:=by
 have zqi:_:=x.aap hb hr;induction zqi with
 |mk Φ' g I hb' hr' back=>exact Wc.WO (h _ _ s A vals I hb' hr' x.gens x.os rfl) λr s' ⟨v,J',g',e,I',h1,h2,hC⟩=>⟨v,e,J',back J' g' s' I' h1 h2,hC⟩
theorem hO{vals:List Md}(hb:WI Z Φ)(hr:og n A Φ L)(x:St Z Φ J L ρ s)(h:ac Z n f (vals.map er) J C):Wc.Wi (Mj Z.prog Z.w) A (OG f vals) (PV Z Φ L ρ C) E s:=
 Wc.WN (Wc.WO (tg hb hr x h) λr s' ⟨v,e,q⟩=>by rw[e];exact q)
noncomputable def Bs:Data->Option (Array Md×Nat)
 |.seq vs n=>Mc (vs,n)
 |_=>Mq
variable{d:Data}{v:Array Md×Nat}
theorem tD(h:Bs d=Mc v):d=.seq v.1 v.2:=by cases d<;>first|exact cns h|exact congrArg (λx:Array Md×Nat=>Data.seq x.1 x.2) (MI h)
noncomputable def zc(o:P8):Option (Array Md×Nat):=bif o.cls==.type "tuple"&&o.dict.isNone then Bs o.data else Mq
theorem tw(h:zc o=Mc v):o=⟨.type "tuple",Mq,.seq v.1 v.2,o.slots⟩:=by
 obtain⟨c,d,dt,sl⟩:=o;unfold zc at h;cases q:(c==.type "tuple"&&d.isNone) with
 |false=>rw[q] at h;cases h
 |true=>rw[q] at h;have z:=MQ.mp q;rw[beq_iff_eq.mp z.1,O9.mp z.2,show dt=_ from tD h]
noncomputable def wG(K:PO)(d:Md)(ds:List Md):Bool:=match d with
 |.none=>ds.isEmpty
 |.ref a=>(K.lookup a).any λo=>(Bs o.data).any λv=>v.1.toList.map er==ds
 |_=>Mg
noncomputable def Zq(p:VE)(ns:List Nat)(sc:O1):Bool:=
 p.posonlyargs.isEmpty&&p.vararg.isNone&&p.kwonlyargs.isEmpty&&p.kwarg.isNone&&(p.args.map λa=>enc a.arg)==ns&&M0 ns.Nodup&&ns.all (· != 0)&&p.args.all λa=>sc.names.lookup a.arg==Mc .local
noncomputable def Eh:(d:Data)->Option {fd:Ss // d=.func fd}
 |.func fd=>Mc ⟨fd,rfl⟩
 |_=>Mq
noncomputable def Z3(d:Data):Option FuncData:=(Eh d).map Uz
theorem py(h:Z3 d=Mc fd):d=.func fd:=ae (MP.mp h) λx z=>x.2.trans (congrArg _ z.2)
noncomputable def cP(K:PO)(f:Mk):Option FuncData:=(K.lookup f).bind λo=>Z3 o.data
noncomputable def xy:(d:FuncBody)->Option {b:List ON // d=.stmts b}
 |.stmts b=>Mc ⟨b,rfl⟩
 |_=>Mq
noncomputable def lx(d:FuncBody):Option (List ON):=(xy d).map Uz
abbrev Hp(K:PO)(fd:Ss)(ns:List Nat)(ds:List Md):Prop:=Zq fd.params ns fd.scope=Mh/\fd.globals=Nw/\fd.builtins=Qc/\fd.closure.isEmpty=Mh/\fd.scope.isCoroutine=Mg/\fd.scope.isGenerator=Mg/\fd.scope.kind=.function/\
 fd.scope.names.all (λx=>x.2 !=.cell)=Mh/\codeIn K fd.code fd.qualname=Mh/\wG K fd.defaults ds=Mh/\ds.length<=ns.length
noncomputable def kW(K:PO)(f:Mk)(ns:List Nat)(ds:List Md):Bool:=match cP K f with
 |some fd=>M0 (Hp K fd ns ds)&&(lx fd.body).isSome
 |none=>Mg
noncomputable def aL(K:PO)(f:Mk):Option (O1×List ON):=(cP K f).bind λfd=>(lx fd.body).map λb=>(fd.scope,b)
inductive Hg(K:PO)(f:Mk)(fd:Ss):Prop
 |mk (o:P8) (b:List ON):K.lookup f=Mc o->o.data=.func fd->fd.body=.stmts b->aL K f=Mc (fd.scope,b)->Hg K f fd
theorem qI{f:Mk}(hf:cP K f=Mc fd)(h2:(lx fd.body).isSome=Mh):Hg K f fd:=by refine ae (My.mp hf) λo z1=>?_;obtain⟨ho,hd⟩:=z1;refine ae (NS.mp h2) λb hb=>?_;refine⟨o,b,ho,py hd,ae (MP.mp hb) λx z=>x.2.trans (congrArg _ z.2),?_⟩;·unfold aL;rw[hf,NH,hb];rfl
inductive Hr(K:PO)(f:Mk)(ns:List Nat)(ds:List Md):Prop
 |mk (o:P8) (fd:Ss) (b:List ON):K.lookup f=Mc o->o.data=.func fd->fd.body=.stmts b->aL K f=Mc (fd.scope,b)->Hp K fd ns ds->Hr K f ns ds
theorem xK{f:Mk}{ns:List Nat}(h:kW K f ns ds=Mh):Hr K f ns ds:=by
 unfold kW at h;cases hf:cP K f with
 |none=>rw[hf] at h;cases h
 |some fd=>
  rw[hf] at h;obtain⟨h1,h2⟩:=MQ.mp h;have zqi:_:=qI hf h2;induction zqi with
  |mk o b a1 a2 a3 a4=>exact⟨o,fd,b,a1,a2,a3,a4,of_decide_eq_true h1⟩
noncomputable def bF(K:PO)(Φ:HM):Prop:=∀a o,K.lookup a=Mc o->Φ a=Mc o
inductive ky(env:VC)(sc:O1)(L:Mk):Prop where
 |mk (scope:env.scope=sc)
  (kind:sc.kind=.function)
  (locals:env.locals=L)
  (globals:env.globals=Nw)
  (builtins:env.builtins=Qc)
theorem xf(nd:(ns.map enc).Nodup)(h0:∀n∈ns,enc n≠0):∀(vs:List Md)(x:Nn),((ns.zip vs).lookup x).map er=gf ((ns.map enc).zip (vs.map er)) (enc x):=by
 induction ns with
 |nil=>intro vs x;rfl
 |cons n r ih=>
  intro vs x;cases vs with
  |nil=>rfl
  |cons v vs=>
   show(match x==n with|true=>Mc v|false=>(r.zip vs).lookup x).map er=if enc n=enc x then Mc (er v) else gf ((r.map enc).zip (vs.map er)) (enc x)
   rw[Nm,OE] at nd;by_cases h:x=n;·rw[h,beq_self_eq_true,if_pos rfl];rfl
   ·rw[beq_eq_false_iff_ne.mpr h,if_neg (λq=>h (lB (h0 n (MT ..)) q.symm))];exact ih nd.2 (λm hm=>h0 m (MU _ hm)) vs x
theorem l6(nd:(l.map (·.1)).Nodup)(x:Nn):l.reverse.lookup x=l.lookup x:=by
 induction l with
 |nil=>rfl
 |cons p r ih=>
  obtain⟨n,v⟩:=p;rw[Nm,OE] at nd;rw[P4,PH,ih nd.2,Ow];by_cases h:x=n
  ·subst h;have:r.lookup x=none:=by rw[List.lookup_eq_none_iff];intro p hp;rw[bne_iff_ne,ne_eq];intro q;exact nd.1 (q▸NA (f:=(·.1)) hp)
   simp[this]
  ·have e:(x==n)=false:=beq_eq_false_iff_ne.mpr h;simp[Ow,e]
theorem jP(nd:(ns.map enc).Nodup):ns.Nodup:=(List.pairwise_map.mp nd).imp λh q=>h (congrArg enc q)
noncomputable def bY(Q:Md->Sg->Prop):Out->Sg->Prop:=λo J=>match o with
 |.ret v=>Q v J
 |_=>False
noncomputable def jT(Z:Sys)(Φ:bA)(L:Mk)(Q:Out->Sg->Prop)(N:Loc->Sg->Prop)(f:T7)(s':Ml):Prop:=bM λJ' ρ'=>St Z Φ J' L ρ' s'/\match f with
 |.next=>N ρ' J'
 |.brk=>Q (.brk ρ') J'
 |.cont=>Q (.WY ρ') J'
 |.ret v=>Q (.ret (er v)) J'
variable{Z':Sys}
theorem qp{fl:T7}{s':Ml}{r:T7->Ph}(ho:Z'.os=Z.os)(leave:∀{J:Sg}{g:Mk->Own}{h:Ox},Inv Φ' J g h->Inv Φ J g h)(h:jT Z' Φ' L (bY Q) (λa J=>Q .none J) fl s')(h1:∀v,r (.ret v)=.ok (.ret v))(h2:r .next=.ok (.ret .none)):AI Z Φ Q (r fl) s':=by
 refine bI h λJ' ρ' z=>?_;have hq:=z.2;induction z.1 with
 |mk g' m' I3 hL ns hm hg' ho'=>
  cases fl with
  |next=>exact⟨.none,J',g',h2,leave I3,hg',ho'.trans ho,hq⟩
  |ret v=>exact⟨v,J',g',h1 v,leave I3,hg',ho'.trans ho,hq⟩
  |brk=>exact hq.elim
  |cont=>exact hq.elim
noncomputable def sg(Z:Sys)(sc:O1)(env:VC):Prop:=∀x,sc.names.lookup x=Mc .cell->oz λa o v=>env.cells.lookup x=Mc a/\Z.base a=Mc o/\o.data=.cell (Mc v)/\o.isFreed=Mg/\gf Z.cv (enc x)=Mc (er v)
theorem tH[BEq β][LawfulBEq β]{j k:β}{u v:α}{r:List (β×α)}(h:((j,u)::r).lookup k=Mc v):(k=j/\v=u)∨r.lookup k=Mc v:=by
 have h:(match k==j with|true=>Mc u|false=>r.lookup k)=Mc v:=h;cases q:k==j with
 |true=>rw[q] at h;exact .inl ⟨beq_iff_eq.mp q,(MI h).symm⟩
 |false=>rw[q] at h;exact .inr h
theorem yW[BEq β]{j k:β}{u:α}{r:List (β×α)}(h:(r.lookup k).isSome=Mh):(((j,u)::r).lookup k).isSome=true:=by
 show(match k==j with|true=>Mc u|false=>r.lookup k).isSome=Mh;cases k==j with
 |true=>rfl
 |false=>exact h
theorem Xh[BEq β][LawfulBEq β]{l:List (β×α)}{k:β}{v:α}(h:l.lookup k=Mc v):(k,v)∈l:=by
 induction l with
 |nil=>cases h
 |cons p r ih=>exact(tH h).elim (λq=>by rw[q.1,q.2];exact MT ..) λq=>MU _ (ih q)
noncomputable def Dt:Nat->Nat->List Nat->List Nat
 |0,_,acc=>acc
 |f+1,n,acc=>if n=0 then acc else Dt f (n/256) (n%256::acc)
noncomputable def qL(c:Nat):Str:=⟨(Dt 40 c []).toArray⟩
noncomputable def X9(C:Nat):Bool:=(BN.lookup C).isSome
theorem oE{C c:Nat}(h:AA C c=Mh):X9 C=true:=by
 unfold AA at h;cases q:Ae.lookup C with
 |none=>rw[q] at h;cases h
 |some l=>exact NT.mp (show Ae.all (λp=>X9 p.1)=Mh by decide) _ (Xh q)
theorem jd{C c f:Nat}(h:mt C c=Mc f):X9 C=true:=by
 unfold mt at h;unfold X9;cases q:BN.lookup C with
 |none=>rw[q] at h;cases h
 |some l=>rfl
theorem wj{C c f:Nat}(h:pt C c=Mc f):X9 C=true:=by
 unfold pt at h;cases q:DC.lookup C with
 |none=>rw[q] at h;cases h
 |some l=>exact NT.mp (show DC.all (λp=>X9 p.1)=Mh by decide) _ (Xh q)
abbrev aaO(K:PO)(C:Mk)(p:Nat×Nat):Prop:=enc (qL p.1)=p.1/\Ou K (.ref C) (qL p.1)=Mc (Mc (.ref p.2))/\isFn K (.ref p.2)=Mh/\(cP K p.2).isSome=Mh
abbrev Es(K:PO)(C:Mk)(c:Nat):Prop:=enc (qL c)=c/\Ou K (.ref C) (qL c)=Mc Mq
noncomputable def aaR:Option (Option Md)->Option Mk
 |some (Mc (.ref q))=>Mc q
 |_=>Mq
variable{q:Mk}
theorem wX{x:Option (Option Md)}(h:aaR x=Mc q):x=Mc (Mc (.ref q)):=by rcases x with _|_|x<;>first|(cases h;done)|(cases x<;>first|(cases h;done)|(cases h;rfl))
noncomputable def wB:Option CFound->Option Mk
 |some (.val (.ref q))=>Mc q
 |_=>Mq
theorem u7{x:Option CFound}(h:wB x=Mc q):x=Mc (.val (.ref q)):=by
 rcases x with _|x;·cases h
 ·induction x with
  |val v=>cases v<;>first|(cases h;done)|(cases h;rfl)
  |get=>cases h
noncomputable abbrev vU(K:PO)(C:Mk)(p:Nat×Nat):Bool:=M0 (enc (qL p.1)=p.1)&&(aaR (Ou K (.ref C) (qL p.1))).any λq=>M0 (UP K (.ref q) "__get__"=Mc (Mc (.builtin "property.__get__"))/\takesIn K (.ref q)=Mc Mh/\((recIn K q "property").bind List.head?)=Mc (.ref p.2))
abbrev F6(K:PO)(C:Mk):Prop:=hasDictIn K C=Mh/\plainGet K C ""=Mh/\Ou K (.ref C) "__setattr__"=Mc (Mc (.builtin "object.__setattr__"))/\plainOver K C=Mh/\makesIn K C=Mh/\noSeq K C=Mh/\
 UP K (.ref C) "__getattribute__"=Mc (Mc (.builtin "type.__getattribute__"))/\readsIn K C (.type "type")=Mh/\wB (findCls K (.ref C) (.type "type") "__init__")=mt C (enc ("__init__":Nn))/\typeIn K (.ref C)=Mc (.type "type")/\
 (∀p∈(BN.lookup C).getD [],aaO K C p)/\(∀p∈(Ae.lookup C).getD [],Es K C p)/\(∀p∈(DC.lookup C).getD [],vU K C p=Mh)
noncomputable def wf(K:PO)(C:Mk):Bool:=M0 (F6 K C)
inductive vP(Z:Sys)(C:Mk):Prop where
 |mk (ok:∃K,bF K Z.base/\wf K C=Mh)
inductive xo(K:PO)(C:Mk):Prop where
 |mk (dict:hasDictIn K C=Mh)
  (get:plainGet K C ""=Mh)
  (set:Ou K (.ref C) "__setattr__"=Mc (Mc (.builtin "object.__setattr__")))
  (over:plainOver K C=Mh)
  (makes:makesIn K C=Mh)
  (noseq:noSeq K C=Mh)
  (init:∀g,mt C (enc ("__init__":Nn))=Mc g->UP K (.ref C) "__getattribute__"=Mc (Mc (.builtin "type.__getattribute__"))/\readsIn K C (.type "type")=Mh/\findCls K (.ref C) (.type "type") "__init__"=Mc (.val (.ref g)))
  (typ:typeIn K (.ref C)=Mc (.type "type"))
  (fld:∀x,enc x≠0->AA C (enc x)=Mh->Ou K (.ref C) x=Mc Mq)
  (meth:∀x f,enc x≠0->mt C (enc x)=Mc f->Ou K (.ref C) x=Mc (Mc (.ref f))/\isFn K (.ref f)=Mh/\(cP K f).isSome=Mh)
  (prop:∀x f,enc x≠0->pt C (enc x)=Mc f->bM λq r=>Ou K (.ref C) x=Mc (Mc (.ref q))/\UP K (.ref q) "__get__"=Mc (Mc (.builtin "property.__get__"))/\takesIn K (.ref q)=Mc Mh/\recIn K q "property"=Mc (.ref f::r))
theorem pk{c:Nat}(h0:enc x≠0)(h:enc (qL c)=c)(e:enc x=c):x=qL c:=(lB h0 (h.trans e.symm)).symm
inductive Eo(Z:Sys)(C:Mk):Prop
 |mk(K:PO):bF K Z.base->xo K C->Eo Z C
section
variable{C:Mk}{f:Nat}
theorem Db(h0:enc x≠0)(h:Es K C (enc x)):Ou K (.ref C) x=Mc none:=by rw[pk h0 h.1 rfl];exact h.2
theorem aao{l:List (Nat×List (Nat×Nat))}{P:Nat×Nat->Prop}{c:Nat}(h:∀p∈(l.lookup C).getD [],P p)(hx:((l.lookup C).bind λl=>l.lookup c)=Mc f):P (c,f):=by refine ae (My.mp hx) λl' z13=>?_;obtain⟨hl,hx⟩:=z13;rw[hl] at h;exact h _ (Xh hx)
theorem yJ(h0:enc x≠0)(h:∀p∈(BN.lookup C).getD [],aaO K C p)(hx:mt C (enc x)=Mc f):Ou K (.ref C) x=Mc (Mc (.ref f))/\isFn K (.ref f)=Mh/\(cP K f).isSome=true:=by have:=aao h hx;rw[pk h0 this.1 rfl];exact this.2
theorem Aa(h0:enc x≠0)(h:∀p∈(DC.lookup C).getD [],vU K C p=Mh)(hx:pt C (enc x)=Mc f):bM λq r=>Ou K (.ref C) x=Mc (Mc (.ref q))/\UP K (.ref q) "__get__"=Mc (Mc (.builtin "property.__get__"))/\takesIn K (.ref q)=Mc Mh/\recIn K q "property"=Mc (.ref f::r):=by
 have b:=MQ.mp (aao (P:=λp=>vU K C p=Mh) h hx);rw[pk h0 (of_decide_eq_true b.1) rfl];refine ae ((Option.any_eq_true _ _).mp b.2) λq z12=>?_;have hq:=z12.1;have b:=z12.2;have b:=of_decide_eq_true b;refine ae (My.mp b.2.2) λl z11=>?_;obtain⟨hl,b3⟩:=z11;induction l with
 |nil=>cases b3
 |cons f' r=>cases b3;exact⟨q,r,wX hq,b.1,b.2.1,hl⟩
end
theorem vP.Yj{C:Mk}(h:vP Z C):Eo Z C:=by refine ae h.1 λK z10=>?_;have P:=of_decide_eq_true z10.2;have q:=P.2.2.2.2.2;have r:=q.2.2.2.2;exact⟨K,z10.1,P.1,P.2.1,P.2.2.1,P.2.2.2.1,P.2.2.2.2.1,q.1,λg hg=>⟨q.2.1,q.2.2.1,u7 (q.2.2.2.1.trans hg)⟩,r.1,λx h0 hx=>Db h0 (r.2.2.1 _ (List.contains_iff_mem.mp hx)),λx f h0 hx=>yJ h0 r.2.1 hx,λx f h0 hx=>Aa h0 r.2.2.2 hx⟩
inductive aN(Z:Sys)(Kg:PO):Prop where
 |mk(frag:bF Kg Z.base)
  (ns:bM λmg mb=>(∀h:Ox,(∀a o,Z.base a=Mc o->h.get? a=Mc o)->h.Ns Nw mg/\h.Ns Qc mb/\h.NoLimit)/\∀x:Nn,x≠"__name__"->mb x=Sj x)
  (cls:∀C,X9 C=Mh->vP Z C)
  (sysm:∃o,Z.base T8=Mc o)
  (keep:∀a,Zo a=Mh->∃K,bF K Z.base/\keepIn K (.ref a)=Mh)
  (kl:∀a xs,Z.kl a=Mc xs->bM λys n=>Z.base a=Mc (⟨.type "list",Mq,.seq ys n,#[]⟩:P8)/\ys.toList.map er=xs)
  (kt:∀a xs,Z.kt a=Mc xs->bM λys n=>Z.base a=Mc (⟨.type "tuple",Mq,.seq ys n,#[]⟩:P8)/\ys.toList.map er=xs)
variable{o:Md}{Q:Out->Sg->Prop}{Kg:PO}{D:Mk}
section
variable{k:T}{st:List Md}
theorem St.here(hb:WI Z Φ)(x:St Z Φ J L ρ s):∀a o,Z.base a=Mc o->s.heap.get? a=Mc o:=λa o e=>by obtain⟨g,m,I,_⟩:=x;exact(I.1 a o (hb a o e).1).1.at (hb a o e).2
inductive AB(g:Mk->Own)(h:Ox)(a D:Mk)(fs:Loc):Prop
 |mk (d:Mk) (m:Nn->Option Md) (es:Array Q9) (n:Nat):g d=.part a->h.Ns d m->h.get? d=Mc (⟨.type "dict",Mq,.dict es n,#[]⟩:P8)->xI D fs m es->
  Uy h a ⟨.ref D,Mc d,.plain,#[]⟩ D (Mc ⟨.type "dict",Mq,.dict es n,#[]⟩)->(∀x,lookIn x (⟨.type "dict",Mq,.dict es n,#[]⟩:P8)=Mc (m x))->AB g h a D fs
set_option tactic.hygienic true in
theorem gX(r:R g h a (.Wu D fs)):AB g h a D fs:=by
 refine vx r λd m es n z9=>?_;refine⟨d,m,es,n,z9.2.1,z9.2.2.1,z9.2.2.2.1,z9.2.2.2.2,⟨z9.1,rfl,rfl,z9.2.2.2.1⟩,λx=>?_⟩;refine ae z9.2.2.1 λo z6=>?_;refine ae z6 λes' z7=>?_;refine ae z7 λep z8=>?_;obtain⟨e1,e2,e3,e4⟩:=z8;rw[z9.2.2.2.1] at e1;cases e1;injection e2 with e2;subst e2
 unfold lookIn;dsimp only;have:=e4 x;unfold nsFind findBy at this;rw[<-Array.find?_toList] at this;split;·rename_i en he;rw[he] at this;rw[<-this];rfl
 ·rename_i he;rw[he] at this;rw[if_neg];·rw[<-this];rfl
  ·rw[TB,Vq];intro en hen;refine ae (e3 en (RG.mp hen)) λy z5=>?_;refine ae z5 λt hy=>?_;simp[VF,hy]
theorem tn(B:aN Z Kg)(hb:WI Z Φ)(x:St Z Φ J L ρ s)(hn:enc name≠0)(h:exec Z n (.fld (enc name) k) (er o::st) ρ J Q):Mx (Mj Z.prog Z.w) A (Sh o name expr) (PV Z Φ L ρ λv J'=>exec Z n k (v::st) ρ J' Q) E s:=by refine ae (fZ.inv h) λa z3=>?_;rw[z3.1];refine ga z3.2 λD fs v z4=>?_;have x':=x;obtain⟨g,m,I,_⟩:=x;obtain z2:=I.3 a _ z4.1;obtain⟨d,mm,es,nn,h1,h2,h3,h4,h5,h6⟩:=gX z2.2;have hk:=h4.5 _ (by rw[z4.2.1];rfl);obtain⟨K,hK,F⟩:=(B.3 D (oE hk)).Yj;have X:K.In s.heap:=λa o e=>x'.here hb a o (hK a o e);refine ae (h4.1.get z4.2.1) λu z1=>?_;refine get_value X h5 (Tb F.2).1 (findObj_own F.1 (F.9 name hn hk) rfl (by rw[h6,z1.1])) (h4.2 _ _ z1.1) ?_;exact⟨J,x'.tk _,by rw[z1.2];exact z4.2.2⟩
end
variable{v:Md}
theorem jo(h:iI (er v)=Mh):handedIn v=true:=by cases v<;>first|rfl|exact ctf h.symm|cases h
variable{es:Array Q9}
theorem qC{x:Option P8}{o o':P8}{es':Array Q9}{n':Nat}(h:x=Mc o)(h':x=Mc o')(e:o.data=.dict es n)(e':o'.data=.dict es' n':=by rfl):es=es':=by rw[MI (h.symm.trans h')] at e;injection e.symm.trans e'
variable{d:Mk}
theorem Cg{m:Nn->Option Md}(hn:h.Ns d m)(hd:h.get? d=Mc (⟨.type "dict",Mq,.dict es n,#[]⟩:P8))(name:Nn)(hash:Int)(t:Ue)(v:Md):(h.update d (RI name hash (.str name t) v)).Ns d (λx=>if x=name then Mc v else m x)/\ bM λes' n'=>(h.update d (RI name hash (.str name t) v)).get? d=Mc (⟨.type "dict",Mq,.dict es' n',#[]⟩:P8)/\es'.size<=es.size+1/\((m name).isSome=Mh->es'.size<=es.size):=by
 refine ae hn λo z15=>?_;refine ae z15 λes1 z16=>?_;refine ae z16 λep z17=>?_;have hk:=z17.2.2.1;have hm:=z17.2.2.2;have e2:_:=(qC z17.1 hd z17.2.1).symm;subst e2;cases hi:es.findIdx? (·.key.isStr name) with
 |some i=>
  have hg:(h.update d (RI name hash (.str name t) v)).get? d=Mc (⟨.type "dict",Mq,.dict (es.modify i λe=>{e with val:=v}) n,#[]⟩:P8):=by have e:=Nf (RI name hash (.str name t) v) hd (by simp only[Su,QE,hi];rfl);rw[e];simp only[Su,QE,hi]
  refine⟨⟨_,_,n,hg,rfl,hk.modify _ _,λx=>?_⟩,_,_,hg,by simp,λa=>by simp⟩;show _=if x=name then Mc v else m x
  rw[<-hm];exact findBy_modify (λn v=>v.isStr n) Value.isStr_inj es name x v i hi
 |none=>
  have hg:(h.update d (RI name hash (.str name t) v)).get? d=Mc (⟨.type "dict",Mq,.dict (es.push ⟨hash,.str name t,v⟩) (n+1),#[]⟩:P8):=by have e:=Nf (RI name hash (.str name t) v) hd (by simp only[Su,QE,hi];rfl);rw[e];simp only[Su,QE,hi]
  refine⟨⟨_,_,n+1,hg,rfl,hk.push _ _ _ _,λx=>?_⟩,_,_,hg,by simp,λq=>?_⟩
  ·show _=if x=name then Mc v else m x
   rw[<-hm];exact findBy_push (λn v=>v.isStr n) es name x _ _ v (λy=>by
    show(name==y)=M0 (y=name);by_cases h:y=name;·subst h;simp
    ·have:¬name=y:=λe=>h e.symm;simp[h,this]) hi
  ·exfalso;rw[<-hm,nsFind,findBy_of_findIdx?,hi] at q;cases q
theorem uj(fs:Loc)(c:Nat)(v:Md):fs.length<=(sf fs c v).length/\(gf fs c=Mq->(sf fs c v).length=fs.length+1):=by
 induction fs with
 |nil=>exact⟨Nb _,λa=>rfl⟩
 |cons p r ih=>
  show(p::r).length<=(if p.1=c then(p.1,v)::r else(p.1,p.2)::sf r c v).length/\((if p.1=c then Mc p.2 else gf r c)=Mq->(if p.1=c then(p.1,v)::r else(p.1,p.2)::sf r c v).length=(p::r).length+1);by_cases q:p.1=c;·rw[if_pos q,if_pos q];exact⟨MC _,λh=>by cases h⟩
  ·rw[if_neg q,if_neg q];exact⟨Rg ih.1,λh=>congrArg (·+1) (ih.2 h)⟩
variable{t:Nat}
section
variable{k:T}{st:List Md}
noncomputable def PU(Z:Sys)(Φ:bA)(L:Mk)(ρ:Loc)(C:Sg->Prop)(s':Ml):Prop:=∃J',St Z Φ J' L ρ s'/\C J'
theorem St.at{c:Cell}{m:Nn->Option Md}(I:Inv Φ J g s.heap)(hL:g L=.loc)(hns:s.heap.Ns L m)(hm:dJ m ρ)(hg:s.gens=#[])(ho:s.os=Z.os)(hga:g a=.obj)(al:∀b o,s.heap.get? b=Mc o->∃o',h'.get? b=Mc o')(same:∀b,b≠a->g b≠.part a->h'.get? b=s.heap.get? b)(r:R g h' a c):St Z Φ (upd J a c) L ρ {s with heap:=h',toks:=t}:=by refine⟨g,m,I.at hga al same r,hL,?_,hm,hg,ho⟩;refine ae hns λo z12=>?_;refine ae z12 λes z13=>?_;refine ae z13 λep z14=>?_;have e:=z14.1;have q:=z14.2;exact⟨o,es,ep,(same L (λz=>by rw[z,hga] at hL;cases hL) (λz=>by rw[hL] at z;cases z)).trans e,q⟩
theorem pP(h:Ou K (.ref D) name=Mc Mq):takerIn K D name=Mc none:=by unfold takerIn;rw[h];rfl
theorem tM(B:aN Z Kg)(hb:WI Z Φ)(x:St Z Φ J L ρ s)(hn:enc name≠0)(h:exec Z n (.XF (enc name) k) (er o::er v::st) ρ J Q):Mx (Mj Z.prog Z.w) A (Vp o name v) (λf=>PU Z Φ L ρ λJ'=>exec Z n k st ρ J' Q) E s:=by
 refine ae (fZ.inv h) λa z10=>?_;rw[z10.1];refine bI z10.2 λD fs z11=>?_;have hc:=z11.1;have h1:=z11.2.1;have h2:=z11.2.2.1;have h3:=z11.2.2.2;have x':=x;obtain⟨g,m,I,hL,hns,hm,hg,ho⟩:=x;obtain z9:=I.3 a _ hc;have hgo:=z9.1;have r:=z9.2;obtain⟨d,mm,es,nn,r1,r2,r3,r4,r5,r6⟩:=gX r;have hk:AA D (enc name)=true:=h1.elim (λq=>r4.5 _ q) λq=>q.1;obtain⟨K,hK,F⟩:=(B.3 D (oE hk)).Yj;have X:K.In s.heap:=λa o e=>x'.here hb a o (hK a o e);have hf:=F.9 name hn hk;refine ae (Qw F.1) λcd z8=>?_;have hcd:=z8.1;have hdict:=z8.2;have hda:d≠a:=λq=>by rw[q,hgo] at r1;cases r1
 refine set_plain X r5 F.3 (osa_open (s:={s with toks:=s.toks+1}) X r5 F.4 (pP hf) λb=>?_);refine Mf (Mz (Mf (Mf (wpAny_loadPart r5.at_ (Mf (Looks.here (s:={s with toks:=s.toks+1}) (looks_clsIn X hcd) ?_))))));rw[hdict];refine Mz (a:=Mc d) (Mf (Mz (Mf ?_)));obtain z6:=Cg r2 r3 name (PyData.keyHash Z.w.params name) (s.toks+1) v;have p1:=z6.1;refine bI z6.2 λes' n' z7=>?_;have p2:=z7.1;have p3:=z7.2.1;have p4:=z7.2.2;refine Mf (Mf (wpAny_askSetting (Mz (Mf (wpAny_mkText (Mf (wpAny_loadPart r3 ?_)))))));have c:(!es.any (·.key.isStr name)&&es.any (·.refKey))=false:=by
  refine ae r2 λo' z3=>?_;refine ae z3 λes1 z4=>?_;refine ae z4 λep z5=>?_;have e3:=z5.2.2.1;have e2:_:=(qC z5.1 r3 z5.2.1).symm;subst e2;have:es.any (·.refKey)=false:=by rw[Array.any_eq_false'];intro e he;refine ae (e3 e he) λn z2=>?_;refine ae z2 λt hh=>?_;simp[VF,hh]
  rw[this,Bool.and_false]
 dsimp only;rw[aRefKeyMayBeTheName_at,c];refine wpAny_updatePart r3 ?_;have hle:es'.size<=(sf fs (enc name) (er v)).length/\es'.size<=101:=by
  have q:=uj fs (enc name) (er v);cases hq:gf fs (enc name) with
  |some u=>refine ae (r4.1.get hq) λu' z1=>?_;have hu:=z1.1;have:=p4 (by rw[hu];rfl);have:=r4.3;have:=r4.4;have:=q.1;constructor<;>lia
  |none=>
   have:=q.2 hq;have:=r4.3;rcases h1 with h1|h1
   ·rw[hq] at h1;cases h1
   ·have:=h1.2;constructor<;>lia
 refine Mf (TC p2 (pastItsLine_dict (by have:=hle.2;rw[NK];exact af 0x842002794413a8267f2d8800000071c1334 [] [_,_] hle)) ?_);refine Mz ?_;refine⟨_,St.at (t:=s.toks+1+1) I hL hns hm hg ho hgo (λb o ho=>by
  by_cases q:b=d;·subst q;exact⟨_,p2⟩
  ·exact⟨o,(OS _ _ _ _ q).trans ho⟩) (λb hb1 hb2=>OS _ _ _ _ λq=>hb2 (q▸r1)) ?_,h3⟩
 refine⟨d,_,es',n',(OS _ _ _ _ (Qi hda)).trans r5.at_,r1,p1,p2,r4.1.set hn,λy u hy=>?_,hle.1,hle.2,λc hc=>?_⟩
 ·split at hy;·rw[<-MI hy];exact jo h2
  ·exact r4.2 _ _ hy
 ·rw[jC] at hc;split at hc;·rename_i q;rw[q];exact hk
  ·exact r4.5 _ hc
end
variable{Q':Md->Ml->Prop}{pl:RV Bool}
section
variable{k:T}{st:List Md}
noncomputable def ZG(Z:Sys)(f:Md):Prop:=∃K,bF K Z.base/\keepIn K f=Mh
theorem t9{f:Mk}(h:(cP K f).isSome=Mh):keepIn K (.ref f)=true:=by refine ae (NS.mp h) λfd e=>?_;refine ae (My.mp e) λo z=>?_;obtain⟨c,d,dt,sl⟩:=o;obtain rfl:dt=.func fd:=py z.2;unfold keepIn;dsimp only;rw[z.1]
theorem vZ(B:aN Z Kg)(hb:WI Z Φ)(x:St Z Φ J L ρ s)(hn:enc name≠0)(h:exec Z n (.meth (enc name) k) (er o::st) ρ J Q):Mx (Mj Z.prog Z.w) A (Rh o name pl) (λp s'=>bM λf a=>p=(.ref f,[.ref a])/\ZG Z (.ref f)/\PU Z Φ L ρ (λJ'=>exec Z n k (.ref f::.ref a::st) ρ J' Q) s') E s:=by refine ae (fZ.inv h) λa z12=>?_;obtain rfl:=z12.1;refine ga z12.2 λD fs f z13=>?_;have x':=x;obtain⟨g,m,I,_⟩:=x;obtain z11:=I.3 a _ z13.1;obtain⟨d,mm,es,nn,r1,r2,r3,r4,r5,r6⟩:=gX z11.2;obtain⟨K,hK,F⟩:=(B.3 D (jd z13.2.1)).Yj;have X:K.In s.heap:=λa o e=>x'.here hb a o (hK a o e);obtain z10:=F.10 name f hn z13.2.1;refine method_fn X r5 (Tb F.2).1 (Tb F.2).2 z10.1 (beq_iff_eq.mp z10.2.1) ?_ ⟨f,a,rfl,⟨K,hK,t9 z10.2.2⟩,J,x',z13.2.2.2⟩;show(lookIn name _).map _=_;rw[r6,r4.1.none z13.2.2.1];rfl
theorem aaF(B:aN Z Kg)(hb:WI Z Φ)(hr:cR n A Φ L)(x:St Z Φ J L ρ s)(hn:enc name≠0)(h:exec Z n (.prop (enc name) k) (er o::st) ρ J Q):Wc.Wi (Mj Z.prog Z.w) A (Sh o name expr) (PV Z Φ L ρ λv J'=>exec Z n k (v::st) ρ J' Q) E s:=by refine ae (fZ.inv h) λa z8=>?_;rw[z8.1];refine ga z8.2 λD fs f z9=>?_;have x':=x;obtain⟨g,m,I,_⟩:=x;obtain z7:=I.3 a _ z9.1;obtain⟨d,mm,es,nn,r1,r2,r3,r4,r5,r6⟩:=gX z7.2;obtain⟨K,hK,F⟩:=(B.3 D (wj z9.2.1)).Yj;have X:K.In s.heap:=λa o e=>x'.here hb a o (hK a o e);refine bI (F.11 name f hn z9.2.1) λq rr z6=>?_;have p4:=z6.2.2.2;refine Wc.aaK X r5 (Tb F.2).1 (findObj_data (by refine ae (Qw F.1) λcd z5=>?_;obtain⟨hcd,_⟩:=z5;rw[hcd];rfl) z6.1 z6.2.1 z6.2.2.1) (Tb F.2).2 (Wc.WN (Wc.aaB (s:={s with toks:=s.toks+1}) X p4 ?_));refine Wc.WO (tg (vals:=[.ref a]) hb (hr.Xm (by show A.depth<=_;exact Of _ _) (by show A.units+1<=_;exact ck 0xf841388267b2b [] [_])) (x'.tk _) z9.2.2) λr' s' hh=>?_;refine ae hh λv z3=>?_;rw[z3.1];refine ae z3.2 λJ' z4=>?_;have h2:=z4.2.1;have hv:handedIn v=true:=jo h2;exact Wc.of (handed_on hv ⟨J',z4.1,z4.2.2⟩)
theorem rz(hb:WI Z Φ)(hp:args.any (·.1)=Mg)(hk:ZG Z f)(h:Wc.Wi (Mj Z.prog Z.w) A (Qz args) (λvs s₁=>(∀a o,Z.base a=Mc o->s₁.heap.get? a=Mc o)/\Wc.Wi (Mj Z.prog Z.w) A (OG f (first++vs)) Q' E s₁) E s):Wc.Wi (Mj Z.prog Z.w) A (QT pos f first args []) Q' E s:=by refine ae hk λK z2=>?_;refine Wc.Y2 (P:=λh=>∀a o,Z.base a=Mc o->h.get? a=Mc o) hp (λh hP=>?_) h;refine ae (looks_keep (M:=Mj Z.prog Z.w) z2.2 (λa o e=>hP a o (z2.1 a o e))) λk z1=>?_;have a:=z1.1;have b:=z1.2;exact⟨k,a.elim .inl (λe=>.inr (.inl e)),b⟩
end
theorem eW{st:List Md}{m:Nat}(h:vs.length=m):take? m (vs.reverse++st)=Mc (vs,st):=by
 unfold take?;have e:vs.reverse.length=m:=by rw[List.length_reverse];exact h
 rw[if_pos (by rw[MH];exact af 0x219421001ea84a1f2a11c131d [] [_,_,_] e),<-e,List.take_left',List.drop_left',List.reverse_reverse]<;>rfl
variable{xs:List Md}{op:U7}{zs:Array Md}
section
variable{k:T}{st:List Md}
abbrev PK(Z:Sys)(Φ:bA)(L:Mk)(ρ:Loc)(n:Nat)(k:T)(st:List Md)(Q:Out->Sg->Prop):Md->Ml->Prop:=PV Z Φ L ρ λv J'=>exec Z n k (v::st) ρ J' Q
theorem St.Wx(x:St Z Φ J L ρ s)(o:P8)(t:Nat):St Z Φ J L ρ {s with heap:=s.heap.push o,toks:=t}:=by obtain⟨g,m,I,hL,⟨oL,es,ep,h1,r⟩,hm,hg,ho⟩:=x;exact⟨g,m,I.Wx o,hL,⟨oL,es,ep,i8 h1,r⟩,hm,hg,ho⟩
theorem St.YR(x:St Z Φ J L ρ s):J s.heap.objs.size=none:=by obtain⟨g,m,I,_⟩:=x;exact(I.fresh (MC _)).1
theorem St.Xe(x:St Z Φ J L ρ s)(o:P8)(c:Cell)(ho:o.isFreed=Mg)(r:∀g' h',h'.get? s.heap.objs.size=Mc o->R g' h' s.heap.objs.size c)(t:Nat):St Z Φ (upd J s.heap.objs.size c) L ρ {s with heap:=s.heap.push o,toks:=t}:=by obtain⟨g,m,I,hL,⟨oL,es,ep,h1,q⟩,hm,hg,hos⟩:=x;have hl:L≠s.heap.objs.size:=Nd (Nz h1);exact⟨_,m,I.Xe o c ho r,by unfold ij;rw[if_neg hl];exact hL,⟨oL,es,ep,i8 h1,q⟩,hm,hg,hos⟩
theorem St.keeps(x:St Z Φ J L ρ s)(k:∀b o,s.heap.get? b=Mc o->h'.get? b=Mc o):St Z Φ J L ρ {s with heap:=h',toks:=t}:=by obtain⟨g,m,I,hL,⟨oL,es,ep,h1,q⟩,hm,hg,hos⟩:=x;exact⟨g,m,I.keeps k,hL,⟨oL,es,ep,k _ _ h1,q⟩,hm,hg,hos⟩
theorem St.aaq{o:P8}(x:St Z Φ J L ρ s)(k:∀b o,s.heap.get? b=Mc o->h'.get? b=Mc o)(ho:h'.get? s.heap.objs.size=Mc o)(c:Cell)(r:∀g',R g' h' s.heap.objs.size c)(t:Nat):St Z Φ (upd J s.heap.objs.size c) L ρ {s with heap:=h',toks:=t}:=by obtain⟨g,m,I,hL,⟨oL,es,ep,h1,q⟩,hm,hg,hos⟩:=x;have hl:L≠s.heap.objs.size:=Nd (Nz h1);have F:=I.fresh (MC _);have I2:=(I.keeps k).Y6 (x:=.obj) F.2.2 ⟨o,ho⟩;exact⟨_,m,I2.cell (by unfold ij;rw[if_pos rfl]) F.1 (r _),by unfold ij;rw[if_neg hl];exact hL,⟨oL,es,ep,k _ _ h1,q⟩,hm,hg,hos⟩
theorem th(h:zs.toList.map er=xs):zs.size=xs.length:=by rw[<-h,Mt,NB]
inductive nE(h:Ox)(U:String)(a:Mk)(xs:List Md):Prop
 |mk (ys:Array Md) (n:Nat):h.get? a=Mc (⟨.type U,Mq,.seq ys n,#[]⟩:P8)->ys.toList.map er=xs->ys.size=xs.length->nE h U a xs
theorem nE.of{U:String}(x:bM λys n=>h.get? a=Mc (⟨.type U,Mq,.seq ys n,#[]⟩:P8)/\ys.toList.map er=xs):nE h U a xs:=by refine bI x λys n z18=>?_;exact⟨ys,n,z18.1,z18.2,th z18.2⟩
theorem aw(x:St Z Φ J L ρ s)(hc:J a=Mc (.list xs)):nE s.heap "list" a xs:=by obtain⟨g,m,I,_⟩:=x;exact .of (I.3 a _ hc).2
theorem bE(x:St Z Φ J L ρ s)(hc:J a=Mc (.tup xs)):nE s.heap "tuple" a xs:=by obtain⟨g,m,I,_⟩:=x;exact .of (I.3 a _ hc).2
theorem St.set{c c':Cell}{o':P8}(x:St Z Φ J L ρ s)(hc:J a=Mc c)(hi:∀C fs,c≠.Wu C fs)(hs:NC a s.heap h')(ho:h'.get? a=Mc o')(r:∀g,R g h' a c'):St Z Φ (upd J a c') L ρ {s with heap:=h',toks:=t}:=by
 obtain⟨g,m,I,hL,hns,hm,hg,hos⟩:=x;have hga:=(I.3 a c hc).1;refine St.at (t:=t) I hL hns hm hg hos hga (λb o q=>?_) (λb hb d=>hs.2 b hb) (r g);by_cases e:b=a;·subst e;exact⟨_,ho⟩
 ·exact⟨o,(hs.2 b e).trans q⟩
theorem zk(h:zs.toList.map er=[v]):∃w,zs=#[w]/\er w=v:=by
 obtain⟨l⟩:=zs;cases l with
 |nil=>cases h
 |cons w l=>
  cases l with
  |nil=>exact⟨w,rfl,TF h⟩
  |cons u l=>cases h
theorem qm{st:List Md}{m:Nat}{F:List Md->List Md->Prop}(hm:vs.length=m)(h:bM λus st'=>take? m ((vs.map er).reverse++st)=Mc (us,st')/\F us st'):F (vs.map er) st:=by refine bI h λus st' z17=>?_;have e:=z17.1;rw[eW (by rw[Mt];exact hm)] at e;cases e;exact z17.2
theorem ux(v:Md)(m:Nat)(a:Array Md):(V6 (λx1 x2=>x1++x2) a (M8 m #[v])).toList=a.toList++M8 m v:=by
 induction m generalizing a with
 |zero=>simp
 |succ m ih=>rw[UX,PM,ih];simp[UX]
theorem BS(x:St Z Φ J L ρ s){op:RE}{o:Op}(ho:op=qD o){a b:Md}(h:exec Z n (.bin o k) (er b::er a::st) ρ J Q):Mx (Mj Z.prog Z.w) A (binaryOp op a b) (PK Z Φ L ρ n k st Q) E s:=by
 rw[ho];have h':s5 o J (λr J'=>exec Z n k (r::st) ρ J' Q) (er a) (er b):=h;clear h;generalize ha:er a=a' at h';generalize hb:er b=b' at h';induction h' with
 |int ok q=>refine WM hb λu1=>?_;refine WM ha λt1=>?_;exact yz x ok q
 |bytes e h1 h2=>subst e;refine Xg hb λu1=>?_;refine Xg ha λt1=>?_;exact KBy.add_bytes (db h1 rfl) λt' k'=>⟨J,x.tk _,h2⟩
 |@aa8 y b _ _ e h0 h1 h3=>
  rw[e];refine WM hb λu1=>?_;refine Xg ha λt1=>?_;refine bytes_mul_any (b:=[y]) (by simp) (r9 h0 rfl) (oV h1 rfl) (by simp) λt' k'=>⟨J,x.tk _,?_⟩;have e:((M8 b.toNat [y]).flatten).toArray=Uh b.toNat y:=by apply Q8.mp;simp
  show exec Z n k (.bytes _ 0::st) ρ J Q;rw[e];exact h3
 |@list p q xs ys e hx hy h1 h2=>
  subst e;have:=aq ha;subst this;have:=aq hb;subst this;obtain⟨zs,m1,z1,z2,l1⟩:=aw x hx;obtain⟨ws,m2,w1,w2,l2⟩:=aw x hy;exact concat_meets ⟨_,z1,rfl⟩ ⟨_,w1,rfl⟩ noFill_list_add seq_list_add PySem.F.slot_list_add PySem.F.entry_list_add (PySem.F.args_list_add_2 _ _) (list_addW p q zs ws m1 m2 Mq Mq #[] #[] (by rw[NK];exact aS 0x42384308000a7542512941510c3500d48569b308000000a8267b34 [] [_,_,_,_] h1 l1 l2))
   ⟨z1,w1,_,x.Xe _ (.list (xs++ys)) rfl (λg' h' e=>⟨_,_,e,by simp[z2,w2]⟩) s.toks,h2 _ x.YR⟩
 |@aa3 p v b u e hx h0 h1 h2=>
  rw[e];refine WM hb λu1=>?_;rw[aq ha];obtain⟨zs,m1,z1,z2,_⟩:=aw x hx;refine ae (zk z2) λw z9=>?_;obtain rfl:=z9.1;have e1':(#[w]:Array Md).size*b.toNat=b.toNat:=by simp
  refine wpAny_binaryOp_repeat_ref (T:="list") (U:="int") (by decide) ⟨_,z1,rfl⟩ (λs'=>Vb s' b u1) noFill_list_mul F.fills_int_mul F.slot_int_rmul repeat_list F.slot_int_index.lookup
   (Vc F.slot_int_rmul (Vb s b u1) F.entry_int_rmul (F.args_int_rmul_2 _ _) (int___rmul___int_list b u1 p #[w] m1)
    ⟨z1,rfl,⟨_,z1,rfl⟩,Vc F.slot_list_mul ⟨_,z1,rfl⟩ F.entry_list_mul (F.args_list_mul_2 _ _)
     (AutoListH.list___mul___list_int_3 p #[w] m1 b u1 (by simp[Builtin.List.listFitsIndex];lia) (by rw[e1'];lia) (by rw[e1'];simp[Builtin.List.listTooLong,Sv];exact oV h1 rfl))
     ⟨z1,?_⟩⟩)
  refine⟨_,x.Xe _ (.list (M8 b.toNat v)) rfl (λg' h' e=>⟨_,_,e,?_⟩) _,h2 _ x.YR⟩;have e0:(if(#[w]:Array Md).isEmpty=Mh then 0 else b.toNat)=b.toNat:=by simp
  rw[e0,ux];simp[z9.2]
theorem vE(x:St Z Φ J L ρ s){op:RE}{o:Op}(ho:op=qD o){a b:Md}(h:exec Z n (.iop o k) (er b::er a::st) ρ J Q):Mx (Mj Z.prog Z.w) A (UN op a b) (PK Z Φ L ρ n k st Q) E s:=by rw[ho];refine vx (ints.inv h) λa t b u z8=>?_;rw[z8.1];rw[z8.2.1];exact yR x z8.2.2.1 z8.2.2.2.2 z8.2.2.2.1
theorem xd(x:St Z Φ J L ρ s){o:Cm}(ho:op=sK o){a b:Md}(h:exec Z n (.cmp o k) (er b::er a::st) ρ J Q):Mx (Mj Z.prog Z.w) A (Qj op a b) (PK Z Φ L ρ n k st Q) E s:=by rw[ho];refine vx (ints.inv h) λa t b u z7=>?_;obtain rfl:=z7.1;rw[z7.2.1];exact ua x z7.2.2
theorem y8(x:St Z Φ J L ρ s){o:Cm}(ho:op=sK o){a b:Md}(h:exec Z n (.XJ o k) (er b::er a::st) ρ J Q):Mx (Mj Z.prog Z.w) A (Qj op a b) (PK Z Φ L ρ n k (er b::st) Q) E s:=by rw[ho];refine vx (ints.inv h) λa t b u z6=>?_;rw[z6.1];obtain rfl:=z6.2.1;exact ua x z6.2.2
theorem uA(a:Md):(er a==Value.none)=(a==Value.none):=by cases a<;>rfl
theorem DY(x:St Z Φ J L ρ s){a:Md}{neg:Bool}(h:exec Z n (.isn neg k) (er a::st) ρ J Q):Mx (Mj Z.prog Z.w) A (Qj (if neg then .IsNot else .Is) a .none) (PK Z Φ L ρ n k st Q) E s:=by
 change exec Z n k (.bool (if neg then !(er a==.none) else(er a==.none))::st) ρ J Q at h;rw[uA] at h;induction neg with
 |false=>exact is_none ⟨J,x,h⟩
 |true=>exact isNot_none ⟨J,x,h⟩
theorem Dc(x:St Z Φ J L ρ s){a:Md}(h:exec Z n (.neg k) (er a::st) ρ J Q):Mx (Mj Z.prog Z.w) A (unaryOp .USub a) (PK Z Φ L ρ n k st Q) E s:=by refine bI (bB.inv h) λa t z5=>?_;rw[z5.1];exact neg_int ⟨J,x.tk _,z5.2⟩
theorem CA(x:St Z Φ J L ρ s){m:Nat}(hm:vs.length=m)(hz:m<=1000)(h:exec Z n (.Xy m k) ((vs.map er).reverse++st) ρ J Q):Mx (Mj Z.prog Z.w) A (Ux vs) (PK Z Φ L ρ n k st Q) E s:=by have h:=qm hm h;unfold Ux;exact Pd ⟨_,x.Xe _ (.tup (vs.map er)) rfl (λg' h' e=>⟨_,_,e,by simp⟩) s.toks,h _ x.YR⟩ (by show vs.toArray.size<=Sv;rw[Oi,NK];exact ug hm hz rfl)
theorem za(x:St Z Φ J L ρ s){m:Nat}(hm:vs.length=m)(hz:m<=1000)(h:exec Z n (.W9 m k) ((vs.map er).reverse++st) ρ J Q):Mx (Mj Z.prog Z.w) A (newList vs) (PK Z Φ L ρ n k st Q) E s:=by have h:=qm hm h;unfold newList;exact Pd ⟨_,x.Xe _ (.list (vs.map er)) rfl (λg' h' e=>⟨_,_,e,by simp⟩) s.toks,h _ x.YR⟩ (by show vs.toArray.size<=Sv;rw[Oi,NK];exact ug hm hz rfl)
theorem yY(x:St Z Φ J L ρ s)(h:exec Z n (.YO k) st ρ J Q):PK Z Φ L ρ n k st Q (.ref s.heap.objs.size) {s with heap:=s.heap.push {cls:=.type "dict",data:=.dict #[]}}:=
 ⟨_,x.Xe _ (.W8 []) rfl (λg' h' e=>⟨[],⟨_,e,λp w=>⟨λa he=>by simp at he,.nil⟩,UA⟩,rfl⟩) s.toks,h _ x.YR⟩
theorem Cq(x:St Z Φ J L ρ s){a:Md}(h:exec Z n (.abs k) (er a::st) ρ J Q):Mx (Mj Z.prog Z.w) A (OG (.builtin "abs") [a]) (PK Z Φ L ρ n k st Q) E s:=by
 refine bI (bB.inv h) λa t z4=>?_;rw[z4.1];refine call_abs_int λu tk=>⟨J,x.tk _,?_⟩;show exec Z n k (.int (if a<0 then -a else a) 0::st) ρ J Q;have e:(if a<0 then -a else a)=(a.natAbs:Int):=by
  by_cases h:a<0;·rw[if_pos h,Int.ofNat_natAbs_of_nonpos (Nl h)]
  ·rw[if_neg h,Us (Q6.mp h)]
 rw[e];exact z4.2
theorem Bm(x:St Z Φ J L ρ s){a:Md}(h:exec Z n (.Xq k) (er a::st) ρ J Q):Mx (Mj Z.prog Z.w) A (OG (.type "int") [a]) (PK Z Φ L ρ n k st Q) E s:=by refine ae (dT.inv h) λa z3=>?_;rw[z3.1];exact call_int_bool ⟨J,x.tk _,z3.2⟩
end
theorem iZ(D:Mk):QO (.type "list") (.ref D)=NN false:=by rw[F.mro_list];rfl
variable{cd:ClassData}
theorem yZ(h:clsIn K D=Mc cd):∃o,K.lookup D=Mc o/\o.data=.cls cd:=by
 unfold clsIn at h;cases e:K.lookup D with
 |none=>rw[e] at h;cases h
 |some o=>
  obtain⟨a,b,dt,c⟩:=o;rw[e] at h;induction dt with
  |cls cd'=>exact⟨_,rfl,congrArg _ (MI h)⟩
  |_=>cases h
set_option backward.match.sparseCases true in theorem ZM{o:P8}{Q:Md->Ml->Prop}(X:K.In s.heap)(ha:s.heap.get? a=Mc o)(hc:o.cls=.type "list")(hm:typeIn K (.ref D)=Mc (.type "type"))(hcd:clsIn K D=Mc cd)(h:Q (.bool Mg) {s with toks:=s.toks+1}):Mx (Mj prog w) A (OG (.builtin "isinstance") [.ref a,.ref D]) Q E s:=by
 have hT:s.TypeIs (.ref a) "list":=⟨_,ha,hc⟩;have isT:∀{s':Ml}{A:O8}{E:Md->Ml->Prop}{Q:Bool->Ml->Prop},K.In s'.heap->Q Mh s'->Mx (Mj prog w) A (isType (.ref D)) Q E s':=λ{s' A E Q} X q=>by refine ae (yZ hcd) λo z=>?_;obtain⟨c1,d1,dt,sl⟩:=o;obtain rfl:dt=.cls cd:=z.2;exact Mf (Mf (QF (X _ _ z.1) (Mz (Mz q))))
 refine call_isinstance_of ?_ (by intro e;cases e);unfold Builtin.«isinstance.nested»;refine Mf (Vr hT ?_);rw[if_neg (by exact O2)];refine Mf ((looks_typeIn (M:=Mj prog w) X hm).here ?_);rw[if_pos (by decide)];show Mx _ _ ((do
  if !(<-isType (.ref D)) then
   if <-Builtin.Builtins.hasBases (.ref D) then Uv "isinstance:class-by-__bases__"
   rule "isinstance.not-a-class";raiseError "TypeError" "isinstance() arg 2 must be a type, a tuple of types, or a union"
  if <-Rk (.ref a) (.ref D) then return Mh
  let Mc c <-getAttr? (.ref a) "__class__"|return Mg
  if !(<-isType c) then return Mg
  rule "isinstance.by-__class__";QO c (.ref D):RV Bool)>>=_) _ _ _
 refine Mf (Mf (isT X ?_));rw[if_neg (by decide)];refine Mf (Mf (Vr hT ?_));rw[iZ];refine Mz ?_;rw[if_neg O2];obtain⟨h',g,d,t,os⟩:=s;refine Mf (class_attr_list ha hc ?_);refine Mf (Mz ?_);rw[if_neg (by decide)];refine Mf (Px ?_);rw[iZ];exact Mz (Mz h)
variable{k:Int}{t:Ue}{Q:Unit->Ml->Prop}
theorem qK{l:Mk}{items:Array Md}(ho:s.heap.get? l=Mc (⟨.type "list",Mq,.seq items n,#[]⟩:P8))(h0:0<=k)(hfit:k<2^63)(hn:k<items.size)(hQ:∀h' m,h'.get? l=Mc (⟨.type "list",Mq,.seq (items.setIfInBounds k.toNat v) m,#[]⟩:P8)->NC l s.heap h'->Q () {s with heap:=h'}):Mx (Mj prog w) A (UQ (.ref l) (.int k t) v) Q E s:=by
 have hl:s.heap.IsList l items:=⟨_,ho,rfl,n,rfl⟩;unfold UQ;try with_reducible refine Oy ?_
 first|refine Mf (Mz ?_)|skip
 refine Mf (Tc hl.typeIs (by decide) ?_);refine Mf (OP (name:=OW "__setitem__") hl.typeIs slot_list_setitem
  (Po slot_list_setitem hl.typeIs entry_list_setitem ?_ (args_list_setitem _ _ _)))
 show Mx _ _ (Builtin.List.listSubscript? (.int k t)>>=_) _ _ s;refine Mf (wpAny_listSubscript_int (fitsIndex_of h0 hfit) ?_);clear hfit;refine ae (MW h0) λj z2=>?_;obtain rfl:=z2;have hj:j<items.size:=vX hn;have hx':items[j]?=Mc items[j]:=Qo hj;show Mx _ _ ((seqItemAt l j>>=λr=>NN (r.map (j,·)))>>=_) _ _ s;refine Mf (Mf (wpAny_seqItemAt ho rfl (Mz ?_)));rw[hx'];show Mx _ _ (setSeqItemAt l j v>>=_) _ _ s;have hfin:∃m,(s.heap.update l (V9 (·.setIfInBounds j v))).get? l=Mc (⟨.type "list",Mq,.seq (items.setIfInBounds j v) m,#[]⟩:P8):=by rw[Nf _ ho rfl];exact⟨_,rfl⟩
 refine ae hfin λm hfin=>?_;refine Mf (wpAny_setSeqItemAt ho rfl ?_);first
  |exact Mf (Mz (Mz ⟨.none,rfl,Mz (hQ _ m hfin (OD ..))⟩))
  |exact wpAny_pure ⟨.none,rfl,wpAny_pure (hQ _ m hfin (Heap.SameBut.update ..))⟩
theorem sF(D:DI s.heap d kvs)(hQ:∀h',DI h' d (Ua kvs k v)->NC d s.heap h'->Q () {s with heap:=h'})(hsz:kvs.length<=1000000):Mx (Mj prog w) A (dictSetHashed d (.int k t) (hashInt k) v) Q E s:=by
 have hkey:(Sd prog w).is k (.int k t)=true:=Sw prog w k t;refine ae D λes z1=>?_;have hk:=z1.2.1;have hp:=(hk prog w).2;have hk1:=(hk prog w).1;have hes:es.size<=sizeLine:=by
  have e1:=hp.length;have e2:es.toList.length=es.size:=by simp
  rw[NK];exact ug e1 hsz rfl
 unfold dictSetHashed;try with_reducible refine Oy ?_
 refine Mf (wpAny_dictFind_of hkey z1.1 rfl hk1 ?_);have hidx:(es.findIdx? λe=>(Sd prog w).is k e.key)=kvs.findIdx? λkv=>M0 (kv.1=k):=by rw[<-hp.findIdx k];obtain⟨l⟩:=es;simp
 cases hi:es.findIdx? λe=>(Sd prog w).is k e.key with
 |some i=>
  refine Mf (Px (Mf (wpAny_updateDict z1.1 rfl (U6 (hQ _ ⟨es.modify i λe=>{e with val:=v},?_,λp' w'=>⟨((hk p' w').1).modify i v,?_⟩,?_⟩ (OD ..))))));·rw[Nf _ z1.1 rfl];rw[Ua,if_pos (RX (hidx▸hi)),Mt];rfl
  ·rw[Ua,if_pos (RX (hidx▸hi))];have hl:(es.toList.findIdx? λe=>(Sd p' w').is k e.key)=Mc i:=by rw[<-hi];obtain⟨l⟩:=es;simp;rfl
   have:=(hk p' w').2.modify z1.2.2 hl v;have l:=es;simpa using this
  ·rw[Ua,if_pos (RX (hidx▸hi)),keys_map_store];exact z1.2.2
 |none=>
  have hnot:k∉kvs.map (·.1):=not_mem_of_findIdx_none (hidx▸hi);have hany:¬(kvs.any λkv=>M0 (kv.1=k))=true:=by rw[TG];rintro⟨kv,hkv,he⟩;exact hnot (ND.mpr ⟨kv,hkv,of_decide_eq_true he⟩)
  refine Mf (Px (wpAny_updateDictKeys (hz:=hes) z1.1 rfl (hQ _ ⟨es.push ⟨hashInt k,.int k t,v⟩,?_,λp' w'=>⟨((hk p' w').1).push (Sw p' w' k t) v,?_⟩,?_⟩ (OD ..))));·rw[Nf _ z1.1 rfl];rw[Ua,if_neg hany,MH];rfl
  ·rw[Ua,if_neg hany];have:=(hk p' w').2.append (Sw p' w' k t) (hashInt k) v;have l:=es;simpa using this
  ·rw[Ua,if_neg hany,Oc,Vs];refine⟨z1.2.2,by simp,?_⟩;intro a ha b hb;simp only[Nm,List.map_nil,MM] at hb;rw[hb];exact λe=>hnot (e▸ha)
theorem aay(D:DI s.heap d kvs)(hQ:∀h',DI h' d (Ua kvs k v)->NC d s.heap h'->Q () {s with heap:=h',toks:=s.toks+1})(hsz:kvs.length<=1000000):Mx (Mj prog w) A (UQ (.ref d) (.int k t) v) Q E s:=by
 have hT:s.TypeIs (.ref d) "dict":=(D.at prog w).dictOf.typeIs;unfold UQ;try with_reducible refine Oy ?_
 refine Mf (Tc hT (by decide) ?_);refine Mf (OP (name:=OW "__setitem__") hT slot_dict_setitem
  (Po slot_dict_setitem hT entry_dict_setitem ?_ (args_dict_setitem _ _ _)))
 show Mx _ _ (Builtin.Dict.notOrdered "__setitem__" ⟨[.ref d,.int k t,v],[]⟩>>=_) _ _ s;refine Mf (wpAny_notOrdered_dict hT ?_);show Mx _ _ (dictSet d (.int k t) v>>=_) _ _ s;refine Mf ?_;unfold dictSet;try with_reducible refine Oy ?_
 refine Mf ((Sd prog w).pyHash (Sw prog w k t) ?_);exact sF (s:={s with toks:=s.toks+1}) D (λh' D' hs=>Mz ⟨.none,rfl,Mz (hQ h' D' hs)⟩) hsz
variable{b:Array UInt8}{Q:Md->Ml->Prop}{args:List Md}{j:Int}
namespace BA
theorem Zl:PlainAttrs "bytearray":=
 ⟨⟨"bytearray.__getattribute__",by rw[NG,Na];kernel_rfl,by decide +kernel⟩,by rw[NG,Na];kernel_rfl⟩
theorem Yr:Slot "bytearray" "append" "bytearray.append":=
 .of (owner:="bytearray") (n:="append") (by rw[NG,Na];kernel_rfl) (by decide +kernel) (by decide +kernel) (by decide +kernel)
  (by first|exact .inl (by decide +kernel)|exact .inr (by decide +kernel)) (by rw[NO];kernel_rfl)
theorem ZU:Vd (.builtin "bytearray.append")=NN (.type "method_descriptor"):=by show builtinType _=_;rw[builtinType_eq_fast];kernel_rfl
theorem pA:P9 TA "bytearray.append"=Mc Builtin.«bytearray.append»:=Qk (by kernel_rfl)
theorem rO(a b:Md):Sy "bytearray.append" ⟨[a,b],[]⟩:=by unfold Sy;kernel_rfl
theorem Yt:Slot "bytearray" "extend" "bytearray.extend":=
 .of (owner:="bytearray") (n:="extend") (by rw[NG,Na];kernel_rfl) (by decide +kernel) (by decide +kernel) (by decide +kernel)
  (by first|exact .inl (by decide +kernel)|exact .inr (by decide +kernel)) (by rw[NO];kernel_rfl)
theorem ZV:Vd (.builtin "bytearray.extend")=NN (.type "method_descriptor"):=by show builtinType _=_;rw[builtinType_eq_fast];kernel_rfl
theorem pF:P9 TA "bytearray.extend"=Mc Builtin.«bytearray.extend»:=Qk (by kernel_rfl)
theorem rq(a b:Md):Sy "bytearray.extend" ⟨[a,b],[]⟩:=by unfold Sy;kernel_rfl
theorem qe:Slot "bytearray" "__len__" "bytearray.__len__":=
 .of (owner:="bytearray") (n:="__len__") (by rw[NG,Na];kernel_rfl) (by decide +kernel) (by decide +kernel) (by decide +kernel)
  (by first|exact .inl (by decide +kernel)|exact .inr (by decide +kernel)) (by rw[NO];kernel_rfl)
theorem YQ:P9 TA "bytearray.__len__"=Mc Builtin.«bytearray.__len__»:=Qk (by kernel_rfl)
theorem yj(a:Md):Sy "bytearray.__len__" ⟨[a],[]⟩:=by unfold Sy;kernel_rfl
theorem Ye:Slot "bytearray" "__getitem__" "bytearray.__getitem__":=
 .of (owner:="bytearray") (n:="__getitem__") (by rw[NG,Na];kernel_rfl) (by decide +kernel) (by decide +kernel) (by decide +kernel)
  (by first|exact .inl (by decide +kernel)|exact .inr (by decide +kernel)) (by rw[NO];kernel_rfl)
theorem m8:P9 TA "bytearray.__getitem__"=Mc Builtin.«bytearray.__getitem__»:=Qk (by kernel_rfl)
theorem pU(a b:Md):Sy "bytearray.__getitem__" ⟨[a,b],[]⟩:=by unfold Sy;kernel_rfl
theorem ZX{M:RW}{u:Ue}{Q:Md×List Md->Ml->Prop}(h:Q (.builtin "int.bit_length",[.int i u]) s):Mx M A (Rh (.int i u) (OW "bit_length") pl) Q E s:=
 getMethod_int_bit_length h
theorem u4:("bytearray.__new__".splitOn ".__new__").headD ""="bytearray":=by rw[split_bytearray];rfl
noncomputable def Ba(h:Ox)(a:Mk)(b:Array UInt8):Prop:=h.get? a=Mc (⟨.type "bytearray",Mq,.bytearray b 0,#[]⟩:P8)
theorem m5:Qd (.type "bytearray") "__buffer__"=NN (Mc (.builtin "bytearray.__buffer__")):=by rw[NG,Na];kernel_rfl
theorem qw:Qd (.type "bytearray") "__release_buffer__"=NN (Mc (.builtin "bytearray.__release_buffer__")):=by rw[NG,Na];kernel_rfl
theorem sQ:Qd (.type "bytearray") "__bytes__"=NN none:=by rw[NG,Na];kernel_rfl
theorem sM:Qd (.type "bytearray") "__index__"=NN none:=by rw[NG,Na];kernel_rfl
theorem qz:Qd (.type "bytes") "__bytes__"=NN (Mc (.builtin "bytes.__bytes__")):=by rw[NG,Na];kernel_rfl
theorem WC:QO (.type "bytearray") (.type "bytearray")=NN true:=by rw[NO];kernel_rfl
theorem x9:Qd (.type "bytearray") "__new__"=NN (Mc (.builtin "bytearray.__new__")):=by rw[NG,Na];kernel_rfl
theorem sO:mroOf (.type "bytearray")=NN [.type "bytearray",.type "object"]:=by rw[mroOf_type];kernel_rfl
theorem hH:Slot "bytearray" "__init__" "bytearray.__init__":=
 .of (owner:="bytearray") (n:="__init__") (by rw[NG,Na];kernel_rfl) (by decide +kernel) (by decide +kernel) (by decide +kernel)
  (by first|exact .inl (by decide +kernel)|exact .inr (by decide +kernel)) (by rw[NO];kernel_rfl)
theorem aaj:TypeCalled "bytearray" "bytearray.__new__" "bytearray.__init__":=
 ⟨by decide +kernel,by decide +kernel,⟨_,_,sO⟩,madeBy_type sO x9 (by decide +kernel),by decide +kernel,by rw[NO];kernel_rfl,hH⟩
theorem ut:checkTypeCall "bytearray" ⟨[],[]⟩=NN ():=by kernel_rfl
theorem xg:NP "bytearray.__new__" ⟨[.type "bytearray"],[]⟩=NN ():=by kernel_rfl
theorem uW:P9 TA "bytearray.__new__"=Mc Builtin.«list.__new__»:=
 entryFor_alias (id':="list.__new__") (by kernel_rfl) (by decide +kernel) (by decide +kernel) (by kernel_rfl)
theorem sw:P9 TA "bytearray.__init__"=Mc Builtin.«bytearray.__init__»:=Qk (by kernel_rfl)
theorem uc(a:Md):Sy "bytearray.__init__" ⟨[a],[]⟩:=by unfold Sy;kernel_rfl
theorem nZ:plainId "bytearray.__new__"=true:=by decide +kernel
theorem vo:Sz "bytearray.__init__" "bytearray" ["source", "encoding", "errors"] [] []=NN [Mq,Mq,Mq]:=by kernel_rfl
section
variable{M:RW}{R:Ph->Ml->Prop}
theorem ro{Q:Bool->Ml->Prop}(h:Q Mg s):Wc.Wi M A (Ub v) Q E s:=λΓ p hin hd hc=>by
 show Q (List.any ((Γ.code,p)::Γ.below) _) s;suffices z:List.any ((Γ.code,p)::Γ.below) _=Mg from z.symm▸h
 ·rw[Vq];intro c hcm;have hdec:Wc.dec c.1=false:=by
   rcases MS.mp hcm with q|q;·rw[q];exact hd
   ·exact hc c q
  obtain⟨c,p'⟩:=c;rw[TB];induction c with
  |builtin id args=>
   obtain⟨pos,kw⟩:=args;have hd:Wc.Yl id=false:=hdec;have n:∀k:String,Wc.Yl k=Mh->¬id=k:=λk hk z=>by rw[<-z,hd] at hk;cases hk
   delta VG;refine(dif_neg (n "bytearray.__contains__" (by decide +kernel))).trans ?_;refine(dif_neg (n "bytearray.__mod__" (by decide +kernel))).trans ?_;refine(dif_neg (n "bytearray.__rmod__" (by decide +kernel))).trans ?_;refine(dif_neg (n "_struct.pack_into.held" (by decide +kernel))).trans ?_;refine(dif_neg (n "bytearray.find.held" (by decide +kernel))).trans ?_;induction pos with
   |nil=>rfl
   |cons v t=>unfold Wc.Yl at hd;show(_&&List.contains _ id)=Mg;rw[(Qa.mp hd).1,Bool.and_false]
  |_=>rfl
theorem fm{Q:Array UInt8->Ml->Prop}(ha:Ba s.heap a b)(h:Q b s):Mx M A (Builtin.Bytes.payload (.ref a)) Q E s:=by exact Mf (Mf (QF ha (Mz (Mz h))))
theorem tA{f:Bool->RV α}{Q:α->Ml->Prop}(ha:Ba s.heap a b)(h:Wc.Wi M A (f Mg) Q E s):Wc.Wi M A ((Ub (.ref a) <||> (do return (<-TH (.ref a))>0))>>=f) Q E s:=by refine Wc.Wh (Wc.Wh (ro ?_));refine Wc.of ?_;show Mx _ _ (TH (.ref a)>>=λn=>NN (M0 (n>0))) _ _ _;exact Mf (Mf (QF ha (Mz (Mz h))))
theorem oy{Q:Unit->Ml->Prop}(ha:Ba s.heap a b)(h:Q () s):Wc.Wi M A (Qp (.ref a)) Q E s:=by unfold Qp;refine tA ha ?_;exact Wc.wpAny_pure h
theorem lT{f:Array UInt8->Array UInt8}{Q:Unit->Ml->Prop}(ha:Ba s.heap a b)(hz:(f b).size<=1000000)(h:∀h',Ba h' a (f b)->NC a s.heap h'->Q () {s with heap:=h'}):Mx M A (RY (.ref a) f) Q E s:=by show Mx M A (updateBytearray a f) Q E s;unfold updateBytearray;refine Mf (QF ha ?_);show Mx _ _ (update a (TJ f)>>=λc=>lookBehind a) _ _ _;refine Mf (wpAny_update ha ?_);have hS:Ba (s.heap.update a (TJ f)) a (f b):=Nf (TJ f) ha rfl;refine TC hS ?_ (h _ hS (OD ..));show(if(f b).size>Sv then Mc "bytearray:memory" else Mq)=Mq;rw[if_neg];rw[NK];exact af 0x4200013f4240104c8a80000007262a [] [_] hz
theorem Aq{Q:UInt8->Ml->Prop}(h0:0<=i)(h1:i<256)(h:Q i.toNat.toUInt8 s):Mx M A (TK (.int i t)) Q E s:=by unfold TK;refine Mf (Nt (a:=i) rfl ?_);refine Oj (by simp only[Qa,decide_eq_false_iff_not];exact(ao 0x2108009c2000138008245a0405e000c1a09c6f2f [_] [] h0 h1:An _ _).and) ?_;exact Mz h
theorem ZT(ha:Ba s.heap a b)(h0:0<=i)(h1:i<256)(hz:b.size<1000000)(hQ:∀h',Ba h' a (b.push i.toNat.toUInt8)->NC a s.heap h'->Q .none {s with heap:=h'}):Wc.Wi (Mj prog w) A (OG (.builtin "bytearray.append") [.ref a,.int i t]) Q E s:=by have hT:s.TypeIs (.ref a) "bytearray":=⟨_,ha,rfl⟩;refine Wc.WN (Wc.WG Yr.plain pA (by decide +kernel) (Wc.of (Yr.check _ _ _ _ _ _ _ _ hT (rO _ _) ?_)));unfold Builtin.«bytearray.append»;refine Wc.Wh (Wc.wpAny_pure ?_);refine Wc.Wh (Wc.of (Aq h0 h1 ?_));refine Wc.Wh (oy ha ?_);refine Wc.Wh (Wc.of (lT ha (by simp;exact af 0x4200013f424010508bd08fc41322 [] [_] hz) λh' e hs=>?_));exact Wc.wpAny_pure (hQ h' e hs)
theorem qV:SW id (.bytes b t) 0=NN (Mc (b,Mq)):=by
 unfold SW;rw[UB KBy.look_buffer,KBy.own_buffer];have e:P0 id (.bytes b t) (full:=(0:Int)==SA)=NN (Mc b):=by rw[show((0:Int)==SA)=Mg from by decide];exact KBy.buffer_eq
 rw[e];rfl
theorem sy:Rl id (.bytes b t) 0=NN (Mc (b,Mq)):=by unfold Rl;rw[qV];rfl
set_option backward.match.sparseCases true in theorem ZR{x:Array UInt8}(ha:Ba s.heap a b)(hz:b.size+x.size<1000000)(hQ:∀h',Ba h' a (b++x)->NC a s.heap h'->Q .none {s with heap:=h'}):Wc.Wi (Mj prog w) A (OG (.builtin "bytearray.extend") [.ref a,.bytes x t]) Q E s:=by
 have hT:s.TypeIs (.ref a) "bytearray":=⟨_,ha,rfl⟩;refine Wc.WN (Wc.WG Yt.plain pF (by decide +kernel) (Wc.of (Yt.check _ _ _ _ _ _ _ _ hT (rq _ _) ?_)));unfold Builtin.«bytearray.extend»;refine Wc.Wh (Wc.wpAny_pure ?_);dsimp only;rw[UB KBy.look_buffer];refine Wc.Wh (Wc.wpAny_pure ?_);dsimp only[Option.isSome_some];rw[if_pos rfl];refine Wc.Wh (Wc.WU (Wc.Wh (Wc.of (fm ha ?_))));rw[sy];refine Wc.Wh (Wc.wpAny_pure ?_);dsimp only[Option.isNone_none];rw[if_pos rfl];show Wc.Wi _ _ (do
  if !x.isEmpty then Qp (.ref a)
  RY (.ref a) (·++x)
  ret .none) _ _ _
 have fin:Wc.Wi (Mj prog w) A.in1 (RY (.ref a) (·++x)) (λc s'=>Q .none s') E s:=Wc.of (lT ha (by simp;exact Np hz) hQ);have tail:=Wc.Wh (f:=λc=>(ret .none:RV Fin)) (Q:=λfin s'=>match fin with
   |.done f=>(match(Except.ok f:Ph) with|.ok (.ret v)=>Q v s'|.ok _=>False|.error e=>E e s')
   |.again c'=>c'.quiet=Mh/\Wc.Wv (Mj prog w) A c' (λr s'=>match r with|.ok (.ret v)=>Q v s'|.ok _=>False|.error e=>E e s') s')
  (Wc.Wm fin (λc c z=>Wc.wpAny_pure z) λc c z=>z)
 by_cases he:x.isEmpty=Mh;·rw[he];exact tail
 ·rw[TB] at he;rw[he];exact Wc.Wh (oy ha tail)
theorem aau(ha:Ba s.heap a b)(hz:b.size<=1000000)(h:∀t k,Q (.int b.size t) {s with toks:=k}):Mx (Mj prog w) A (OG (.builtin "len") [.ref a]) Q E s:=by have hT:s.TypeIs (.ref a) "bytearray":=⟨_,ha,rfl⟩;refine PySem.Calls.call_function_entry kind_len plain_len PySem.entry_len (args_len1 _) ?_;unfold Builtin.«len»;refine Mf (m:=oneArg "len" _) (Mz ?_);refine Mf (m:=Si (.ref a) (OW "__len__")) (OP hT qe (Po qe hT BA.YQ ?_ (yj _)));unfold Builtin.«bytearray.__len__»;refine Mf (Mz ?_);refine Mf (fm ha ?_);refine Mf (UC (Mz ⟨_,rfl,?_⟩));refine Mf (Oy (Mz ?_));refine Mf (UD ?_);show Mx _ _ (if(b.size:Int)<0 then _ else _) _ _ _;rw[if_neg (by exact ck 0x8600027714e11 [] [_])];show Mx _ _ (if(b.size:Int)≥2^63 then _ else _) _ _ _;rw[if_neg (ao 0x422840003d000000000000000020a4df4240104c8af04612 [_] [_] hz ej)];exact Mf (UC (Mz ⟨_,rfl,h _ _⟩))
theorem aan{y:UInt8}(ha:Ba s.heap a b)(h0:0<=j)(h1:j<2^63)(hy:b[j.toNat]?=Mc y)(h:∀t k,Q (.int y.toNat t) {s with toks:=k}):Mx (Mj prog w) A (getItem (.ref a) (.int j t)) Q E s:=by
 have hT:s.TypeIs (.ref a) "bytearray":=⟨_,ha,rfl⟩;unfold getItem;try with_reducible refine Oy ?_
 refine Mf (Tc hT (by decide) ?_);refine Mf (OP (name:=OW "__getitem__") hT Ye (Po Ye hT m8 ?_ (pU _ _)));unfold Builtin.«bytearray.__getitem__»;refine Mf (Mz ?_);dsimp only;have hlt:=(O3.mp hy).1;have hj:VH j b.size=Mc j.toNat:=by have hn:¬j<0:=af 0x42000138101704e0d [_] [] h0;have:j<b.size:=ao Ly [_] [_,_] hlt (ME h0);simp[VH,hn,h0,this]
 have sb:Mx (Mj prog w) A.in1 (Tt (.int j t)) (λr s'=>r=Mc j/\s'=s) E s:=by unfold Tt;refine Mf (OF (T:="int") (Vb s j t) int_index ?_);refine Oj rfl ?_;refine Mf (Nt (a:=j) rfl ?_);refine Oj (by simp only[Builtin.Bytes.fitsIndex,Bool.not_eq_false',Oe,decide_eq_true_eq];exact(ao 0x2108009c21840001fc8843a4080ec88678408f28 [_,_] [] h0 h1:An _ _).and) ?_;exact Mz ⟨rfl,rfl⟩
 refine Mf (NM sb (λr s' hr=>?_) λc c z=>z);obtain rfl:=hr.1;rw[hr.2];refine Mf (fm ha ?_);rw[hj,NH,hy];refine Mf (UC (Mz ⟨_,rfl,Mz (h _ _)⟩))
theorem Zr(h:∀t k,Q (.bytes b t) {s with toks:=k}):Mx (Mj prog w) A (OG (.type "bytes") [.bytes b t]) Q E s:=by
 refine callType_codes (Q₁:=λobj s₁=>s₁.TypeIs obj "bytes"/\Q obj s₁) RK (F.bm_typeCall _) F.entry_object_init ?_ λobj s₁ h₁=>
  ⟨h₁.1,UE obj _,object_init_meets RK.init.lookup RK.made (by decide) prog w A.in1 _ s₁ ⟨h₁.1,rfl,h₁.2⟩⟩
 refine Pr F.bm_plain F.bm_entry (Nt (F.bm_newCall _) ?_);unfold Builtin.«bytes.__new__»;refine Mf (Nt (a:=Mh) rfl ?_);refine Oj rfl ?_;refine Mf (Nt F.bm_sub ?_);refine Oj rfl ?_;refine Mf (Nt (F.bm_bind _) ?_);refine Mf (Nt (a:=()) rfl ?_);refine Mf (Nt (a:=()) rfl ?_);refine Oj rfl ?_;refine Mf (Nt (UB qz) ?_);refine Mf (Px ?_);refine Mf (Nt (a:=TX "bytes") rfl ?_);refine bm_if_true rfl ?_;exact Mz ⟨SX _ _ _,h t s.toks⟩
theorem ZC(ha:Ba s.heap a b)(hz:b.size<=1000000)(h:∀t k,Q (.bytes b t) {s with toks:=k}):Mx (Mj prog w) A (OG (.type "bytes") [.ref a]) Q E s:=by
 have hT:s.TypeIs (.ref a) "bytearray":=⟨_,ha,rfl⟩;refine callType_codes (Q₁:=λobj s₁=>s₁.TypeIs obj "bytes"/\Q obj s₁) RK (F.bm_typeCall _) F.entry_object_init ?_ λobj s₁ h₁=>
  ⟨h₁.1,UE obj _,object_init_meets RK.init.lookup RK.made (by decide) prog w A.in1 _ s₁ ⟨h₁.1,rfl,h₁.2⟩⟩
 refine Pr F.bm_plain F.bm_entry (Nt (F.bm_newCall _) ?_);unfold Builtin.«bytes.__new__»;refine Mf (Nt (a:=Mh) rfl ?_);refine Oj rfl ?_;refine Mf (Nt F.bm_sub ?_);refine Oj rfl ?_;refine Mf (Nt (F.bm_bind _) ?_);refine Mf (Nt (a:=()) rfl ?_);refine Mf (Nt (a:=()) rfl ?_);refine Oj rfl ?_;refine Mf (OF hT sQ ?_);refine Mf (Mf (Mf (QF ha (Mz (Mz ?_)))));refine Oj rfl ?_;refine Mf (OF hT sM ?_);refine bm_if_true rfl ?_;have own1:Mx (Mj prog w) A.in1.in1 (TL (.ref a) "__buffer__") (λr s'=>r=Mh/\s'=s) E s:=by
  have key:∀x:String,x="bytearray"->Mx (Mj prog w) A.in1.in1 (Rk (.ref a) (.type x)) (λr s'=>r=Mh/\s'=s) E s:=λx hx=>by subst hx;exact Ql hT WC ⟨rfl,rfl⟩
  unfold TL;refine Mf (OF hT m5 ?_);refine Oj (by decide +kernel) ?_;exact key _ (by decide +kernel)
 have own2:Mx (Mj prog w) A.in1.in1 (Tv (.ref a)) (λr s'=>r=Mg/\s'=s) E s:=by
  have key:∀x:String,x="bytearray"->Mx (Mj prog w) A.in1.in1 (Rk (.ref a) (.type x)) (λr s'=>r=Mh/\s'=s) E s:=λx hx=>by subst hx;exact Ql hT WC ⟨rfl,rfl⟩
  refine Mf (Mf (OF hT qw ?_));dsimp only;refine Oj (by decide +kernel) ?_;refine NM (key _ (by decide +kernel)) (λr s' hr=>?_) λc c z=>z;obtain rfl:=hr.1;rw[hr.2];exact Mz ⟨rfl,rfl⟩
 have buf:Mx (Mj prog w) A.in1.in1 (P0 "bytes.__new__" (.ref a) Mh) (λr s'=>r=Mc b/\s'=s) E s:=by
  unfold P0;refine Mf (OF hT m5 ?_);refine Mf (NM own1 (λr s' hr=>?_) λc c z=>z);obtain rfl:=hr.1;rw[hr.2];refine Oj rfl ?_;refine Mf (OF hT m5 ?_);try dsimp only
  refine Mf (NM own2 (λr s' hr=>?_) λc c z=>z);obtain rfl:=hr.1;rw[hr.2];refine Oj rfl ?_;exact Mf (fm ha (Mz ⟨rfl,rfl⟩))
 show Mx _ _ (P0 "bytes.__new__" (.ref a) Mh>>=_) _ _ _;refine Mf (NM buf (λr s' hr=>?_) λc c z=>z);rw[hr.1];rw[hr.2];refine Mf (Px (Mf (wpAny_mkBytes ?_ (by rw[NK];exact db hz rfl))));show Mx _ _ (if(TX "bytes"==TX "bytes")=Mh then _ else _) _ _ _;refine bm_if_true (by decide) ?_;exact Mz ⟨SX _ _ _,h _ _⟩
theorem yM{Q:Bool->Ml->Prop}(ha:Ba s.heap a b)(h:Q Mg s):Mx M A (Tv (.ref a)) Q E s:=by
 have hT:s.TypeIs (.ref a) "bytearray":=⟨_,ha,rfl⟩;have key:∀x:String,x="bytearray"->Mx M A (Rk (.ref a) (.type x)) (λr s'=>r=Mh/\s'=s) E s:=λx hx=>by subst hx;exact Ql hT WC ⟨rfl,rfl⟩
 refine Mf (Mf (OF hT qw ?_));dsimp only;refine Oj (by decide +kernel) ?_;refine NM (key _ (by decide +kernel)) (λr s' hr=>?_) λc c z=>z;obtain rfl:=hr.1;rw[hr.2];exact Mz h
theorem wW{Q₁:Md->Ml->Prop}(h:Q₁ (.ref s.heap.objs.size) {s with heap:=s.heap.push {cls:=.type "bytearray",data:=.bytearray #[]}}):VQ (Mj prog w) A (.call (.builtin "bytearray.__new__") ⟨[.type "bytearray"],[]⟩) (wants Q₁ E) s:=by refine PySem.codeAny_of_tree ?_;show Mx _ A.in1 (do NP "bytearray.__new__" ⟨[.type "bytearray"],[]⟩;VR (.builtin "bytearray.__new__" ⟨[.type "bytearray"],[]⟩)) _ _ s;refine Mf (Nt xg (Mz ⟨plainId_quiet nZ _,codeAny_builtin_stack uW rfl λp st=>?_⟩));rw[RD nZ _];have hsub:=WC;have hown:=u4;obtain⟨hp,g,d,tk,os⟩:=s;simp only[hown];wp_walk;exact h
theorem jS{self:Md}{T:String}{Q:Option Md->Ml->Prop}(hT:s.TypeIs self T)(h:Slot T name id)(hc:Wc.Wi M A (OG (.builtin id) (self::args) []) (λv=>Q (Mc v)) E s):Wc.Wi M A (Si self name args []) Q E s:=by refine Wc.Wh (Wc.of (OF hT h.lookup ?_));simp only[h.bind];exact Wc.Wn (Wc.Wh (Wc.wpAny_pure (Wc.Wh (Wc.Wm hc (λv s' h'=>Wc.wpAny_pure h') λa a h'=>h'))))
theorem pO(ha:Ba s.heap a #[])(hQ:∀h',Ba h' a #[]->NC a s.heap h'->Q .none {s with heap:=h'}):Wc.Wi (Mj prog w) A (OG (.builtin "bytearray.__init__") [.ref a] []) Q E s:=by have hT:s.TypeIs (.ref a) "bytearray":=⟨_,ha,rfl⟩;refine Wc.WN (Wc.WG hH.plain sw (by decide +kernel) (Wc.of (hH.check _ _ _ _ _ _ _ _ hT (uc _) ?_)));unfold Builtin.«bytearray.__init__»;refine Wc.Wh (Wc.of (yM ha ?_));refine Wc.Wh (m:=Sz _ _ _ _ _) (Wc.of (Nt vo ?_));refine Wc.Wh (Wc.wpAny_pure ?_);refine Wc.Wh (Wc.wpAny_pure ?_);refine tA ha ?_;show Wc.Wi _ _ (_>>=_) _ _ _;refine Wc.Wh (Wc.of (lT ha (by simp) λh' e hs=>?_));exact Wc.Wh (Wc.wpAny_pure (Wc.wpAny_pure (hQ h' e hs)))
theorem aal(hQ:∀h',Ba h' s.heap.objs.size #[]->(∀b o,s.heap.get? b=Mc o->h'.get? b=Mc o)->Q (.ref s.heap.objs.size) {s with heap:=h'}):Wc.Wi (Mj prog w) A (OG (.type "bytearray") []) Q E s:=by
 refine Wc.WN (Wc.WB rfl ?_);show Wc.Wi _ _ (callAny (.type "bytearray") _) _ _ _;refine Wc.wpAny_pure (a:=Fin.again (.builtin "type.__call__" ⟨[.type "bytearray"],[]⟩)) ⟨QG _ (by decide +kernel),Wc.Xp F.entry_type_call (by decide +kernel) ?_⟩;rw[Around.under_plain (weight_type_call_type "bytearray" [] []) (units_type_call_type "bytearray" [] [])];unfold Builtin.«type.__call__»;dsimp only;rw[if_neg (by decide)];have ifn:∀{α:Type}{A:O8}{c:Bool}{a b:RV α}{Q:α->Ml->Prop}{E:Md->Ml->Prop}{s:Ml},c=Mg->Wc.Wi (Mj prog w) A b Q E s->Wc.Wi (Mj prog w) A (if c=Mh then a else b) Q E s:=λh k=>by subst h;exact k
 refine ifn aaj.canCreate ?_;refine Wc.Wh (Wc.of (Nt ut ?_));refine Wc.Wh (Wc.of (Nt sO ?_));refine ifn rfl ?_;refine Wc.Wh (Wc.of (Nt aaj.made ?_));dsimp only;refine Wc.Wh (Wc.wpAny_pure ?_);refine Wc.Wh (Wc.Wn (Wc.WN (Wc.WO (Wc.aag (wW (E:=E) (Q₁:=λv s'=>v=.ref s.heap.objs.size/\s'={s with heap:=s.heap.push {cls:=.type "bytearray",data:=.bytearray #[]}}) ⟨rfl,rfl⟩)) λr s' hr=>?_)));rcases r with e|(v|_|_|_)<;>first|exact hr|skip
 rw[hr.1];rw[hr.2];have hB:Ba (s.heap.push {cls:=.type "bytearray",data:=.bytearray #[]}) s.heap.objs.size #[]:=MR _ rfl;dsimp only;refine Wc.Wh (Wc.of (Ql (T:="bytearray") ⟨_,hB,rfl⟩ WC ?_));refine ifn rfl ?_;refine Wc.Wh (Wc.Wn (jS (T:="bytearray") ⟨_,hB,rfl⟩ hH (pO hB λh' e hs=>?_)));refine ifn (by decide) ?_;exact Wc.wpAny_pure (hQ h' e λb o hb=>(hs.2 b (Nd (Nz hb))).trans (MD _ hb))
end
end BA
variable{b:List UInt8}{d i:Nat}{Q:Out->Sg->Prop}{ys:Array Md}{slice:MX}{tv:Md}
section
open PySem.SeqAt
section
variable{k:T}{st:List Md}
theorem St.sysm(B:aN Z Kg)(hb:WI Z Φ)(x:St Z Φ J L ρ s){c:Cell}(hc:J a=Mc c):(a==T8)=false:=by refine ae B.4 λo ho=>?_;obtain⟨g,m,I,_⟩:=x;refine beq_eq_false_iff_ne.mpr λe=>?_;subst e;have h1:=(I.1 _ _ (hb _ _ ho).1).2;have h2:=(I.3 _ _ hc).1;rw[h1] at h2;cases h2
theorem dg{m:List (Int×Md)}(x:St Z Φ J L ρ s)(hc:J a=Mc (.W8 m)):∃kvs,DI s.heap a kvs/\kvs.map (λp=>(p.1,er p.2))=m:=by obtain⟨g,m,I,_⟩:=x;exact(I.3 a _ hc).2
theorem cw(x:St Z Φ J L ρ s)(hc:J a=Mc (.WJ b)):s.heap.get? a=Mc (⟨.type "bytearray",Mq,.bytearray b.toArray 0,#[]⟩:P8):=by obtain⟨g,m,I,_⟩:=x;exact(I.3 a _ hc).2
theorem Yi{m:Nat}:(Oh m).all (λa=>Mh)=true:=by simp
theorem pM{ws:Array Md}{ys:List Md}{P:Md->Md->Prop}(z:zs.toList.map er=xs)(w:ws.toList.map er=ys)(h:∀p∈xs.zip ys,P p.1 p.2)(j:Nat)(h1:j<zs.size)(h2:j<ws.size):P (er zs[j]) (er ws[j]):=
 h (er zs[j],er ws[j]) (by rw[<-z,<-w];exact List.mem_iff_getElem.mpr ⟨j,by simp;lia,by simp⟩)
theorem nV(x:St Z Φ J L ρ s){v' w':Md}(h:ey J d v' w'):∀(A:O8)(v w:Md),er v=v'->er w=w'->A.units+d<=9900->EqAt A s v w true:=by
 induction h with
 |@int d p=>intro A v w hv hw _;refine WM hv λt1=>?_;refine WM hw λu1=>?_;have:=EqAt.int_int (A:=A) (s:=s) p t1 p u1;rw[beq_self_eq_true] at this;exact this
 |@str d p=>intro A v w hv hw _;refine Yz hv λt1=>?_;refine Yz hw λu1=>?_;have:=EqAt.str_str (A:=A) (s:=s) p t1 p u1;rw[beq_self_eq_true] at this;exact this
 |none=>intro A v w hv hw _;rw[pT hv,pT hw];exact VI _
 |bool=>intro A v w hv hw _;rw[lm hv,lm hw];exact VI _
 |@list d a b xs ys hx hy hl _ ih=>
  intro A v w hv hw hu;rw[aq hv,aq hw];by_cases hab:a=b;·subst hab;exact VI _
  obtain⟨zs,m1,z1,z2,l1⟩:=aw x hx;obtain⟨ws,m2,w1,w2,l2⟩:=aw x hy;have R:=RcAt.lists (A:=A) (s:=s) (e:=λc=>Mh) ⟨_,z1,rfl,m1,rfl⟩ ⟨_,w1,rfl,m2,rfl⟩ (aS KB [] [_,_,_,_] hl l1 l2) (by unfold Wa;exact af KG [] [_,_] hu) λj h1 h2=>
   pM (P:=λv' w'=>∀(A:O8)(v w:Md),er v=v'->er w=w'->A.units+d<=9900->EqAt A s v w Mh) z2 w2 ih j h1 h2 A.in1 _ _ rfl rfl (by show A.units+1+d<=_;exact af KQ [] [_,_] hu)
  rw[Yi] at R;exact EqAt.of_refs hab R
 |@tup d a b xs ys hx hy hl _ ih=>
  intro A v w hv hw hu;rw[aq hv,aq hw];by_cases hab:a=b;·subst hab;exact VI _
  obtain⟨zs,m1,z1,z2,l1⟩:=bE x hx;obtain⟨ws,m2,w1,w2,l2⟩:=bE x hy;have R:=RcAt.tuples (A:=A) (s:=s) (e:=λc=>Mh) ⟨_,z1,rfl,m1,rfl⟩ ⟨_,w1,rfl,m2,rfl⟩ (by unfold Wa;exact af KG [] [_,_] hu) λj h1 h2=>
   pM (P:=λv' w'=>∀(A:O8)(v w:Md),er v=v'->er w=w'->A.units+d<=9900->EqAt A s v w Mh) z2 w2 ih j h1 h2 A.in1 _ _ rfl rfl (by show A.units+1+d<=_;exact af KQ [] [_,_] hu)
  rw[Yi,show zs.size=ws.size from aS KB [] [_,_,_,_] hl l1 l2,beq_self_eq_true,Bool.true_and] at R;exact EqAt.of_refs hab R
theorem fy[BEq α][LawfulBEq α][DecidableEq α](a b:α):(a==b)=M0 (a=b):=by rw[Bool.eq_iff_iff,beq_iff_eq,decide_eq_true_eq]
theorem yK(x:St Z Φ J L ρ s){w:Md}{b:Mk}(hv:v=.ref a)(hw:w=.ref b)(hu:A.units+d<=9900)(h:ey J d v w):RcAt A s (.ref a) (.ref b) Mh/\RcNeAt A s (.ref a) (.ref b) false:=by
 induction h with
 |@list d p q xs ys hx hy hl h=>
  cases hv;cases hw;obtain⟨zs,m1,z1,z2,l1⟩:=aw x hx;obtain⟨ws,m2,w1,w2,l2⟩:=aw x hy;have he:∀j (h1:j<zs.size) (h2:j<ws.size),EqAt A.in1 s zs[j] ws[j] true:=λj h1 h2=>
   nV x (pM (P:=ey J d) z2 w2 h j h1 h2) A.in1 _ _ rfl rfl (by show A.units+1+d<=_;exact af KQ [] [_,_] hu)
  have R1:=RcAt.lists (A:=A) (s:=s) (e:=λc=>Mh) ⟨_,z1,rfl,m1,rfl⟩ ⟨_,w1,rfl,m2,rfl⟩ (aS KB [] [_,_,_,_] hl l1 l2) (by unfold Wa;exact af KG [] [_,_] hu) he;have R2:=RcNeAt.lists (A:=A) (s:=s) (e:=λc=>Mh) ⟨_,z1,rfl,m1,rfl⟩ ⟨_,w1,rfl,m2,rfl⟩ (aS KB [] [_,_,_,_] hl l1 l2) (by unfold Wa;exact af KG [] [_,_] hu) he;rw[Yi] at R1 R2;exact⟨R1,R2⟩
 |@tup d p q xs ys hx hy hl h=>
  cases hv;cases hw;obtain⟨zs,m1,z1,z2,l1⟩:=bE x hx;obtain⟨ws,m2,w1,w2,l2⟩:=bE x hy;have he:∀j (h1:j<zs.size) (h2:j<ws.size),EqAt A.in1 s zs[j] ws[j] true:=λj h1 h2=>
   nV x (pM (P:=ey J d) z2 w2 h j h1 h2) A.in1 _ _ rfl rfl (by show A.units+1+d<=_;exact af KQ [] [_,_] hu)
  have R1:=RcAt.tuples (A:=A) (s:=s) (e:=λc=>Mh) ⟨_,z1,rfl,m1,rfl⟩ ⟨_,w1,rfl,m2,rfl⟩ (by unfold Wa;exact af KG [] [_,_] hu) he;have R2:=RcNeAt.tuples (A:=A) (s:=s) (e:=λc=>Mh) ⟨_,z1,rfl,m1,rfl⟩ ⟨_,w1,rfl,m2,rfl⟩ (by unfold Wa;exact af KG [] [_,_] hu) he;rw[Yi,show zs.size=ws.size from aS KB [] [_,_,_,_] hl l1 l2,beq_self_eq_true,Bool.true_and] at R1 R2;exact⟨R1,R2⟩
 |_=>cases hv
theorem E4(x:St Z Φ J L ρ s)(hu:A.units+9<=9900){a b:Md}{neg:Bool}(h:exec Z n (.eqv neg k) (er b::er a::st) ρ J Q):Mx (Mj Z.prog Z.w) A (Qj (if neg then .NotEq else .Eq) a b) (PK Z Φ L ρ n k st Q) E s:=by
 refine ae h λr q11=>?_;have hr:=q11.1;have h:=q11.2;have fin:∀{r'},r'=(if neg=Mh then !r else r)->PK Z Φ L ρ n k st Q (.bool r') s:=λ{r'} e=>⟨J,x,by rw[e];exact h⟩;clear h;generalize ha:er a=a' at hr;generalize hb:er b=b' at hr;induction hr with
 |int=>
  refine WM ha λt1=>?_;refine WM hb λu1=>?_;cases neg with
  |false=>exact PyProof.Rows.eq_int (fin (by rw[fy];rfl))
  |true=>exact PyProof.Rows.ne_int (fin (by unfold bne;rw[fy];rfl))
 |str=>
  refine Yz ha λt1=>?_;refine Yz hb λu1=>?_;cases neg with
  |false=>exact PyProof.Rows.eq_str (fin (by rw[fy];rfl))
  |true=>exact PyProof.Rows.ne_str (fin (by unfold bne;rw[fy];rfl))
 |@bytes p q=>
  refine Xg ha λt1=>?_;refine Xg hb λu1=>?_;have hd:(p.toList==q.toList)=M0 (p=q):=by rw[Bool.eq_iff_iff,beq_iff_eq,decide_eq_true_eq,Q8]
  induction neg with
  |false=>exact eq_bytes (fin (by rw[hd];rfl))
  |true=>exact ne_bytes (fin (by unfold bne;rw[hd];rfl))
 |same hr=>
  rw[aq ha];rw[aq hb];obtain q4:=yK x rfl rfl hu hr;induction neg with
  |false=>exact q4.1 _ _ _ _ (fin rfl)
  |true=>exact q4.2 _ _ _ _ (fin rfl)
 |@odd p q xs ys hx hy hne=>
  rw[aq ha];rw[aq hb];obtain⟨zs,m1,z1,z2,l1⟩:=aw x hx;obtain⟨ws,m2,w1,w2,l2⟩:=aw x hy;have hsz:(zs.size !=ws.size)=true:=by rw[bne_iff_ne];lia
  have i1:s.heap.IsList p zs:=⟨_,z1,rfl,m1,rfl⟩;have i2:s.heap.IsList q ws:=⟨_,w1,rfl,m2,rfl⟩;induction neg with
  |false=>exact RcAt.lists_lengths (A:=A) i1 i2 hsz (by unfold Wa;exact af 0x42000139ab048826932c9ab04141c [] [_] hu) _ _ _ _ (fin rfl)
  |true=>exact RcNeAt.lists_lengths (A:=A) i1 i2 hsz (by unfold Wa;exact af 0x42000139ab048826932c9ab04141c [] [_] hu) _ _ _ _ (fin rfl)
noncomputable def aaN(h:Ox)(v:Md)(xs:List Md):Prop:=yq λa ys m sl=>v=.ref a/\h.get? a=Mc (⟨.type "tuple",Mq,.seq ys m,sl⟩:P8)/\ys.toList.map er=xs
theorem B8{y:Md}{b:Bool}(h:ED (er v) (er y)=Mc b):EqAt A s y v b:=by
 induction v with
 |int p t=>
  induction y with
  |int q u=>cases h;rw[show M0 (p=q)=(q==p) from by rw[fy];simp[eq_comm]];exact EqAt.int_int q u p t
  |_=>cases h
 |str p t=>
  induction y with
  |str q u=>cases h;rw[show M0 (p=q)=(q==p) from by rw[fy];simp[eq_comm]];exact EqAt.str_str q u p t
  |_=>cases h
 |_=>cases h
theorem wn{ys:List Md}:∀{r:Bool},zV (er v) (ys.map er)=Mc r->(ys.any λy=>(ED (er v) (er y)).getD Mg)=r/\∀y∈ys,EqAt A s y v ((ED (er v) (er y)).getD Mg):=by
 induction ys with
 |nil=>intro r h;cases h;exact⟨rfl,λa h=>absurd h TM⟩
 |cons y ys ih=>
  intro r h;refine ae (My.mp h) λb q3=>?_;obtain⟨hb,h⟩:=q3;refine ae (MP.mp h) λc q2=>?_;obtain⟨hc,rfl⟩:=q2;obtain q1:=ih hc;refine⟨by rw[PW,q1.1,hb];rfl,λz hz=>?_⟩;rcases MS.mp hz with q|q
  ·subst q;rw[hb];exact B8 hb
  ·exact q1.2 z q
theorem D4(x:St Z Φ J L ρ s){a t:Md}{neg:Bool}(ht:aaN s.heap t xs)(h:exec Z n (.inn neg xs k) (er a::st) ρ J Q):Mx (Mj Z.prog Z.w) A (Qj (if neg then .NotIn else .In) a t) (PK Z Φ L ρ n k st Q) E s:=by
 refine ae h λr w29=>?_;refine vx ht λl ys m sl w28=>?_;rw[w28.1];have h2:=w28.2.2;subst h2;obtain w27:=wn (A:=A.in1) (s:=s) w29.1;have hi:s.heap.IsTuple l ys:=⟨_,w28.2.1,rfl,m,rfl⟩;have e3:(ys.any λy=>(ED (er a) (er y)).getD Mg)=r:=by rw[<-w27.1,Array.any_toList]
 induction neg with
 |false=>exact in_tupleAt _ hi (λy hy=>w27.2 y (RG.mpr hy)) ⟨J,x,by rw[e3];exact w29.2⟩
 |true=>exact notIn_tupleAt _ hi (λy hy=>w27.2 y (RG.mpr hy)) ⟨J,x,by rw[e3];exact w29.2⟩
inductive AQ(s:Ml)(a D:Mk)(name:Nn)(f:Nat):Prop
 |mk (K:PO) (ox:P8) (od:Option P8):K.In s.heap->Uy s.heap a ox D od->Ou K (.ref D) name=Mc (Mc (.ref f))->isFn K (.ref f)=Mh->(cP K f).isSome=Mh->noSeq K D=Mh->AQ s a D name f
theorem jt(B:aN Z Kg)(hb:WI Z Φ)(x:St Z Φ J L ρ s){c f:Nat}(hc:J a=Mc (.Wu D fs))(hf:mt D c=Mc f)(name:Nn)(he:enc name=c)(h0:c≠0):AQ s a D name f:=by have x':=x;obtain⟨g,m,I,_⟩:=x;obtain⟨d,mm,es,nn,r1,r2,r3,r4,r5,r6⟩:=gX (I.3 a _ hc).2;obtain⟨K,hK,F⟩:=(B.3 D (jd hf)).Yj;subst he;obtain w26:=F.10 name f h0 hf;exact⟨K,_,_,λa o e=>x'.here hb a o (hK a o e),r5,w26.1,w26.2.1,w26.2.2,F.6⟩
theorem uv(x:St Z Φ J L ρ s)(hc:J a=Mc (.Wu D fs)):bM λox od=>Uy s.heap a ox D od:=by obtain⟨g,m,I,_⟩:=x;obtain⟨d,mm,es,nn,r1,r2,r3,r4,r5,r6⟩:=gX (I.3 a _ hc).2;exact⟨_,_,r5⟩
theorem ER{x C f:Mk}(X:K.In s.heap)(I:Uy s.heap x ox C od)(hs:Ou K (.ref C) "__len__"=Mc (Mc (.ref f)))(hf:isFn K (.ref f)=Mh)(h:Wc.Wi (Mj Z.prog Z.w) A.in1 (OG (.ref f) [.ref x]) (λr s'=>bM λi t=>r=.int i t/\0<=i/\i<2^63/\Q' (.int i s'.toks) {s' with toks:=s'.toks+1}) E s):Wc.Wi (Mj Z.prog Z.w) A (OG (.builtin "len") [.ref x]) Q' E s:=by refine Wc.XO (by kernel_rfl) plain_len (by decide +kernel) entry_len ?_;unfold Builtin.«len»;refine Wc.Wh (m:=oneArg "len" _) (Wc.wpAny_pure ?_);refine Wc.Wh (m:=Si (.ref x) (OW "__len__")) (Wc.YF X I hs (beq_iff_eq.mp hf) (Wc.Wm h (λr s' hr=>?_) λa a y=>y));refine bI hr λi t w25=>?_;rw[w25.1];refine Wc.Wh (Wc.Wn (Wc.wpAny_pure ?_));refine Wc.Wh (Wc.of (UD ?_));show Wc.Wi _ _ (if i<0 then _ else _) _ _ _;rw[if_neg (by exact af 0x42000138101704e0d [_] [] w25.2.1)];show Wc.Wi _ _ (if i≥2^63 then _ else _) _ _ _;rw[if_neg (by exact af 0x2100009e4421d304611 [_,_] [] w25.2.2.1)];exact Wc.Wh (Wc.of (UC (Wc.wpAny_pure ⟨_,rfl,w25.2.2.2⟩)))
theorem Cv(B:aN Z Kg)(hb:WI Z Φ)(hr:cR n A Φ L)(x:St Z Φ J L ρ s){a:Md}(h:exec Z n (.len k) (er a::st) ρ J Q):Wc.Wi (Mj Z.prog Z.w) A (OG (.builtin "len") [a]) (PK Z Φ L ρ n k st Q) E s:=by
 have h':gr Z n J (λv J'=>exec Z n k (v::st) ρ J' Q) (er a):=h;clear h;generalize ha:er a=a' at h';induction h' with
 |bytes h1 h2=>refine Xg ha λt1=>?_;exact Wc.of (len_bytes (db h1 rfl) ⟨J,x.tk _,h2⟩)
 |list hx h1 h2=>have:=aq ha;subst this;obtain⟨zs,m1,z1,z2,l1⟩:=aw x hx;exact Wc.of (call_len_list ⟨_,z1,rfl,m1,rfl⟩ (aS KN [_] [_,_] h1 l1 ej) ⟨J,x.tk _,by rw[l1];exact h2⟩)
 |tup hx h1 h2=>have:=aq ha;subst this;obtain⟨zs,m1,z1,z2,l1⟩:=bE x hx;exact Wc.of (len_tuple ⟨_,z1,rfl,m1,rfl⟩ (aS KN [_] [_,_] h1 l1 ej) ⟨J,x.tk _,by rw[l1];exact h2⟩)
 |WJ hx h1 h2=>have:=aq ha;subst this;exact Wc.of (BA.aau (cw x hx) (by simpa using h1) λt k=>⟨J,x.tk _,by rw[Oi];exact h2⟩)
 |@dict p m hx h1 h2=>
  have:=aq ha;subst this;refine ae (dg x hx) λkvs w23=>?_;have l1:kvs.length=m.length:=by rw[<-w23.2,Mt]
  exact Wc.of (call_len_dict (x.sysm B hb hx) (w23.1.at Z.prog Z.w).dictOf (aS KN [_] [_,_] h1 l1 ej) ⟨J,x.tk _,by rw[l1];exact h2⟩)
 |@Wu p D fs f hx hf h=>rw[aq ha];obtain⟨K,ox,od,X,I,f1,f2,f3,_⟩:=jt B hb x hx hf "__len__" (by decide) (by decide);refine ER X I f1 f2 (Wc.Wm (hO (vals:=[.ref p]) hb (hr.Xm (Of ..) (Qr (by decide) _)) x h) (λr s' h'=>?_) λb b z=>z);refine ae h' λJ' w21=>?_;refine ae w21.2 λi w22=>?_;have h2:=w22.2.2.2;refine WM w22.1 λt=>?_;exact⟨i,t,rfl,w22.2.1,w22.2.2.1,J',w21.1.tk _,by rw[w22.1] at h2;exact h2⟩
theorem AE{x C f:Mk}{i:Md}(X:K.In s.heap)(I:Uy s.heap x ox C od)(hs:Ou K (.ref C) "__getitem__"=Mc (Mc (.ref f)))(hf:(cP K f).isSome=Mh)(hfn:isFn K (.ref f)=Mh)(h:Wc.Wi (Mj Z.prog Z.w) A.in1 (OG (.ref f) [.ref x,i]) Q' E s)(hsl:du slice=Mg):Wc.Wi (Mj Z.prog Z.w) A (To value slice (.ref x) i) Q' E s:=by
 have hsl:subscripted slice Mh (.ref x) i=runValue (.builtin "lifetime.subscript" ⟨[.ref x,i],[]⟩):=by cases slice<;>first|rfl|cases hsl
 refine ae (NS.mp hf) λfd e=>?_;refine ae (My.mp e) λo z=>?_;have e:=z.1;have hz:=py z.2;obtain⟨c,d,dt,sl⟩:=o;obtain rfl:dt=.func fd:=hz;refine Wc.Wh (Wc.Wh (Wc.Wh (Wc.of (I.type.here (Wc.of ((PG X hs).here ?_))))));dsimp only;refine Wc.Wh (Wc.of (QF (X _ _ e) (Wc.wpAny_pure ?_)));dsimp only;rw[hsl];refine Wc.Wh (Wc.XT (Wc.Xp entry_sub (by decide +kernel) ?_));unfold Builtin.«lifetime.subscript»;refine Wc.Wh (Wc.YF X I hs (beq_iff_eq.mp hfn) (Wc.Wm h (λv s' z=>?_) λa a z=>z));refine Wc.wpAny_pure ?_;show Wc.Wi (Mj Z.prog Z.w) A (Sr value (.ref x) v>>=λa=>NN v) Q' E s';exact Wc.Wh (Wc.of (wpAny_letTemporaryGo (Wc.wpAny_pure z)))
theorem A5{x C f:Mk}{i:Md}{Q':Unit->Ml->Prop}(X:K.In s.heap)(I:Uy s.heap x ox C od)(hq:noSeq K C=Mh)(hs:Ou K (.ref C) "__setitem__"=Mc (Mc (.ref f)))(hf:isFn K (.ref f)=Mh)(h:Wc.Wi (Mj Z.prog Z.w) A (OG (.ref f) [.ref x,i,v]) (λa s'=>Q' () s') E s):Wc.Wi (Mj Z.prog Z.w) A (UQ (.ref x) i v) Q' E s:=by delta UQ sequenceKey;refine Wc.Wn (Wc.Wh (Wc.Wh (Wc.of (I.type.here ?_))));refine Wc.Wh (Wc.of ((anyM_none X hq).here ?_));rw[if_pos (show(!Mg)=Mh from rfl)];exact Wc.wpAny_pure (Wc.Wh (Wc.YF X I hs (beq_iff_eq.mp hf) (Wc.Wm h (λa a z=>Wc.wpAny_pure z) λa a z=>z)))
theorem j1{i:Md}(h:du slice=Mg):subscripted slice Mg o i=operate [o,i] (getItem o i):=by cases slice<;>first|rfl|cases h
theorem pD(z:zs.toList.map er=xs)(h:xs[i]?=Mc v):∃w,zs[i]?=Mc w/\er w=v:=by rw[<-z,ML,Ol] at h;refine ae (MP.mp h) λv w19=>?_;obtain⟨a,b⟩:=w19;exact⟨v,a,b⟩
theorem Bk(B:aN Z Kg)(hb:WI Z Φ)(hr:cR n A Φ L)(x:St Z Φ J L ρ s)(hs:du slice=Mg){i:Md}(h:exec Z n (.idx k) (er i::er o::st) ρ J Q):Wc.Wi (Mj Z.prog Z.w) A (To value slice o i) (PK Z Φ L ρ n k st Q) E s:=by
 have h':fG Z n J (λv J'=>exec Z n k (v::st) ρ J' Q) (er o) (er i):=h;clear h;generalize ho:er o=o' at h';generalize hi:er i=i' at h';induction h' with
 |@bytes b t u j y hz h0 h1 hy h2=>
  refine Xg ho λt1=>?_;refine WM hi λu1=>?_;obtain⟨l⟩:=b;have hlt:j.toNat<l.length:=by have:=(O3.mp hy).1;simpa using this
  have hg:l.getD j.toNat 0=y:=by
   have:l[j.toNat]?=Mc y:=by simpa using hy
   rw[Mw,this];rfl
  refine Wc.of (TP (SX s _ t1) FB.slot_bytes_getitem.lookup (getItem_bytes (by simpa using(Nj hz (by decide:1000000<=1099511627776))) h0 (ao Ly [_] [_,_] hlt (ME h0)) ⟨J,x.tk _,?_⟩) (j1 hs));rw[hg];exact h2
 |list hx h0 h1 hv h=>have:=aq ho;subst this;refine WM hi λu1=>?_;obtain⟨zs,m1,z1,z2,l1⟩:=aw x hx;refine ae (pD z2 hv) λw w15=>?_;obtain rfl:=w15.2;exact Wc.of (TP ⟨_,z1,rfl⟩ Td.lookup (wpAny_getItem_list ⟨_,z1,rfl,m1,rfl⟩ h0 h1 w15.1 ⟨J,x,h⟩) (j1 hs))
 |neg hx h0 h1 h2 hv h=>have:=aq ho;subst this;refine WM hi λu1=>?_;obtain⟨zs,m1,z1,z2,l1⟩:=aw x hx;rw[<-l1] at h2 hv;refine ae (pD z2 hv) λw w13=>?_;obtain rfl:=w13.2;exact Wc.of (TP ⟨_,z1,rfl⟩ Td.lookup (wpAny_getItem_list_neg ⟨_,z1,rfl,m1,rfl⟩ h0 (af 0x2100009de0b020677c4012 [_] [_] h2) h1 w13.1 ⟨J,x,h⟩) (j1 hs))
 |@tup p xs v j u hx h0 h1 hv h=>
  have:=aq ho;subst this;refine WM hi λu1=>?_;obtain⟨zs,m1,z1,z2,l1⟩:=bE x hx;refine ae (pD z2 hv) λw w11=>?_;obtain rfl:=w11.2;have hlt:=(O3.mp w11.1).1;have hj:VH j zs.size=Mc j.toNat:=by have hn:¬j<0:=af 0x42000138101704e0d [_] [] h0;have:j<zs.size:=ao Ly [_] [_,_] hlt (ME h0);simp[VH,hn,h0,this]
  exact Wc.of (TP ⟨_,z1,rfl⟩ slot_tuple_getitem.lookup (PyProof.Rows.getItem_tuple ⟨_,z1,rfl,m1,rfl⟩ (r9 h0 rfl) h1 hj w11.1 ⟨J,x,h⟩) (j1 hs))
 |@WJ p b y j u hx h0 h1 hy h=>have:=aq ho;subst this;refine WM hi λu1=>?_;have hc:=cw x hx;exact Wc.of (TP ⟨_,hc,rfl⟩ BA.Ye.lookup (BA.aan hc h0 h1 (by simpa using hy) λt k=>⟨J,x.tk _,h⟩) (j1 hs))
 |@Wu p D fs f j u hx hf h=>have:=aq ho;subst this;rw[<-hi] at h;obtain⟨K,ox,od,X,I,f1,f2,f3,_⟩:=jt B hb x hx hf "__getitem__" (by decide) (by decide);exact AE X I f1 f3 f2 (hO (vals:=[.ref p,i]) hb (hr.Xm (Of ..) (Qr (by decide) _)) x h) hs
theorem u3(kvs:List (Int×Md))(j:Int)(v:Md):(Ua kvs j v).map (λp=>(p.1,er p.2))=(if(kvs.map λp=>(p.1,er p.2)).any (·.1==j) then(kvs.map λp=>(p.1,er p.2)).map (λp=>if p.1==j then(j,er v) else p) else(kvs.map λp=>(p.1,er p.2))++[(j,er v)]):=by
 unfold Ua;have e:(kvs.map λp=>(p.1,er p.2)).any (·.1==j)=kvs.any (λkv=>M0 (kv.1=j)):=by rw[List.any_map];congr 1
 rw[e];split
 ·rw[OX,OX];refine Qs λp a=>?_;show((if p.1=j then(p.1,v) else p).1,er (if p.1=j then(p.1,v) else p).2)=if(p.1==j)=Mh then(j,er v) else(p.1,er p.2)
  by_cases q:p.1=j;·subst q;simp
  ·simp[q]
 ·rw[Oc];rfl
theorem yT(B:aN Z Kg)(hb:WI Z Φ)(hr:cR n A Φ L)(x:St Z Φ J L ρ s){i:Md}(h:exec Z n (.XD k) (er i::er o::er v::st) ρ J Q):Wc.Wi (Mj Z.prog Z.w) A (UQ o i v) (λa=>PU Z Φ L ρ λJ'=>exec Z n k st ρ J' Q) E s:=by
 have h':kT Z n J (λJ'=>exec Z n k st ρ J' Q) (er o) (er i) (er v):=h;clear h;generalize ho:er o=o' at h';generalize hi:er i=i' at h';generalize hv:er v=v' at h';induction h' with
 |@list p xs _ j u hx h0 h1 h2 h=>subst hv;rw[aq ho];refine WM hi λu1=>?_;obtain⟨zs,m1,z1,z2,l1⟩:=aw x hx;exact Wc.of (qK z1 h0 (aS 0x847086100014c0000000000000000911287a12008264578243e6090e [_,_] [_] h1 h2 ej) (ao 0x108a10000f54150faf0488de090f [_] [_,_] h1 l1) λh' m ho hs=>⟨_,x.set (t:=s.toks) hx (λa a=>nofun) hs ho (c':=.list (xs.set j.toNat (er v))) (λg=>⟨_,_,ho,by rw[Array.toList_setIfInBounds,List.map_set,z2]⟩),h⟩)
 |@dict p m _ j u hx h0 h=>
  subst hv;rw[aq ho];refine WM hi λu1=>?_;refine ae (dg x hx) λkvs w7=>?_;have l1:kvs.length=m.length:=by rw[<-w7.2,Mt]
  exact Wc.of (aay w7.1 (λh' D' hs=>⟨_,x.set (t:=s.toks+1) hx (λa a=>nofun) hs D'.choose_spec.1 (c':=.W8 (if m.any (·.1==j) then m.map (λp=>if p.1==j then(j,er v) else p) else m++[(j,er v)])) (λg=>⟨_,D',by rw[u3,w7.2]⟩),h⟩) (Nj (Oq l1) h0))
 |@Wu p D fs f _ j u hx hf h=>rw[<-hi,<-hv] at h;have:=aq ho;subst this;obtain⟨K,ox,od,X,I,f1,f2,f3,f4⟩:=jt B hb x hx hf "__setitem__" (by decide) (by decide);exact A5 X I f4 f1 f2 (Wc.Wm (hO (vals:=[.ref p,i,v]) hb hr.room x h) (λr s' h'=>h') λa a z=>z)
theorem xp(zs:Array Md)(lo hi:Option Int)(i j:Nat)(hl:lo=Mc (i:Int)∨(lo=Mq/\i=0))(hj:hi=Mc (j:Int)∨(hi=Mq/\j=zs.size)):slicePick zs lo hi Mq=((zs.toList.take j).drop i).toArray:=by
 rw[slicePick_plain];congr 1;have e1:lo.elim 0 (clipAt zs.size)=min i zs.size:=by
  rcases hl with rfl|⟨rfl,rfl⟩;·exact clipAt_nat _ _
  ·simp
 have e2:hi.elim zs.size (clipAt zs.size)=min j zs.size:=by
  rcases hj with rfl|⟨rfl,rfl⟩;·exact clipAt_nat _ _
  ·simp
 have hz:zs.toList.length=zs.size:=by simp
 rw[e1,e2,List.drop_take];by_cases h:i<=zs.size;·rw[Nat.min_eq_left h,List.take_eq_take_iff,Pn,hz,Un,Un,Nat.min_assoc,Nat.min_self]
 ·have h:=Nat.le_of_not_le h;rw[Nat.min_eq_right h,QV (Oq hz),QV (by rw[hz];exact h),List.take_nil,List.take_nil]
theorem xZ(h:end? (er v) d=Mc i):∃lo,IsPart v lo/\(lo=Mc (i:Int)∨(lo=Mq/\i=d)):=by
 induction v with
 |none=>cases h;exact⟨Mq,.none,.inr ⟨rfl,rfl⟩⟩
 |int q t=>
  have h:(if 0<=q/\q<2^63 then Mc q.toNat else Mq)=Mc i:=h;split at h;·rename_i z;cases h;exact⟨Mc q,.int _ _,.inl (by rw[ME z.1])⟩
  ·cases h
 |_=>cases h
theorem AP.inv{sel:Cell->Option (List Md)}{kst:Mk->Option (List Md)}{F:Mk->List Md->Prop}(h:AP Z J sel kst F (er v)):bM λa xs=>v=.ref a/\F a xs/\((J a).bind sel=Mc xs∨kst a=Mc xs):=by
 generalize hv:er v=v' at h;induction h with
 |cell h q=>exact⟨_,_,aq hv,q,.inl h⟩
 |Yk h q=>exact⟨_,_,aq hv,q,.inr h⟩
theorem jH{c:Option Cell}(h:c.bind WX=Mc xs):c=Mc (.list xs):=by refine ae (My.mp h) λc w6=>?_;obtain⟨rfl,h⟩:=w6;cases c<;>cases h;rfl
theorem zP{c:Option Cell}(h:c.bind AS=Mc xs):c=Mc (.list xs)∨c=Mc (.tup xs):=by
 refine ae (My.mp h) λc w5=>?_;obtain⟨rfl,h⟩:=w5;cases c<;>cases h;·exact .inl rfl
 ·exact .inr rfl
theorem St.Yk(hb:WI Z Φ)(x:St Z Φ J L ρ s){U:String}(h:bM λys n=>Z.base a=Mc (⟨.type U,Mq,.seq ys n,#[]⟩:P8)/\ys.toList.map er=xs):nE s.heap U a xs:=by refine bI h λys m w4=>?_;exact .of ⟨ys,m,x.here hb _ _ w4.1,w4.2⟩
theorem vJ(B:aN Z Kg)(hb:WI Z Φ)(x:St Z Φ J L ρ s){l u:Option MX}{vl vu:Md}(h:exec Z n (.sli k) (er vu::er vl::er o::st) ρ J Q):Mx (Mj Z.prog Z.w) A (newFields "slice" [vl,vu,.none]) (λi s₂=>Mx (Mj Z.prog Z.w) A (To value (.Slice l u Mq p) o i) (PK Z Φ L ρ n k st Q) E s₂) E s:=by refine bI (AP.inv h) λa xs z29=>?_;rw[z29.1];refine bI z29.2.1 λi j w3=>?_;have hcut:=w3.1;refine ae (My.mp hcut) λi' z28=>?_;have h1:=z28.1;have hcut:=z28.2;refine ae (MP.mp hcut) λj' z27=>?_;obtain⟨h2,hcut⟩:=z27;cases hcut;obtain⟨zs,m1,z1,z2,l1⟩:nE s.heap "list" a xs:=z29.2.2.elim (λe=>aw x (jH e)) (λe=>x.Yk hb (B.6 a xs e));refine ae (xZ h1) λlo z26=>?_;refine ae (xZ h2) λhi z25=>?_;have hhi:=z25.2;rw[<-l1] at hhi;unfold newFields;refine Pd ?_;have x':=x.Wx {cls:=.type "slice",data:=.fields #[vl,vu,.none]} s.toks;have hl:(s.heap.push {cls:=.type "slice",data:=.fields #[vl,vu,.none]}).IsList a zs:=⟨_,MD _ z1,rfl,m1,rfl⟩;refine TP hl.typeIs Td.lookup (wpAny_getItem_list_slice hl (Heap.IsSliceOf.new ..) z26.1 z25.1 .none (by simp) ?_ (by rw[NK];exact ug l1 w3.2.1 rfl)) rfl;rw[xp zs lo hi i j z26.2 hhi];exact⟨_,x'.Xe _ (.list ((xs.take j).drop i)) rfl (λg' h' e=>⟨_,_,e,by simp[<-z2,Tw,Rw]⟩) s.toks,w3.2.2 _ x'.YR⟩
theorem xY:Vd (.type "int")=NN (.type "type"):=by kernel_rfl
theorem yH:Vd (.type "bool")=NN (.type "type"):=by kernel_rfl
theorem lG:Vd (.type "tuple")=NN (.type "type"):=by kernel_rfl
theorem Fa:QO (.type "int") (.type "int")=NN true:=by rw[NO];kernel_rfl
theorem DQ:QO (.type "int") (.type "bool")=NN false:=by rw[NO];kernel_rfl
theorem DD:QO (.type "int") (.type "tuple")=NN false:=by rw[NO];kernel_rfl
theorem EY:QO (.type "bool") (.type "int")=NN true:=by rw[NO];kernel_rfl
theorem Ex:QO (.type "tuple") (.type "tuple")=NN true:=by rw[NO];kernel_rfl
theorem EK:QO (.type "list") (.type "tuple")=NN false:=by rw[NO];kernel_rfl
theorem wm(I:Uy s.heap a ox D od)(h:Q' (.bool Mh) s):Mx (Mj Z.prog Z.w) A (OG (.builtin "isinstance") [.ref a,.ref D]) Q' E s:=by
 refine call_isinstance_of ?_;refine Mf (m:=Vd (.ref a)) (I.type.here ?_);show Mx _ _ (if(MJ D==MJ D)=Mh then _ else _) _ _ s;rw[if_pos (beq_self_eq_true _)];repeat (first|refine Mz ?_|refine Px ?_|refine Mf ?_)
 exact h
theorem xU{m:Nat}(B:aN Z Kg)(hb:WI Z Φ)(x:St Z Φ J L ρ s)(ha:s.heap.get? a=Mc (⟨.type "list",Mq,.seq ys m,#[]⟩:P8))(hD:X9 D=Mh)(h:Q' (.bool Mg) {s with toks:=s.toks+1}):Mx (Mj Z.prog Z.w) A (OG (.builtin "isinstance") [.ref a,.ref D]) Q' E s:=by obtain⟨K,hK,F⟩:=(B.3 D hD).Yj;have X:K.In s.heap:=λa o e=>x.here hb a o (hK a o e);refine ae (Qw F.1) λcd z24=>?_;obtain⟨hcd,_⟩:=z24;exact ZM X ha rfl F.8 hcd h
theorem Bw(B:aN Z Kg)(hb:WI Z Φ)(x:St Z Φ J L ρ s){a t:Md}(ht:er t=tv)(h:exec Z n (.isi tv k) (er a::st) ρ J Q):Mx (Mj Z.prog Z.w) A (OG (.builtin "isinstance") [a,t]) (PK Z Φ L ρ n k st Q) E s:=by
 refine ae h λr z23=>?_;have hr':=z23.1;have h:=z23.2;have ok:∀tk,PK Z Φ L ρ n k st Q (.bool r) {s with toks:=tk}:=λtk=>⟨J,x.tk _,h⟩;clear h;generalize ha:er a=a' at hr';induction hr' with
 |int=>refine WM ha λu1=>?_;rw[bJ ht];exact RZ (Vb s _ u1) xY Fa (ok s.toks)
 |aaS=>refine WM ha λu1=>?_;rw[bJ ht];exact Q3 (isinstance_false_int (by decide) yH DQ) (ok _)
 |abc=>refine WM ha λu1=>?_;rw[bJ ht];exact Q3 (isinstance_false_int (by decide) lG DD) (ok _)
 |abl=>rw[lm ha,bJ ht];exact RZ (Tx:="bool") rfl xY EY (ok s.toks)
 |tup hx=>obtain⟨zs,m1,z1,z2,_⟩:=bE x hx;rw[aq ha,bJ ht];exact RZ (Tx:="tuple") ⟨_,z1,rfl⟩ lG Ex (ok s.toks)
 |list hx=>obtain⟨zs,m1,z1,z2,_⟩:=aw x hx;rw[aq ha,bJ ht];exact Q3 (isinstance_false_list (by decide) lG EK) ⟨⟨_,z1,rfl⟩,ok _⟩
 |Wu hx=>refine bI (uv x hx) λox od I=>?_;rw[aq ha,aq ht];exact wm I (ok s.toks)
 |aa1 hx hk=>obtain⟨zs,m1,z1,z2,_⟩:=aw x hx;rw[aq ha,aq ht];exact xU B hb x z1 hk (ok _)
theorem CD(hh:A.handled=Mq)(x:St Z Φ J L ρ s){a b:Md}(h:exec Z n (.YU k) (er b::er a::st) ρ J Q):Mx (Mj Z.prog Z.w) A (OG (.builtin "min") [a,b]) (PK Z Φ L ρ n k st Q) E s:=by
 refine vx (ints.inv h) λa t b u z19=>?_;rw[z19.1];rw[z19.2.1];have h1:=z19.2.2;refine min_two_ints hh λh' tk hk=>⟨J,x.keeps hk,?_⟩;by_cases q:b<a;·rw[if_pos q] at h1 ⊢;exact h1
 ·rw[if_neg q] at h1 ⊢;exact h1
theorem ri:∀{ys:List Md}{ns:List Int},ys.map er=ns.map (λi=>OC i 0)->IntsAre ys ns
 |[],[],_=>.nil
 |[],_::_,h=>(List.cons_ne_nil _ _ h.symm).elim
 |_::_,[],h=>(List.cons_ne_nil _ _ h).elim
 |y::ys,n::ns,h=>WM (TF h) λu=>.cons _ _ (ri (List.tail_eq_of_cons_eq h))
theorem GS{ys:List Md}(h:YV (ys.map er) b):∃ns,IntsAre ys ns/\(∀n∈ns,0<=n/\n<256)/\ns.map (λn=>n.toNat.toUInt8)=b:=
 ae h λns z=>⟨ns,ri z.1,z.2⟩
theorem xr(hh:A.handled=Mq)(x:St Z Φ J L ρ s){a:Md}(h:exec Z n (.Xa k) (er a::st) ρ J Q):Mx (Mj Z.prog Z.w) A (OG (.type "bytes") [a]) (PK Z Φ L ρ n k st Q) E s:=by
 have h':xH J (λr J'=>exec Z n k (r::st) ρ J' Q) (er a):=h;clear h;generalize ha:er a=a' at h';induction h' with
 |bytes h=>refine Xg ha λu1=>?_;exact BA.Zr λt k=>⟨J,x.tk _,h⟩
 |WJ hx hl h=>have:=aq ha;subst this;exact BA.ZC (cw x hx) (by simpa using Nj hl (by decide:100000<=1000000)) λt k=>⟨J,x.tk _,h⟩
 |@list p xs b hx hb hl h=>
  have:=aq ha;subst this;obtain⟨zs,m1,z1,z2,_⟩:=aw x hx;rw[<-z2] at hb;refine ae (GS hb) λns z13=>?_;have hl:b.length=ns.length:=by rw[<-z13.2.2,Mt]
  have hz:zs.toList.length=ns.length:=z13.1.length;refine call_bytes_ints (vs:=zs.toList) (ns:=ns) ⟨_,z1,rfl,m1,by simp⟩ z13.1 (λn hn=>(z13.2.1 n hn).and) (by rw[NK];lia) hh λh' t k hk=>⟨J,x.keeps hk,?_⟩;show exec Z n _ (.bytes (byteArr ns) 0::st) ρ J Q;unfold byteArr;rw[z13.2.2];exact h
theorem xw(x:St Z Φ J L ρ s)(h:exec Z n (.YC k) st ρ J Q):Wc.Wi (Mj Z.prog Z.w) A (OG (.type "bytearray") []) (PK Z Φ L ρ n k st Q) E s:=
 BA.aal λh' hB hk=>⟨_,x.aaq hk hB (.WJ []) (λg=>hB) s.toks,h _ x.YR⟩
theorem wJ(B:aN Z Kg)(hb:WI Z Φ)(hh:A.handled=Mq)(x:St Z Φ J L ρ s){a:Md}(h:exec Z n (.Yh k) (er a::st) ρ J Q):Mx (Mj Z.prog Z.w) A (OG (.type "list") [a]) (PK Z Φ L ρ n k st Q) E s:=by
 refine bI (AP.inv h) λp xs z12=>?_;rw[z12.1];have hsel:=z12.2.2;obtain⟨U,hU,zs,m1,z1,z2,l1⟩:∃U,(U="list"∨U="tuple")/\nE s.heap U p xs:=by
  rcases hsel with e|e;·exact(zP e).elim (λe=>⟨_,.inl rfl,aw x e⟩) (λe=>⟨_,.inr rfl,bE x e⟩)
  ·exact⟨_,.inr rfl,x.Yk hb (B.7 p xs e)⟩
 exact call_list_seq (hsz:=by rw[NK];exact ug l1 z12.2.1.1 rfl) p hU z1 rfl rfl λh' c' hk hD=>⟨_,x.aaq hk hD (.list xs) (λg=>⟨_,_,hD,z2⟩) s.toks,z12.2.1.2 _ x.YR⟩
theorem mc{t:Nn}(hn:enc name≠0)(e:enc name=enc t):name=t:=(lB hn e.symm).symm
set_option maxRecDepth 20000 in
theorem DT(x:St Z Φ J L ρ s)(hn:enc name≠0)(h:exec Z n (.bm (enc name) k) (er o::st) ρ J Q):Mx (Mj Z.prog Z.w) A (Rh o name pl) (λp s'=>∃id,p=(.builtin id,[o])/\PU Z Φ L ρ (λJ'=>exec Z n k (.builtin id::er o::st) ρ J' Q) s') E s:=by
 refine ae h λid z11=>?_;have hid:=z11.1;have h:=z11.2;have fin:∃id',(Value.builtin id,[o])=(.builtin id',[o])/\PU Z Φ L ρ (λJ'=>exec Z n k (.builtin id'::er o::st) ρ J' Q) s:=⟨id,rfl,J,x,h⟩;clear h;generalize ho:er o=o' at hid;generalize hc:enc name=c at hid;induction hid with
 |Y9 hx=>have en:=mc (t:="append") hn (hc.trans (by decide +kernel));subst en;have:=aq ho;subst this;obtain⟨zs,m1,z1,z2,_⟩:=aw x hx;exact QW (T:="list") ⟨_,z1,rfl⟩ F.plainAttrs_list TQ type_list_append (λa e=>by cases e;exact⟨_,z1,rfl⟩) fin
 |bapp hx=>have en:=mc (t:="append") hn (hc.trans (by decide +kernel));subst en;have:=aq ho;subst this;have hc:=cw x hx;exact QW (T:="bytearray") ⟨_,hc,rfl⟩ BA.Zl BA.Yr BA.ZU (λa e=>by cases e;exact⟨_,hc,rfl⟩) fin
 |Y7 hx=>have en:=mc (t:="extend") hn (hc.trans (by decide +kernel));subst en;have:=aq ho;subst this;have hc:=cw x hx;exact QW (T:="bytearray") ⟨_,hc,rfl⟩ BA.Zl BA.Yt BA.ZV (λa e=>by cases e;exact⟨_,hc,rfl⟩) fin
 |Y4 hx=>rw[mc (t:="get") hn (hc.trans (by decide +kernel))];have:=aq ho;subst this;refine ae (dg x hx) λkvs z9=>?_;refine ae z9.1 λes z10=>?_;exact QW (T:="dict") ⟨_,z10.1,rfl⟩ F.plainAttrs_dict F.slot_dict_get F.type_dict_get (λa e=>by cases e;exact⟨_,z10.1,rfl⟩) fin
 |@Y8 i=>rw[mc (t:=OW "bit_length") hn (hc.trans (by decide +kernel))];refine ae (mU ho) λu1 z8=>?_;obtain rfl:=z8;cases ho;exact BA.ZX (i:=i) (u:=u1) (pl:=pl) (s:=s) (A:=A) (E:=E) (M:=Mj Z.prog Z.w) fin
theorem YX(h:vs.map er=[v]):∃v',vs=[v']/\er v'=v:=by refine ae (UG.mp h) λa z6=>?_;refine ae z6 λl z7=>?_;obtain⟨rfl,h1,h2⟩:=z7;rw[UY] at h2;exact⟨a,by rw[h2],h1⟩
theorem aaW(h:vs.map er=[v,u]):bM λv' u'=>vs=[v',u']/\er v'=v/\er u'=u:=by refine ae (UG.mp h) λa z4=>?_;refine ae z4 λl z5=>?_;obtain⟨rfl,h1,h2⟩:=z5;refine ae (YX h2) λb z3=>?_;rw[z3.1];exact⟨a,b,rfl,h1,z3.2⟩
theorem Em(B:aN Z Kg)(hb:WI Z Φ)(x:St Z Φ J L ρ s){m:Nat}(hm:vs.length=m)(h:exec Z n (.cb m k) ((vs.map er).reverse++.builtin id::er o::st) ρ J Q):Wc.Wi (Mj Z.prog Z.w) A (OG (.builtin id) (o::vs)) (PK Z Φ L ρ n k st Q) E s:=by
 obtain⟨us,id',o',st',ht,h'⟩:yq λus id' o' st'=>take? m ((vs.map er).reverse++.builtin id::er o::st)=Mc (us,.builtin id'::o'::st')/\rS J (λv J'=>exec Z n k (v::st') ρ J' Q) id' o' us:=h;rw[eW (by rw[Mt];exact hm)] at ht;injection ht with ht;injection ht with e1 e2;injection e2 with e2 e3;injection e3 with e3 e4;injection e2 with e2;subst e2 e4;clear hm;induction h' with
 |@Y9 p xs v hx hz h=>rw[aq e3];obtain⟨v',rfl,rfl⟩:=YX e1;obtain⟨zs,m1,z1,z2,l1⟩:=aw x hx;refine Wc.of (Vc TQ ⟨_,z1,rfl⟩ entry_list_append (args_list_append _ _) (QX p zs m1 v' (by rw[NK];exact ug l1 hz rfl)) ⟨z1,?_⟩);exact⟨_,x.set (t:=s.toks) hx (λa a=>nofun) (OD ..) (Nf _ z1 rfl) (c':=.list (xs++[er v'])) (λg=>⟨_,_,Nf _ z1 rfl,by simp[z2]⟩),h⟩
 |@bapp p b i t hx h0 h1 hz h=>rw[aq e3];obtain⟨v',rfl,e3⟩:=YX e1;obtain⟨u,rfl⟩:=mU e3;refine BA.ZT (cw x hx) h0 h1 (by simp;exact kG hz rfl) λh' hB hs=>⟨_,x.set (t:=s.toks) hx (λa a=>nofun) hs hB (c':=.WJ (b++[Pz i.toNat])) (λg=>?_),h⟩;show h'.get? p=_;rw[hB];simp
 |@Y7 p b y t hx hz h=>rw[aq e3];obtain⟨v',rfl,e3⟩:=YX e1;obtain⟨u,rfl⟩:=qE e3;refine BA.ZR (cw x hx) (by simp;exact kG hz rfl) λh' hB hs=>⟨_,x.set (t:=s.toks) hx (λa a=>nofun) hs hB (c':=.WJ (b++y.toList)) (λg=>?_),h⟩;show h'.get? p=_;rw[hB];congr 3;apply Q8.mp;simp
 |@Y4 p mm i t d hx h=>
  rw[aq e3];obtain⟨v',d',rfl,e3,rfl⟩:=aaW e1;obtain⟨u,rfl⟩:=mU e3;refine ae (dg x hx) λkvs zq112=>?_;have D:=zq112.1;have hmm:=zq112.2;have hM:=(D.at Z.prog Z.w).dictOf.mapOf;refine Wc.of (call_meetsIn F.slot_dict_get hM.typeIs F.entry_dict_get (F.args_dict_get_3 _ _ _) (meets_dict_get_default (Sd Z.prog Z.w) p (Sw Z.prog Z.w i u) (x.sysm B hb hx) d') ⟨_,hM,J,x.tk _,?_⟩);have e:er ((valueAt kvs i).getD d')=((mm.find? (·.1==i)).map (·.2)).getD (er d'):=by
   rw[<-hmm,List.find?_map];unfold valueAt;have e:((λp:Int×Md=>p.1==i) ∘ λp:Int×Md=>(p.1,er p.2))=λkv:Int×Md=>M0 (kv.1=i):=by funext p;show(p.1==i)=_;rw[fy]
   rw[e];cases kvs.find? (λkv=>M0 (kv.1=i))<;>rfl
  rw[e];exact h
 |@Y8 i t h0 h=>
  obtain⟨u1,rfl⟩:=mU e3;have e3:=UY.mp e1;subst e3;refine Wc.of (call_int_bit_length ⟨J,x.tk _,?_⟩);have e:(OT i:Int)=((i.toNat.log2:Nat)+1:Int):=by unfold OT;rw[if_neg (by simp;exact λzz=>fb 0x422840003d0242e0a0a [_] [] zz h0),show i.natAbs=i.toNat by lia];rfl
  show exec Z n k (.int (OT i) 0::st) ρ J Q;rw[e];exact h
end
end
noncomputable def fK:MX->Bool
 |.Name ..=>Mh
 |.Attribute ..=>Mh
 |.Subscript ..=>Mh
 |_=>Mg
variable{o:MX}
theorem jX(h:fK o=Mh):attributeBase o name env whole=whole:=by cases o<;>first|rfl|cases h
structure Cn(X:CX) where
 Z:Sys
 Φ:bA
 L:Mk
 A:O8
 n:Nat
 env:VC
 B:aN Z X.K
 hb:WI Z Φ
 hE:ky env X.scope L
 hr:cR n A Φ L
 cell:sg Z X.scope env
inductive ax(X:CX)(x:Nn)(v:Md):Prop
 |main {u:Md}:X.scope.names.lookup x=Mc .globalImplicit->nsIn X.K Nw x=Mc (Mc u)->er u=v->ax X x v
 |top {u:Md}:X.scope.names.lookup x=Mc .globalImplicit->nsIn X.K Nw x=Mc Mq->x≠"__name__"->Sj x=Mc u->er u=v->ax X x v
abbrev dw(x:Nn):Prop:=(x==("__debug__":Nn))=Mg
theorem tG{X:CX}(B:aN Z X.K)(hE:ky env X.scope L)(here:∀a o,Z.base a=Mc o->s.heap.get? a=Mc o)(hx:ax X x v/\dw x)(q:∀u,er u=v->Q' u s):Mx (Mj Z.prog Z.w) A (NV (.Name x p) env) Q' E s:=by
 refine bI B.2 λmg mb z4=>?_;obtain z3:=z4.1 s.heap here;have XI:X.K.In s.heap:=λa o e=>here a o (B.1 a o e);have hx:=hx.1;have hf:env.scope.kind=.function:=by rw[hE.1];exact hE.2
 have hk:env.kindOf x=X.scope.names.lookup x:=by unfold SD;rw[hE.1]
 induction hx with
 |main h h1 h2=>exact Name_function_global hf (hk.trans h) (loadGlobal_global (by rw[hE.4];exact z3.1) (mg_of XI z3.1 h1) (q _ h2)) hx.2
 |top h h1 h2 h3 h4=>exact Name_function_global hf (hk.trans h) (loadGlobal_builtin (by rw[hE.4];exact z3.1) (mg_none_of XI z3.1 h1) (by rw[hE.5];exact z3.2.1) ((z4.2 x h2).trans h3) (q _ h4)) hx.2
noncomputable def gl(X:CX)(x:Nn):Option {v:Md // ax X x v/\dw x}:=
 if hd:dw x then if h:X.scope.names.lookup x=Mc .globalImplicit then match h1:nsIn X.K Nw x with
  |some (Mc u)=>Mc ⟨er u,.main h h1 rfl,hd⟩
  |some Mq=>if h2:x="__name__" then Mq else match h3:Sj x with
   |some u=>Mc ⟨er u,.top h h1 h2 h3 rfl,hd⟩
   |none=>Mq
  |none=>Mq
 else Mq else Mq
variable{t:RV Md}
namespace Cn
variable{X:CX}(W:Cn X)
noncomputable abbrev wp{α:Type}(t:RV α)(Q:α->Ml->Prop)(s:Ml):Prop:=Wc.Wi (Mj W.Z.prog W.Z.w) W.A t Q Wc.N0 s
noncomputable abbrev St(J:Sg)(ρ:Loc)(s:Ml):Prop:=Internal.St W.Z W.Φ J W.L ρ s
noncomputable abbrev ex(c:T)(st:List Md)(ρ:Loc)(J:Sg)(Q:Out->Sg->Prop):Prop:=exec W.Z W.n c st ρ J Q
noncomputable abbrev PK(ρ:Loc)(k:T)(st:List Md)(Q:Out->Sg->Prop):Md->Ml->Prop:=Internal.PK W.Z W.Φ W.L ρ W.n k st Q
noncomputable abbrev PY(ρ:Loc)(Q:Out->Sg->Prop):Md->Ml->Prop:=PV W.Z W.Φ W.L ρ λv J'=>Q (.val v ρ) J'
inductive PL(ρ:Loc)(m:Nat)(k:T)(st:List Md)(Q:Out->Sg->Prop)(vs:List Md)(s:Ml):Prop
 |mk (J:Sg):vs.length=m->W.St J ρ s->W.ex k ((vs.map er).reverse++st) ρ J Q->PL ρ m k st Q vs s
inductive PT(ρ:Loc)(kt kf:T)(st:List Md)(Q:Out->Sg->Prop):Bool->Ml->Prop
 |t{s:Ml}(J:Sg):W.St J ρ s->W.ex kt st ρ J Q->PT ρ kt kf st Q Mh s
 |f{s:Ml}(J:Sg):W.St J ρ s->W.ex kf st ρ J Q->PT ρ kt kf st Q Mg s
variable{W}{k kt kf:T}{st:List Md}
theorem step(h:W.wp t (W.PK ρ k st Q) s)(q:∀v J' s',W.St J' ρ s'->W.ex k (er v::st) ρ J' Q->Q' v s'):W.wp t Q' s:=
 Wc.Wm h (λv s' ⟨J',x,e⟩=>q v J' s' x e) λa a z=>z
theorem abd(h:W.wp t (W.PK ρ .yld st Q) s)(q:∀v s',W.PY ρ Q v s'->Q' v s'):W.wp t Q' s:=
 Wc.Wm h (λv s' ⟨J',x,e⟩=>q v s' ⟨J',x,e⟩) λa a z=>z
theorem Ze{m:Nat}{t:RV (List Md)}{Q':List Md->Ml->Prop}(h:W.wp t (W.PL ρ m k st Q) s)(q:∀vs J' s',vs.length=m->W.St J' ρ s'->W.ex k ((vs.map er).reverse++st) ρ J' Q->Q' vs s'):W.wp t Q' s:=
 Wc.Wm h (λv s' ⟨J',l,x,e⟩=>q v J' s' l x e) λa a z=>z
theorem Xz{t:RV Bool}{Q':Bool->Ml->Prop}(h:W.wp t (W.PT ρ kt kf st Q) s)(q1:∀J' s',W.St J' ρ s'->W.ex kt st ρ J' Q->Q' Mh s')(q2:∀J' s',W.St J' ρ s'->W.ex kf st ρ J' Q->Q' Mg s'):W.wp t Q' s:=
 Wc.Wm h (λb s' h=>by cases h with|t J' x e=>exact q1 J' s' x e|f J' x e=>exact q2 J' s' x e) λa a z=>z
theorem Z4{t:RV α}{Q':α->Ml->Prop}{C:Sg->Prop}(h:W.wp t (λa=>PU W.Z W.Φ W.L ρ C) s)(q:∀v J' s',W.St J' ρ s'->C J'->Q' v s'):W.wp t Q' s:=
 Wc.Wm h (λv s' ⟨J',x,e⟩=>q v J' s' x e) λa a z=>z
theorem test(x:W.St J ρ s)(e:W.ex (.ite kt kf) (er v::st) ρ J Q):W.wp (truthy v) (W.PT ρ kt kf st Q) s:=by
 refine ae (dT.inv e) λc z2=>?_;rw[z2.1];refine Wc.of (wpAny_truthy_bool ?_);cases c;·exact .f J x (z2.2.2 rfl)
 ·exact .t J x (z2.2.1 rfl)
theorem kind(x:Nn):W.env.kindOf x=X.scope.names.lookup x:=by unfold SD;rw[W.hE.1]
theorem aba:W.env.scope.kind=.function:=by rw[W.hE.1];exact W.hE.2
theorem ld(S:W.St J ρ s)(h:X.scope.names.lookup x=Mc .local)(hl:gf ρ (enc x)=Mc v)(q:∀u,er u=v->Q' u s):Mx (Mj W.Z.prog W.Z.w) W.A (loadName W.env x) Q' Wc.N0 s:=by obtain⟨g,m,I,hL,hns,hm,_⟩:=S;refine ae (hm.get hl) λu z1=>?_;exact(wpAny_loadName_local aba ((kind x).trans h) (by rw[W.hE.3];exact hns) z1.1 (q u z1.2))
theorem ZK(S:W.St J ρ s)(h:ax X x v/\dw x)(q:∀u s',er u=v->W.St J ρ s'->Q' u s'):W.wp (NV (.Name x p) W.env) Q' s:=
 Wc.of (tG W.B W.hE (S.here W.hb) h λu hu=>q u _ hu S)
end Cn
def aP(X:CX)(e:MX)(k c:T):Prop:=∀(W:Cn X)(ρ:Loc)(J:Sg)(s:Ml)(st:List Md)(Q:Out->Sg->Prop),W.St J ρ s->W.ex c st ρ J Q->W.wp (NV e W.env) (W.PK ρ k st Q) s
def qB(X:CX)(e:MX)(kt kf c:T):Prop:=∀(W:Cn X)(ρ:Loc)(J:Sg)(s:Ml)(st:List Md)(Q:Out->Sg->Prop),W.St J ρ s->W.ex c st ρ J Q->W.wp (QB e W.env (NV e W.env)) (W.PT ρ kt kf st Q) s
def rV(X:CX)(op:Uw)(es:List MX)(kt kf c:T):Prop:=∀(W:Cn X)(ρ:Loc)(J:Sg)(s:Ml)(st:List Md)(Q:Out->Sg->Prop),W.St J ρ s->W.ex c st ρ J Q->W.wp (VY op es W.env) (W.PT ρ kt kf st Q) s
def CH(X:CX)(op:Uw)(es:List MX)(c:T):Prop:=∀(W:Cn X)(ρ:Loc)(J:Sg)(s:Ml)(Q:Out->Sg->Prop)(pos:Qv),W.St J ρ s->W.ex c [] ρ J Q->W.wp (boolOp pos op (evalEach es W.env)) (W.PY ρ Q) s
def yt(X:CX)(l:MX)(op:U7)(r:MX)(k c:T):Prop:=Oz op r=Mg/\∀(W:Cn X)(ρ:Loc)(J:Sg)(s:Ml)(st:List Md)(Q:Out->Sg->Prop),W.St J ρ s->W.ex c st ρ J Q->
 W.wp (NV l W.env) (λa=>W.wp (NV r W.env) λb=>W.wp (Qj op a b) (W.PK ρ k st Q)) s
def dH(X:CX)(es:List MX)(k c:T):Prop:=es.any Xj=Mg/\∀(W:Cn X)(ρ:Loc)(J:Sg)(s:Ml)(st:List Md)(Q:Out->Sg->Prop)(pos:Qv),W.St J ρ s->W.ex c st ρ J Q->
 W.wp (Qz (Ra pos (OL es W.env))) (W.PL ρ es.length k st Q) s
def EW(X:CX)(e:Option MX)(k c:T):Prop:=∀(W:Cn X)(ρ:Loc)(J:Sg)(s:Ml)(st:List Md)(Q:Out->Sg->Prop),W.St J ρ s->W.ex c st ρ J Q->W.wp (valueOrNone (evalOpt e W.env)) (W.PK ρ k st Q) s
def x6(X:CX)(ops:List U7)(rs:List MX)(kt kf c:T):Prop:=∀(W:Cn X)(ρ:Loc)(J:Sg)(s:Ml)(st:List Md)(Q:Out->Sg->Prop)(pos:Qv)(left:Md),W.St J ρ s->W.ex c (er left::st) ρ J Q->
 W.wp (testChain pos left ops (markedEach ops rs (evalEach rs W.env))) (W.PT ρ kt kf st Q) s
theorem jp{M:O6}(hs:fK value=Mh)(h:Wc.Wi (Mj prog M) A (NV value env) (λo s₁=>Wc.Wi (Mj prog M) A (Sh o attr Mh) Q' E s₁) E s):Wc.Wi (Mj prog M) A (NV (.Attribute value attr pos) env) Q' E s:=by
 have he:NV (.Attribute value attr pos) env=(do
   let o <-NV value env
   OV pos.atName
   let r <-Pm [o] (Sh o attr Mh)
   Sr value o r
   NN r):=by
  show(do
   let o <-attributeBase value attr env (NV value env)
   OV pos.atName
   let r <-Pm [o] (Sh o attr Mh)
   Sr value o r
   NN r)=_
  rw[jX hs]
 exact Wc.Zw h he
variable{l y r:MX}{g:Nn}{vs es rs:List MX}{C:Mk}{kd:Nat}{ops:List U7}{apos yp:Qv}
namespace Wc
theorem bX(h:Xj e=Mg):OL (e::es) env=(Mg,NV e env)::OL es env:=by cases e<;>first|rfl|cases h
theorem gG(h:es.any Xj=Mg):(Ra pos (OL es env)).any (·.1)=false:=by
 induction es with
 |nil=>rfl
 |cons e r ih=>rw[PW,Qa] at h;rw[bX h.1];exact(Bool.false_or _).trans (ih h.2)
section
variable{X:CX}{k kt kf c c1 c2:T}
theorem B4:aP X (.Constant .none kd p) k (.cst .none k):=λa a J a a a x e=>of (wpAny_Constant_none ⟨J,x,e⟩)
theorem Co{b:Bool}:aP X (.Constant (.bool b) kd p) k (.cst (.bool b) k):=λa a J a a a x e=>of (wpAny_Constant_bool ⟨J,x,e⟩)
theorem Ew{i:Int}:aP X (.Constant (.int i) kd p) k (.cst (.int i 0) k):=λa a J a a a x e=>of (SH ⟨J,x.tk _,e⟩)
theorem DE{i:Nn}:aP X (.Constant (.str i) kd p) k (.cst (.str i 0) k):=λa a J a a a x e=>of (SJ ⟨J,x.tk _,e⟩)
theorem Ab{i:List UInt8}:aP X (.Constant (.bytes i) kd p) k (.cst (.bytes i.toArray 0) k):=λa a J a a a x e=>of (Constant_bytes ⟨J,x.tk _,e⟩)
theorem Gd{y:Nn}(h:ax X y v/\dw y):aP X (.Name y p) k (.cst v k):=λa a J a a a x e=>Cn.ZK x h λu a hu x'=>⟨J,x',by rw[hu];exact e⟩
theorem GK{y:Nn}(h:X.scope.names.lookup y=Mc .local)(hd:dw y):aP X (.Name y p) k (.ld (enc y) k):=λa a J a a a x e=>by refine ae e λv z3=>?_;exact of (Ve (Cn.ld x h z3.1 λu hu=>⟨J,x,by rw[hu];exact z3.2⟩) hd)
theorem DP{y:Nn}(h:X.scope.names.lookup y=Mc .cell)(hd:dw y):aP X (.Name y p) k (.ldc (enc y) k):=λW b J b b b x e=>by refine ae e λv' z2=>?_;have hl:=z2.1;refine ga (W.cell y h) λa o v z1=>?_;have h5:=z1.2.2.2.2;cases hl.symm.trans h5;exact of (Ve (wpAny_loadName_cell Cn.aba ((Cn.kind y).trans h) z1.1 ⟨o,x.here W.hb a o z1.2.1,z1.2.2.1⟩ ⟨J,x,z2.2⟩) hd)
theorem Fn{op:RE}{o:Op}(ho:op=qD o)(h1:aP X r (.bin o k) c1)(h2:aP X l c1 c):aP X (.BinOp l op r p) k c:=λW a a a a a x e=>
 ZQ (Cn.step (h2 W _ _ _ _ _ x e) λa a a x e=>Cn.step (h1 W _ _ _ _ _ x e) λa a a x e=>of (BS x ho e))
theorem Fg(h:aP X y (.neg k) c):aP X (.UnaryOp .USub y p) k c:=λW a a a a a x e=>
 YJ (Cn.step (h W _ _ _ _ _ x e) λa a a x e=>of (Dc x e))
theorem Go{t a b:MX}(ht:qB X t c1 c2 c)(h1:aP X a .yld c1)(h2:aP X b .yld c2):aP X (.IfExp t a b p) k (.blk c k):=λW d d d d d x e=>
 ZP (Cn.Xz (ht W _ _ _ [] _ x e) (λd d x e=>h1 W _ _ _ _ _ x e) λd d x e=>h2 W _ _ _ _ _ x e)
theorem zm{op:Uw}(h:CH X op vs c):aP X (.BoolOp op vs p) k (.blk c k):=λW a a a a a x e=>by rw[arm_eval_BoolOp];exact h W _ _ _ _ _ x e
theorem EH(h:yt X l op r k c):aP X (.Compare l [op] [r] p) k c:=λW a a a a a x e=>Zs (h.2 W _ _ _ _ _ x e) h.1
theorem DH{v:MX}{a:Nn}(hs:fK v=Mh)(h0:enc a≠0)(h:aP X v (.fld (enc a) k) c):aP X (.Attribute v a p) k c:=λW b b b b b x e=>
 jp hs (Cn.step (h W _ _ _ _ _ x e) λb b b x e=>of (tn W.B W.hb x h0 e))
theorem BK{v:MX}{a:Nn}(hs:fK v=Mh)(h0:enc a≠0)(h:aP X v (.prop (enc a) k) c):aP X (.Attribute v a p) k c:=λW b b b b b x e=>
 jp hs (Cn.step (h W _ _ _ _ _ x e) λb b b x e=>aaF W.B W.hb W.hr x h0 e)
theorem Ey{v:MX}{l u:Option MX}(h1:EW X u (.sli k) c1)(h2:EW X l c1 c2)(h3:aP X v c2 c):aP X (.Subscript v (.Slice l u Mq p) pos) k c:=λW a a a a a x e=>
 X7 (Cn.step (h3 W _ _ _ _ _ x e) λa a a x e=>by
  rw[arm_eval_Slice];exact Wh (Cn.step (h2 W _ _ _ _ _ x e) λa a a x e=>Wh (Wn (Cn.step (h1 W _ _ _ _ _ x e) λa a a x e=>
   Wh (Wn (wpAny_pure (of (NM (vJ W.B W.hb x e) (λa a h=>of h) λa a z=>z))))))) )
theorem Du{v i:MX}(hs:du i=Mg)(h1:aP X i (.idx k) c1)(h2:aP X v c1 c):aP X (.Subscript v i p) k c:=λW a a a a a x e=>
 X7 (Cn.step (h2 W _ _ _ _ _ x e) λa a a x e=>Cn.step (h1 W _ _ _ _ _ x e) λa a a x e=>Bk W.B W.hb W.hr x hs e)
theorem Cr(hl:es.length<=1000)(h:dH X es (.W9 es.length k) c):aP X (.List es p) k c:=λW a a a a a x e=>by rw[arm_eval_List];exact Wh (Wo (Wh (Cn.Ze (h.2 W _ _ _ _ _ _ x e) λa a a l x e=>of (za x l hl e))))
theorem zu(hl:es.length<=1000)(h:dH X es (.Xy es.length k) c):aP X (.Tuple es kd p) k c:=λW a a a a a x e=>by rw[arm_eval_Tuple];exact Wh (Wo (Wh (Cn.Ze (h.2 W _ _ _ _ _ _ x e) λa a a l x e=>of (CA x l hl e))))
theorem BB:aP X (.Dict [] [] p) k (.YO k):=λa a a a a a x e=>of (wpAny_Dict_empty (yY x e))
theorem Ff:dH X [] k k:=⟨rfl,λa a J a a a a x e=>Xb ⟨J,rfl,x,e⟩⟩
theorem G5(hs:Xj y=Mg)(h1:dH X es k c1)(h2:aP X y c1 c):dH X (y::es) k c:=⟨by rw[PW,hs,h1.1];rfl,λW a a a a a a x e=>
 WR (Cn.step (h2 W _ _ _ _ _ x e) λa a a x e=>Cn.Ze (h1.2 W _ _ _ _ _ _ x e) λa J' a l x e=>⟨J',by rw[MV,MV,l],x,by rw[Nm,P4,NI];exact e⟩) (bX hs)⟩
theorem Gv:EW X Mq k (.cst .none k):=λa a J a a a x e=>wpAny_pure ⟨J,x,e⟩
theorem Gn(h:aP X y k c):EW X (Mc y) k c:=h
theorem GV{r:MX}{neg:Bool}(ho:op=(if neg then .IsNot else .Is))(h:aP X l (.isn neg k) c):yt X l op (.Constant .none kd p) k c:=⟨rfl,λW a a a a a x e=>
 Cn.step (h W _ _ _ _ _ x e) λa a a x e=>of (wpAny_Constant_none (by rw[ho];exact of (DY (neg:=neg) x e)))⟩
theorem G4{neg:Bool}(hm:Oz op r=Mg)(ho:op=(if neg then .NotEq else .Eq))(h1:aP X r (.eqv neg k) c1)(h2:aP X l c1 c):yt X l op r k c:=⟨hm,λW a a a a a x e=>
 Cn.step (h2 W _ _ _ _ _ x e) λa a a x e=>Cn.step (h1 W _ _ _ _ _ x e) λa a a x e=>of (by rw[ho];exact E4 x (by have:=W.hr.2.1;exact af 0x7868c2000238ca07857809904e17934c9ab048826932c [] [_,_] this) e)⟩
theorem Dv{o:Cm}(hm:Oz op r=Mg)(ho:op=sK o)(h1:aP X r (.cmp o k) c1)(h2:aP X l c1 c):yt X l op r k c:=⟨hm,λW a a a a a x e=>
 Cn.step (h2 W _ _ _ _ _ x e) λa a a x e=>Cn.step (h1 W _ _ _ _ _ x e) λa a a x e=>of (xd x ho e)⟩
def Zj(X:CX)(r:MX)(xs:List Md):Prop:=∀(W:Cn X)(ρ:Loc)(J:Sg)(s:Ml),W.St J ρ s->W.wp (NV r W.env) (λb s₂=>W.St J ρ s₂/\aaN s₂.heap b xs) s
theorem abj{neg:Bool}(hm:Oz op r=Mg)(ho:op=(if neg then .NotIn else .In))(ht:Zj X r xs)(h:aP X l (.inn neg xs k) c):yt X l op r k c:=⟨hm,λW a a a a a x e=>
 Cn.step (h W _ _ _ _ _ x e) λa a a x e=>Wm (ht W _ _ _ x) (λ_ _ ⟨x,ht⟩=>of (by rw[ho];exact D4 x ht e)) λa a z=>z⟩
theorem E6(h:qB X y kf kt c):qB X (.UnaryOp .Not y p) kt kf c:=λW a a a a a x e=>
 Za (Cn.Xz (h W _ _ _ _ _ x e) (λJ a x e=>.f J x e) λJ a x e=>.t J x e)
theorem Gh{op:Uw}(h:rV X op vs kt kf c):qB X (.BoolOp op vs p) kt kf c:=λW a a a a a x e=>YL (h W _ _ _ _ _ x e)
theorem F8(h:yt X l op r (.ite kt kf) c):qB X (.Compare l [op] [r] p) kt kf c:=λW a a a a a x e=>
 Yu (Wm (h.2 W _ _ _ _ _ x e) (λa a h=>Wm h (λa a h=>Cn.step h λa a a x e=>Cn.test x e) λa a z=>z) λa a z=>z) h.1
theorem Fb(h1:x6 X ops rs kt kf c1)(h2:aP X l c1 c):qB X (.Compare l ops rs p) kt kf c:=λW a a a a a x e=>by rw[arm_isTrue_Compare];exact Wh (Cn.step (h2 W _ _ _ _ _ x e) λa a a x e=>h1 W _ _ _ _ _ _ _ x e)
noncomputable def wT:MX->Bool
 |.UnaryOp ..=>Mh
 |.BoolOp ..=>Mh
 |.Compare ..=>Mh
 |.IfExp ..=>Mh
 |_=>Mg
theorem GN(ht:wT y=Mg)(h:aP X y (.ite kt kf) c):qB X y kt kf c:=λW a a a a a x e=>
 YM (Cn.step (h W _ _ _ _ _ x e) λa a a x e=>Cn.test x e) (by cases y<;>first|rfl|cases ht)
theorem EI{op:Uw}:rV X op [] kt kf (match op with|.And=>kt|.Or=>kf):=λa a J a a a x e=>by
 cases op;·exact wpAny_pure (.t J x e)
 ·exact wpAny_pure (.f J x e)
theorem E2(h1:rV X .And vs kt kf c1)(h2:qB X y c1 kf c):rV X .And (y::vs) kt kf c:=λW a a a a a x e=>
 Ys (Cn.Xz (h2 W _ _ _ _ _ x e) (λa a x e=>h1 W _ _ _ _ _ x e) λJ a x e=>.f J x e)
theorem DJ(h1:rV X .Or vs kt kf c1)(h2:qB X y kt c1 c):rV X .Or (y::vs) kt kf c:=λW a a a a a x e=>
 Wh (Cn.Xz (h2 W _ _ _ _ _ x e) (λJ a x e=>wpAny_pure (.t J x e)) λa a x e=>h1 W _ _ _ _ _ x e)
theorem DR{o:Cm}(hm:Oz op r=Mg)(ho:op=sK o)(h:aP X r (.cmp o (.ite kt kf)) c):x6 X [op] [r] kt kf c:=λW a a a a a pos left x e=>by
 have e':markedEach [op] [r] (evalEach [r] W.env)=[NV r W.env]:=by show[markedBehindIn op r (NV r W.env)]=_;rw[QM hm]
 rw[e'];exact Wh (Wn (Cn.step (h W _ _ _ _ _ x e) λa a a x e=>Wh (Wo (Wh (bv (Cn.step (of (xd x ho e)) λa a a x e=>Wn (Cn.test x e)))))))
theorem D8{op2:U7}{r2:MX}{o:Cm}(ho:op=sK o)(h1:x6 X (op2::ops) (r2::rs) kt kf c1)(h:aP X r (.XJ o (.ite c1 (.pop kf))) c):x6 X (op::op2::ops) (r::r2::rs) kt kf c:=λW a a a a a pos left x e=>by
 show W.wp (do
   let rv <-Pm [left] (NV r W.env)
   OV pos
   let c <-Pm [left,rv] (Qj op left rv)
   release [left,rv] [c]
   if <-Pm [c,rv] (truthy c) then testChain pos rv (op2::ops) (markedEach (op2::ops) (r2::rs) (evalEach (r2::rs) W.env)) else NN Mg) _ _
 exact Wh (Wn (Cn.step (h W _ _ _ _ _ x e) λv a a x e=>Wh (Wo (Wh (Wn (Cn.step (of (y8 x ho e)) λa a a x e=>
  Wh (of (Tp (Wh (Wn (Cn.Xz (Cn.test x e) (λa a x e=>h1 W _ _ _ _ _ pos v x e) λJ a x e=>wpAny_pure (.f J x e))))))))))))
theorem He{op:Uw}(h:aP X y .yld c):CH X op [y] c:=λW a a a a a x e=>h W _ _ _ [] _ x e
theorem GA{y2:MX}(h1:CH X .And (y2::vs) c1)(h:aP X y (.dup (.ite (.pop c1) .yld)) c):CH X .And (y::y2::vs) c:=λW a a a a pos x e=>
 Wh (Cn.step (h W _ _ _ [] _ x e) λa a a x e=>Wh (Wo (Wh (Wn (Cn.Xz (Cn.test x e) (λa a x e=>h1 W _ _ _ _ pos x e) λJ a x e=>wpAny_pure ⟨J,x,e⟩)))))
theorem Gc{y2:MX}(h1:CH X .Or (y2::vs) c1)(h:aP X y (.dup (.ite .yld (.pop c1))) c):CH X .Or (y::y2::vs) c:=λW a a a a pos x e=>
 Wh (Cn.step (h W _ _ _ [] _ x e) λa a a x e=>Wh (Wo (Wh (Wn (Cn.Xz (Cn.test x e) (λJ a x e=>wpAny_pure ⟨J,x,e⟩) λa a x e=>h1 W _ _ _ _ pos x e)))))
end
section
variable{X:CX}{W:Cn X}{st:List Md}{k c c1 c2:T}{as:List MX}
theorem xb(x:W.St J ρ s){g:Mk}{Q':Md×List Md->Ml->Prop}(hg:mt C (enc ("__init__":Nn))=Mc g)(q:∀s',ZG W.Z (.ref g)->W.St J ρ s'->Q' (.ref g,[]) s'):W.wp (Rh (.ref C) "__init__" pl) Q' s:=by obtain⟨K,hK,F⟩:=(W.B.3 C (jd hg)).Yj;have XI:K.In s.heap:=λa o e=>x.here W.hb a o (hK a o e);obtain z15:=F.7 g hg;exact of (method_cls XI z15.1 (cls_value XI z15.2.1 z15.2.2 rfl (q _ ⟨K,hK,t9 (F.10 _ g (by decide) hg).2.2⟩ (x.tk _))))
theorem qU{m:Nat}{vs:List Md}(l:vs.length=m)(e:exec Z n (.call m k) ((vs.map er).reverse++f::st) ρ J Q):ac Z n f (vs.map er) J λv J'=>exec Z n k (v::st) ρ J' Q:=by refine ga e λus f st' z14=>?_;have ht:=z14.1;rw[eW (by rw[Mt];exact l)] at ht;cases ht;exact z14.2
theorem un{m:Nat}{vs:List Md}{o:Md}(l:vs.length=m)(e:exec Z n (.XM m k) ((vs.map er).reverse++f::o::st) ρ J Q):ac Z n f (o::vs.map er) J λv J'=>exec Z n k (v::st) ρ J' Q:=by refine vx e λus f o' st' z13=>?_;have ht:=z13.1;rw[eW (by rw[Mt];exact l)] at ht;cases ht;exact z13.2
theorem cM(x:W.St J ρ s)(hg:ax X g v/\dw g)(h:∀f s₁,er f=v->W.St J ρ s₁->W.wp (QT pos f [] (Ra pos (OL as W.env)) []) Q' s₁):W.wp (NV (.Call (.Name g p) as [] pos) W.env) Q' s:=
 YS (Cn.ZK x hg h)
theorem ca{k':T}(x:W.St J ρ s)(h1:dH X as k' c)(e:W.ex c st ρ J Q)(hf:(∀a,f≠.ref a)∨ZG W.Z f)(h:∀vs J' s',vs.length=as.length->W.St J' ρ s'->W.ex k' ((vs.map er).reverse++st) ρ J' Q->W.wp (OG f (first++vs)) Q' s'):W.wp (QT pos f first (Ra pos (OL as W.env)) []) Q' s:=by
 rcases hf with hf|hf;·exact dr (gG h1.1) hf (Cn.Ze (h1.2 W _ _ _ _ _ _ x e) h)
 ·exact rz W.hb (gG h1.1) hf (Cn.Ze (h1.2 W _ _ _ _ _ _ x e) λvs J' s' l x' e'=>⟨x'.here W.hb,h vs J' s' l x' e'⟩)
theorem sP{k':T}(hg:ax X g v/\dw g)(hv:∀f,er f=v->f=v/\∀a,f≠.ref a)(h:dH X as k' c)(op:∀(W:Cn X)(ρ:Loc)(J:Sg)(s:Ml)(st:List Md)(Q:Out->Sg->Prop)(vs:List Md),vs.length=as.length->W.St J ρ s->W.ex k' ((vs.map er).reverse++st) ρ J Q->W.wp (OG v vs) (W.PK ρ k st Q) s):aP X (.Call (.Name g p) as [] pos) k c:=λW ρ J s st Q x e=>
 cM x hg λf s₁ hf x₁=>by obtain z12:=hv f hf;obtain rfl:=z12.1;exact ca x₁ h e (.inl z12.2) λvs J' s' l x' e'=>op W ρ J' s' st Q vs l x' e'
theorem pm(f:Md)(h:er f=.builtin id):f=.builtin id/\∀a,f≠.ref a:=by rw[lY h];exact⟨rfl,nofun⟩
theorem lh(f:Md)(h:er f=.type id):f=.type id/\∀a,f≠.ref a:=by rw[bJ h];exact⟨rfl,nofun⟩
theorem DF(hg:ax X g (.builtin "len")/\dw g)(h:dH X [y] (.len k) c):aP X (.Call (.Name g p) [y] [] pos) k c:=
 sP hg pm h λW a a a a a a l x e=>by refine ae (XX l) λv z10=>?_;obtain rfl:=z10;exact Cv W.B W.hb W.hr x e
theorem Fp(hg:ax X g (.builtin "abs")/\dw g)(h:dH X [y] (.abs k) c):aP X (.Call (.Name g p) [y] [] pos) k c:=
 sP hg pm h λW a a a a a a l x e=>by refine ae (XX l) λv z9=>?_;obtain rfl:=z9;exact of (Cq x e)
theorem DX{z:MX}(hg:ax X g (.builtin "min")/\dw g)(h:dH X [y,z] (.YU k) c):aP X (.Call (.Name g p) [y,z] [] pos) k c:=
 sP hg pm h λW a a a a a a l x e=>by refine bI (dM l) λv u z8=>?_;obtain rfl:=z8;exact of (CD W.hr.2.2.1 x e)
theorem A9(hg:ax X g (.type "int")/\dw g)(h:dH X [y] (.Xq k) c):aP X (.Call (.Name g p) [y] [] pos) k c:=
 sP hg lh h λW a a a a a a l x e=>by refine ae (XX l) λv z7=>?_;obtain rfl:=z7;exact of (Bm x e)
theorem vY(hg:ax X g (.type "bytes")/\dw g)(h:dH X [y] (.Xa k) c):aP X (.Call (.Name g p) [y] [] pos) k c:=
 sP hg lh h λW a a a a a a l x e=>by refine ae (XX l) λv z6=>?_;obtain rfl:=z6;exact of (xr W.hr.2.2.1 x e)
theorem Bt(hg:ax X g (.type "bytearray")/\dw g):aP X (.Call (.Name g p) [] [] pos) k (.YC k):=
 sP hg lh Ff λW a a a a a a l x e=>by rw[PB l] at e ⊢;exact xw x e
theorem zZ(hg:ax X g (.type "list")/\dw g)(h:dH X [y] (.Yh k) c):aP X (.Call (.Name g p) [y] [] pos) k c:=
 sP hg lh h λW a a a a a a l x e=>by refine ae (XX l) λv z5=>?_;obtain rfl:=z5;exact of (wJ W.B W.hb W.hr.2.2.1 x e)
theorem Ei{ty:Nn}{tp:Qv}(hg:ax X g (.builtin "isinstance")/\dw g)(ht:ax X ty tv/\dw ty)(hs:Xj y=Mg)(h:aP X y (.isi tv k) c):aP X (.Call (.Name g p) [y,.Name ty tp] [] pos) k c:=λW ρ J s st Q x e=>
 cM x hg λf s₁ hf x₁=>by rw[lY hf];refine dr (gG (by rw[PW,hs];rfl)) (λa=>nofun) (WR (Cn.step (h W _ _ _ _ _ x₁ e) λv a a x e=>?_) (bX hs));exact WR (Cn.ZK x ht λu a hu x=>Xb (of (Bw W.B W.hb x hu e))) (bX rfl)
theorem C5(hg:ax X g (.ref a)/\dw g)(hc:Zo a=Mh)(h:dH X as (.call as.length k) c):aP X (.Call (.Name g p) as [] pos) k (.cst (.ref a) c):=λW ρ J s st Q x e=>
 cM x hg λf s₁ hf x₁=>by rw[aq hf];exact ca x₁ h e (.inr (W.B.5 a hc)) λvs J' s' l x' e'=>hO W.hb W.hr.room x' (qU l e')
theorem mM{m:Nn}(hb:fK o=Mh)(hp:apos.endLine=pos.line)(hs:as.any Xj=Mg)(hl:as.length<=20)(h:W.wp (NV o W.env) (λov s₁=>∀pl:RV Bool,W.wp (Rh ov m pl) (λq s₂=>W.wp (QT pos q.1 q.2 (Ra pos (OL as W.env)) []) Q' s₂) s₁) s):W.wp (NV (.Call (.Attribute o m apos) as [] pos) W.env) Q' s:=by
 have few:methodCallForm (as.length+([]:List Keyword).length) (Ra pos (OL as W.env)) (backToKw pos (keywordEach [] W.env))=true:=by
  unfold methodCallForm;have e1:(Ra pos (OL as W.env)).all (λx=>!x.1)=true:=by rw[List.all_eq_not_any_not];simp only[Bool.not_not,gG (pos:=pos) (env:=W.env) hs];rfl
  rw[e1];show(Mh&&Mh&&M0 (as.length+0+0<30))=Mh;rw[decide_eq_true (kG hl rfl)];rfl
 rw[arm_eval_Call,jX hb];refine Wh (Wm h (λov s₁ hq=>Wh (Wo ?_)) λa a z=>z);unfold methodCall;rw[few];refine Wh (Wn ?_);show W.wp (Rh ov m _) _ _;refine Wm (hq _) (λq s₂ h₂=>?_) λa a z=>z;have hpos:Rx Mh o W.env apos pos=NN pos:=by unfold Rx;simp[hp]
 dsimp only;rw[hpos];exact Wh (wpAny_pure h₂)
theorem Cx{m:Nn}(hb:fK o=Mh)(h0:enc m≠0)(hp:apos.endLine=pos.line)(hl:as.length<=20)(h1:dH X as (.XM as.length k) c1)(h2:aP X o (.meth (enc m) c1) c):aP X (.Call (.Attribute o m apos) as [] pos) k c:=λW ρ J s st Q x e=>
 mM hb hp h1.1 hl (Cn.step (h2 W _ _ _ _ _ x e) λov J₁ s₁ x₁ e₁ pl=>Wm (of (vZ W.B W.hb x₁ h0 e₁)) (λq s₂ h₂=>by refine bI h₂ λg a z3=>?_;rw[z3.1];refine ae z3.2.2 λJ₂ z4=>?_;exact ca z4.1 h1 z4.2 (.inr z3.2.1) λvs J' s' l x' e'=>hO (vals:=.ref a::vs) W.hb W.hr.room x' (un l e')) λb b z=>z)
theorem G2{m:Nn}(hb:fK o=Mh)(h0:enc m≠0)(hp:apos.endLine=pos.line)(hl:as.length<=20)(h1:dH X as (.cb as.length k) c1)(h2:aP X o (.bm (enc m) c1) c):aP X (.Call (.Attribute o m apos) as [] pos) k c:=λW ρ J s st Q x e=>
 mM hb hp h1.1 hl (Cn.step (h2 W _ _ _ _ _ x e) λov J₁ s₁ x₁ e₁ pl=>Wm (of (DT x₁ h0 e₁)) (λq s₂ h₂=>by refine ae h₂ λid z1=>?_;rw[z1.1];refine ae z1.2 λJ₂ z2=>?_;exact ca z2.1 h1 z2.2 (.inl λa=>nofun) λvs J' s' l x' e'=>Em W.B W.hb x' l e') λa a z=>z)
theorem Bp{y:Nn}{g:Mk}(hy:ax X y (.ref C)/\dw y)(hg:mt C (enc ("__init__":Nn))=Mc g)(hp:apos.endLine=pos.line)(hl:as.length<=20)(h:dH X as (.call as.length k) c):aP X (.Call (.Attribute (.Name y yp) "__init__" apos) as [] pos) k (.cst (.ref g) c):=λW ρ J s st Q x e=>
 mM rfl hp h.1 hl (Cn.ZK x hy λu s₁ hu x₁ pl=>by rw[aq hu];exact xb x₁ hg λs₂ hkp x₂=>ca x₂ h e (.inr hkp) λvs J' s' l x' e'=>hO W.hb W.hr.room x' (qU l e'))
end
end Wc
noncomputable def WT(Φ:bA)(own:List Mk)(h:Ox):bA:=⟨λb=>if b∈own then h.get? b else Φ.o b,Φ.fr⟩
variable{b:Mk}
theorem pj{own:List Mk}(q:b∈own):(WT Φ own h).o b=h.get? b:=if_pos q
theorem jI{own:List Mk}(q:b∉own):(WT Φ own h).o b=Φ.o b:=if_neg q
noncomputable def qn(g:Mk->Own)(own:List Mk)(x:Own):Mk->Own:=λb=>if b∈own then x else g b
variable{g:Mk->Own}{x:Own}
theorem dN{own:List Mk}(q:b∈own):qn g own x b=x:=if_pos q
theorem cj{own:List Mk}(q:b∉own):qn g own x b=g b:=if_neg q
inductive Sp(Z:Sys)(Φ:bA)(own:List Mk)(J:Sg)(L:Mk)(ρ:Loc)(s:Ml):Prop
 |mk (g:Mk->Own) (m:Nn->Option Md) (inv:Inv Φ J g s.heap) (hL:g L=.loc) (ns:s.heap.Ns L m) (hm:dJ m ρ) (ow:∀a∈own,g a=.loc/\a≠L) (gens:s.gens=#[]) (os:s.os=Z.os)
theorem Inv.own(I:Inv Φ J g h){own:List Mk}(hx:x=.loc∨x=.W0∨x=.free)(ho:∀a∈own,g a=.loc∨g a=.W0∨g a=.free)(out:∀b,b∉own->Φ'.o b=Φ.o b/\(Φ'.fr b↔Φ.fr b))(keep:∀b o,b∉own->h.get? b=Mc o->h'.get? b=Mc o)(fz:∀b o,b∈own->Φ'.o b=Mc o->Kept (Φ'.fr b) h' b o/\x=.W0)(frs:∀b,b∈own->Φ'.fr b->x≠.free)(lv:x≠.free->∀b∈own,∃o,h'.get? b=Mc o):Inv Φ' J (qn g own x) h':=by
 refine I.tr (·∈own) (λb q=>⟨cj q,(out b q).1,(out b q).2,rfl⟩) keep (λb d q e=>?_) (λb o q e=>?_) (λb q e=>?_) (λb c q e=>?_) λb q e=>?_;·rcases ho b q with z|z|z<;>rw[z] at e<;>cases e
 ·rw[dN q];exact fz b o q e
 ·rw[dN q];rcases hx with z|z|z
  ·exact .inr z
  ·exact .inl z
  ·exact absurd z (frs b q e)
 ·have:=(I.3 b c e).1;rcases ho b q with z|z|z<;>rw[z] at this<;>cases this
 ·rw[dN q] at e;exact lv e b q
variable{x:Nn}{t:Nat}{ws:List Md}{L':Mk}{ρ':Loc}{own2:List Mk}{sc:O1}
section
variable{own:List Mk}
theorem Sp.st(x:Sp Z Φ own J L ρ s):St Z Φ J L ρ s:=by cases x with|mk g m a b c d e f h=>exact⟨g,m,a,b,c,d,f,h⟩
theorem St.sp(x:St Z Φ J L ρ s):Sp Z Φ [] J L ρ s:=by induction x with|mk g m a b c d e f=>exact⟨g,m,a,b,c,d,nofun,e,f⟩
theorem Sp.tk(x:Sp Z Φ own J L ρ s)(t:Nat):Sp Z Φ own J L ρ {s with toks:=t}:=by induction x with|mk g m a b c d e f h=>exact .mk g m a b c d e f h
theorem Sp.X3(x:Sp Z Φ own J L ρ s)(ha:a∈own):(∃o,s.heap.get? a=Mc o)/\Φ.o a=Mq/\J a=Mq/\a≠L:=by
 induction x with
 |mk g m I b c d ho=>have h:=ho a ha;exact⟨I.4 a (by rw[h.1];exact nofun),I.Z2 (by rw[h.1];exact nofun),I.aai (by rw[h.1];exact nofun),h.2⟩
theorem Sp.base(x:Sp Z Φ own J L ρ s)(hb:WI Z Φ):WI Z (WT Φ own s.heap):=λa o e=>
 ⟨(jI λq=>by have:=(x.X3 q).2.1;rw[(hb a o e).1] at this;cases this).trans (hb a o e).1,(hb a o e).2⟩
theorem Sp.WT(x:Sp Z Φ own J L ρ s):St Z (WT Φ own s.heap) J L ρ s:=by
 cases x with
 |mk g m I hL hn hm ho hg hos=>
  exact⟨qn g own .W0,m,I.own (.inr (.inl rfl)) (λa q=>.inl (ho a q).1) (λb q=>⟨jI q,Pl⟩) (λc c c e=>e) (λb o q e=>⟨.of ((pj q).symm.trans e),rfl⟩) (λc c c=>nofun) λc b q=>I.4 b (by rw[(ho b q).1];exact nofun),
   (cj λq=>(ho L q).2 rfl).trans hL,hn,hm,hg,hos⟩
theorem cR.held(hr:cR n A Φ L)(x:Sp Z Φ own J L' ρ s)(h:L=L'∨L∈own/\∀o,s.heap.get? L=Mc o->∀vs,o.data≠.fields vs):cR n A (Internal.WT Φ own s.heap) L':=by
 refine ae hr.2.2.2 λl z10=>?_;refine⟨hr.1,hr.2.1,hr.2.2.1,l,z10.1,z10.2.Wq (λa q=>q) (λa o e=>(jI λq=>by rw[(x.X3 q).2.1] at e;cases e).trans e) λa q=>?_⟩;rw[q];rcases h with h|⟨h,h'⟩
 ·exact .inl h
 ·refine ae ((x.X3 h).1) λo ho=>?_;exact .inr ⟨o,(pj h).trans ho,h' o ho⟩
theorem St.XZ(x:St Z Φ J L ρ s)(h:s.heap.objs.size<=a):¬Φ.fr a:=by cases x with|mk g m I=>exact I.XZ h
inductive Freed(Z:Sys)(Φ:bA)(own:List Mk)(h₀:Ox)(J:Sg)(L:Mk)(ρ:Loc)(s:Ml):Prop
 |mk:Sp Z Φ own J L ρ s->(∀a∈own,¬Φ.fr a->s.heap.get? a=h₀.get? a)->(∀a∈own,∀o,h₀.get? a=Mc o->Kept (Φ.fr a) s.heap a o)->Freed Z Φ own h₀ J L ρ s
theorem Sp.free{s':Ml}(S:Sp Z Φ own J L ρ s)(x:St Z (Internal.WT Φ own s.heap) J' L ρ' s'):Freed Z Φ own s.heap J' L ρ' s':=by
 induction x with
 |mk g m I hL hn hm hg hos=>
  have key:∀a∈own,∀o,s.heap.get? a=Mc o->Kept (Φ.fr a) s'.heap a o/\g a=.W0:=λa ha o ho=>I.1 a o ((pj ha).trans ho);have fx:∀a∈own,g a=.W0:=λa ha=>(S.X3 ha).1.elim λo ho=>(key a ha o ho).2;refine⟨⟨qn g own .loc,m,I.own (.inl rfl) (λa q=>.inr (.inl (fx a q))) (λb q=>⟨(jI q).symm,Pl⟩) (λc c c e=>e) (λb o q e=>?_) (λc c c=>nofun) (λc b q=>I.4 b (by rw[fx b q];exact nofun)),(cj λq=>(S.X3 q).2.2.2 rfl).trans hL,hn,hm,
   λa ha=>⟨dN ha,(S.X3 ha).2.2.2⟩,hg,hos⟩,λa ha hf=>?_,λa ha o ho=>(key a ha o ho).1⟩
  ·rw[(S.X3 q).2.1] at e;cases e
  ·refine ae ((S.X3 ha).1) λo ho=>?_;exact((key a ha o ho).1.at hf).trans ho.symm
theorem Sp.to(x:Sp Z Φ own J L ρ s)(k:∀b o,b∉own->s.heap.get? b=Mc o->h'.get? b=Mc o)(h2:∀a∈own2,a∈own/\∃o,h'.get? a=Mc o)(hf:∀a∈own,a∉own2->¬Φ.fr a):Sp Z Φ own2 J L ρ {s with heap:=h',toks:=t}:=by
 induction x with
 |mk g m I hL hn hm ho hg hos=>
  refine ae hn λoL z7=>?_;refine ae z7 λes z8=>?_;refine ae z8 λep z9=>?_;obtain⟨q,r⟩:=z9;have hLo:L∉own:=λq=>(ho L q).2 rfl;refine⟨qn (qn g own .free) own2 .loc,m,I.tr (·∈own) (λb q=>⟨(cj λz=>q (h2 b z).1).trans (cj q),rfl,Pl,rfl⟩) k (λb d q e=>?_) (λb o q e=>?_) (λb q e=>?_) (λb c q e=>?_) (λb q e=>?_),
   ((cj λz=>hLo (h2 L z).1).trans (cj hLo)).trans hL,⟨oL,es,ep,k _ _ hLo q,r⟩,hm,λa q=>⟨dN q,(ho a (h2 a q).1).2⟩,hg,hos⟩
  ·rw[(ho b q).1] at e;cases e
  ·rw[I.Z2 (by rw[(ho b q).1];exact nofun)] at e;cases e
  ·exact .inr (dN (O7 λz=>hf b q z e))
  ·rw[I.aai (by rw[(ho b q).1];exact nofun)] at e;cases e
  ·exact(h2 b (O7 λz=>e ((cj z).trans (dN q)))).2
theorem Sp.ext(x:Sp Z Φ own J L ρ s)(k:∀b o,b∉own->s.heap.get? b=Mc o->h'.get? b=Mc o)(lv:∀a∈own,∃o,h'.get? a=Mc o):Sp Z Φ own J L ρ {s with heap:=h',toks:=t}:=x.to k (λa q=>⟨q,lv a q⟩) λc q z=>absurd q z
theorem Sp.but(x:Sp Z Φ own J L ρ s)(ha:a∈own)(hs:NC a s.heap h')(lv:∃o,h'.get? a=Mc o):Sp Z Φ own J L ρ {s with heap:=h',toks:=t}:=
 x.ext (λb o hb e=>(hs.2 b λq=>hb (q▸ha)).trans e) λb hb=>(Se (b=a)).elim (λq=>q▸lv) λq=>(x.X3 hb).1.elim λo ho=>⟨o,(hs.2 b q).trans ho⟩
theorem Sp.Ws(x:Sp Z Φ own J L ρ s)(hn:∀a∈own,¬Φ.fr a)(hs:∀b o,b∉own->s.heap.get? b=Mc o->h'.get? b=Mc o):St Z Φ J L ρ {s with heap:=h',toks:=t}:=(x.to (own2:=[]) hs nofun λa q c=>hn a q).st
theorem St.aaG(x:St Z Φ J L ρ s)(k:∀b o,s.heap.get? b=Mc o->h'.get? b=Mc o)(hf:∀a∈own,s.heap.objs.size<=a/\∃o,h'.get? a=Mc o):Sp Z Φ own J L ρ {s with heap:=h',toks:=t}:=by
 cases x with
 |mk g m I hL hn hm hg hos=>
  refine ae hn λoL z4=>?_;refine ae z4 λes z5=>?_;refine ae z5 λep z6=>?_;obtain⟨q,r⟩:=z6;have hLo:L∉own:=λz=>absurd (Nz q) (PF.mpr (hf L z).1);exact⟨qn g own .loc,m,I.own (.inl rfl) (λa q=>.inr (.inr (I.fresh (hf a q).1).2.2)) (λc c=>⟨rfl,Pl⟩) (λb o c=>k b o) (λb o q e=>by rw[(I.fresh (hf b q).1).2.1] at e;cases e) (λc c c=>nofun) (λc b q=>(hf b q).2),(cj hLo).trans hL,⟨oL,es,ep,k _ _ q,r⟩,hm,
   λa q=>⟨dN q,λz=>hLo (z▸q)⟩,hg,hos⟩
theorem St.abb{o:P8}(x:St Z Φ J L ρ s)(ho:o.isFreed=Mg):Sp Z Φ [s.heap.objs.size] J L ρ {s with heap:=s.heap.push o,toks:=t}:=
 x.aaG (λa a e=>MD _ e) λb hb=>by rw[MM.mp hb];exact⟨MC _,_,MR _ ho⟩
theorem St.ZN(x:St Z Φ J L ρ s):∀a∈[s.heap.objs.size],¬Φ.fr a:=λa ha=>by rw[MM.mp ha];exact x.XZ (MC _)
theorem Sp.W7{m:Nn->Option Md}(S:Sp Z Φ own J L ρ s)(hL:L'∈own)(hn:s.heap.Ns L' m)(hm:dJ m ρ')(h2:∀a∈own2,(a=L∨a∈own)/\a≠L'):Sp Z Φ own2 J L' ρ' s:=by
 cases S with
 |mk g m' I hgL hns hm' hown hg hos=>exact⟨g,m,I,(hown L' hL).1,hn,hm,λa ha=>⟨(h2 a ha).1.elim (λq=>q▸hgL) λq=>(hown a q).1,(h2 a ha).2⟩,hg,hos⟩
theorem Sp.aa0{x:Mk}{nn:Nat}(S:Sp Z Φ own J L ρ s)(hx:x∈own)(hxf:¬Φ.fr x)(ho:s.heap.get? x=Mc (⟨.type "list",Mq,.seq ys nn,#[]⟩:P8))(hw:ys.toList.map er=ws):J x=Mq/\St Z Φ (upd J x (.list ws)) L ρ s:=by
 have lv:=S.X3 hx;cases S with
 |mk g m' I hgL hns hm' hown hg hos=>have I2:=I.Zn (x:=.obj) (.inl (hown x hx).1) ⟨_,ho⟩ (Φ':=Φ) (λa a=>⟨rfl,Pl⟩) (λo e=>by rw[lv.2.1] at e;cases e) λq=>absurd q hxf;exact⟨lv.2.2.1,_,m',I2.cell bi lv.2.2.1 ⟨ys,nn,ho,hw⟩,(c6 (Qi lv.2.2.2)).trans hgL,hns,hm',hg,hos⟩
theorem St.gf(x:St Z Φ J L ρ s)(h:∀c,gf ρ c=gf ρ' c):St Z Φ J L ρ' s:=by cases x with|mk g m I hL hn hm hg ho=>exact⟨g,m,I,hL,hn,λy=>(hm y).trans (h _),hg,ho⟩
theorem gF(hE:ky env sc L)(hx:sc.names.lookup x=Mc .local)(h0:enc x≠0)(S:Sp Z Φ own J L ρ s){Q':Ml->Prop}(h:∀s',Sp Z Φ own J L (sf ρ (enc x) (er v)) s'->(∀a∈own,s'.heap.get? a=s.heap.get? a)->Q' s'):Mx (Mj Z.prog Z.w) A (VD env x v) (λf=>Q') E s:=by
 induction S with
 |mk g m I hL hn hm ho hg hos=>
  have hk:env.kindOf x=Mc .local:=by unfold SD;rw[hE.1];exact hx
  refine wpAny_storeName_local hk (by rw[hE.3];exact hn) (λh' hn' hs'=>?_) (by rw[hE.1,hE.2];rfl);rw[hE.3] at hn' hs';have nL:∀{b},b=L->g b≠.loc->False:=λ{b} q z=>z (q▸hL);have I':Inv Φ J g h':=I.tr (·=L) (λf f=>⟨rfl,rfl,Pl,rfl⟩) (λb o q e=>(hs'.2 b q).trans e) (λb d q e=>(nL q (by rw[e];exact nofun)).elim) (λb o q e=>(nL q (by rw[(I.1 b o e).2];exact nofun)).elim) (λb f e=>I.2 b e)
   (λb c q e=>(nL q (by rw[(I.3 b c e).1];exact nofun)).elim) λb q f=>by refine ae hn' λo z1=>?_;refine ae z1 λf z2=>?_;refine ae z2 λf z3=>?_;obtain⟨z,_⟩:=z3;exact⟨o,q▸z⟩
  exact h _ ⟨g,_,I',hL,hn',hm.set h0,ho,hg,hos⟩ λa ha=>hs'.2 a (ho a ha).2
end
namespace Cn
variable{X:CX}{W:Cn X}{own:List Mk}
@[reducible]def Sp(W:Cn X)(own:List Mk)(J:Sg)(ρ:Loc)(s:Ml):Prop:=Internal.Sp W.Z W.Φ own J W.L ρ s
noncomputable abbrev held(W:Cn X)(S:W.Sp own J ρ s):Cn X:={W with Φ:=Internal.WT W.Φ own s.heap,hb:=S.base W.hb,hr:=W.hr.held S (.inl rfl)}
theorem Zk(hn:∀a∈own,¬W.Φ.fr a){s':Ml}(S:W.Sp own J ρ s)(x:(W.held S).St J' ρ' s'):W.Sp own J' ρ' s'/\∀a∈own,s'.heap.get? a=s.heap.get? a:=by cases S.free x with|mk a b c=>exact⟨a,λy q=>b y q (hn y q)⟩
theorem aa7{k c:T}{st:List Md}(hn:∀a∈own,¬W.Φ.fr a)(h:aP X e k c)(S:W.Sp own J ρ s)(x:W.ex c st ρ J Q)(q:∀v J' s',W.Sp own J' ρ s'->(∀a∈own,s'.heap.get? a=s.heap.get? a)->W.ex k (er v::st) ρ J' Q->Q' v s'):W.wp (NV e W.env) Q' s:=
 step (W:=W.held S) (h (W.held S) _ _ _ _ _ S.WT x) λv J' s' x' e'=>q v J' s' (Zk hn S x').1 (Zk hn S x').2 e'
end Cn
namespace Cn
variable{X:CX}(W:Cn X)
inductive PA(k:T)(st:List Md)(Q:Out->Sg->Prop)(s:Ml):Prop
 |mk(ρ:Loc)(J:Sg):W.St J ρ s->W.ex k st ρ J Q->PA k st Q s
inductive PN(own:List Mk)(h₀:Ox)(J:Sg)(k:T)(st:List Md)(Q:Out->Sg->Prop)(s:Ml):Prop
 |mk (ρ:Loc):W.Sp own J ρ s->(∀a∈own,s.heap.get? a=h₀.get? a)->W.ex k st ρ J Q->PN own h₀ J k st Q s
end Cn
def uP(X:CX)(t:MX)(k c:T):Prop:=(∀env,SK [t] env=[(Mg,Rb t env)])/\∀(W:Cn X)(ρ:Loc)(J:Sg)(s:Ml)(st:List Md)(Q:Out->Sg->Prop)(v:Md),W.St J ρ s->W.ex c (er v::st) ρ J Q->W.wp (Rb t W.env v) (λa=>W.PA k st Q) s
def rj(X:CX)(es:List MX)(k c:T):Prop:=(∀env,(SK es env).findIdx? (·.1)=Mq/\(SK es env).length=es.length)/\∀(W:Cn X)(own:List Mk)(ρ:Loc)(J:Sg)(s:Ml)(st:List Md)(Q:Out->Sg->Prop)(vs:List Md),vs.length=es.length->
 W.Sp own J ρ s->W.ex c (vs.map er++st) ρ J Q->W.wp (Rv ((SK es W.env).map (·.2)) vs) (λa=>W.PN own s.heap J k st Q) s
def iH(X:CX)(t:ON)(k c:T):Prop:=∀(W:Cn X)(ρ:Loc)(J:Sg)(s:Ml)(Q:Out->Sg->Prop),W.St J ρ s->W.ex c [] ρ J Q->W.wp (PZ t W.env) (jT W.Z W.Φ W.L Q λρ' J'=>W.ex k [] ρ' J' Q) s
def co(X:CX)(ts:List ON)(k c:T):Prop:=∀(W:Cn X)(ρ:Loc)(J:Sg)(s:Ml)(Q:Out->Sg->Prop),W.St J ρ s->W.ex c [] ρ J Q->W.wp (Qb ts W.env) (jT W.Z W.Φ W.L Q λρ' J'=>W.ex k [] ρ' J' Q) s
noncomputable def Xr(X:CX):Env:={scope:=X.scope,locals:=0,globals:=0,cells:=[]}
theorem mN(t v:MX)(l:Nat)(env:VC):OZ [t] v l env=OZ [t] v l {scope:=env.scope,locals:=0,globals:=0,cells:=[]}:=rfl
theorem mi(ts:List MX)(v:MX)(env:VC):O0 ts v env=O0 ts v {scope:=env.scope,locals:=0,globals:=0,cells:=[]}:=rfl
theorem pi{a b:Nat}(u v:Md)(h:a≠b)(c:Nat):gf (sf (sf ρ b v) a u) c=gf (sf (sf ρ a u) b v) c:=by
 rw[jC,jC,jC,jC];by_cases q:c=a;·rw[if_pos q,if_neg (λz=>h (q.symm.trans z)),if_pos q]
 ·rw[if_neg q,if_neg q]
theorem rG(h:∀c,gf ρ c=gf ρ' c)(a:Nat)(u:Md)(c:Nat):gf (sf ρ a u) c=gf (sf ρ' a u) c:=by rw[jC,jC,h]
variable{z y:Nn}{t:MX}{p3:Qv}
namespace Wc
section
variable{X:CX}{k c c1 c2:T}
theorem DB(h:X.scope.names.lookup y=Mc .local)(h0:enc y≠0):uP X (.Name y p) k (.st (enc y) k):=⟨λa=>rfl,λW a J a a a a x e=>
 Yq (of (gF W.hE h h0 x.sp λa S a=>⟨_,J,S.st,e⟩))⟩
theorem Gx{a:Nn}(h0:enc a≠0)(h:aP X o (.XF (enc a) k) c):uP X (.Attribute o a p) k c:=⟨λb=>rfl,λW ρ b b b b v x e=>by rw[arm_assign_Attribute];exact Wh (Wn (Cn.step (h W _ _ _ _ _ x e) λb b b x e=>Wh (Wo (Wh (Wn (Cn.Z4 (of (tM W.B W.hb x h0 e)) λb J b x e=>of (Tp ⟨ρ,J,x,e⟩)))))))⟩
theorem GZ{i:MX}(h1:aP X i (.XD k) c1)(h2:aP X o c1 c):uP X (.Subscript o i p) k c:=⟨λa=>rfl,λW ρ a a a a v x e=>by
 rw[arm_assign_Subscript];exact Wh (Wn (Cn.step (h2 W _ _ _ _ _ x e) λa a a x e=>Wh (Wn (Cn.step (h1 W _ _ _ _ _ x e) λa a a x e=>
  Wh (Wo (Wh (Wn (Cn.Z4 (yT W.B W.hb W.hr x e) λa J a x e=>of (Tp ⟨ρ,J,x,e⟩)))))))))⟩
theorem Gp:rj X [] k k:=⟨λa=>⟨rfl,rfl⟩,λW a ρ a a a a vs l S e=>by rw[PB l] at e ⊢;exact wpAny_pure ⟨ρ,S,λa a=>rfl,e⟩⟩
theorem GR(h:X.scope.names.lookup y=Mc .local)(h0:enc y≠0)(H:rj X es k c):rj X (.Name y p::es) k (.st (enc y) c):=
 ⟨λenv=>⟨by
   show((Mg,Rb (.Name y p) env)::SK es env).findIdx? (·.1)=Mq
   rw[List.findIdx?_cons,(H.1 env).1];rfl,congrArg (·+1) (H.1 env).2⟩,λW own ρ J s st Q vs l S e=>by
  induction vs with
  |nil=>cases l
  |cons v vs=>show W.wp (do Pm vs (Rb (.Name y p) W.env v);Rv ((SK es W.env).map (·.2)) vs) _ _;exact Wh (Wn (Yq (of (gF W.hE h h0 S λs₁ S₁ k₁=>Wm (H.2 W own _ J s₁ st Q vs (Sf l) S₁ e) (λb s' h'=>by induction h' with|mk ρ' S' k' e'=>exact⟨ρ',S',λa ha=>(k' a ha).trans (k₁ a ha),e'⟩) λb b z=>z))))⟩
theorem Sp.Xm{W:Cn X}{own:List Mk}(x:W.Sp own J ρ s)(he:Heap.ExtBut s.heap.objs.size s.heap h'):W.Sp own J ρ {s with heap:=h'}/\∀a∈own,h'.get? a=s.heap.get? a:=by have k:∀b o,s.heap.get? b=Mc o->h'.get? b=Mc o:=λb o q=>he b o (Nd (Nz q)) q;exact⟨x.ext (t:=s.toks) (λb o c=>k b o) λa ha=>(x.X3 ha).1.elim λo q=>⟨o,k _ _ q⟩,λa ha=>(x.X3 ha).1.elim λo q=>(k _ _ q).trans q.symm⟩
theorem xL{W:Cn X}{st:List Md}{m:Nat}{Q':List Md->Ml->Prop}(x:W.St J ρ s)(e:W.ex (.unp m k) (er v::st) ρ J Q)(q:∀vs s',vs.length=m->W.Sp [] J ρ s'->W.ex k (vs.map er++st) ρ J Q->Q' vs s'):W.wp (unpackItems v m Mq) Q' s:=by refine ae (fZ.inv e) λa z5=>?_;rw[z5.1];refine ae z5.2 λxs z6=>?_;obtain rfl:=z6.2.1;obtain⟨ys,n,z1,z2,l⟩:=bE x z6.1;rw[<-l];exact of (unpackItems_tuple W.hr.2.2.1 ⟨_,z1,rfl,n,rfl⟩ λh' he=>q _ _ (by rw[NB,l]) (Sp.Xm x.sp he).1 (by rw[z2];exact z6.2.2))
theorem GC(H:rj X es k c):uP X (.Tuple es kd p) k (.unp es.length c):=⟨λa=>rfl,λW ρ J s st Q v x e=>by rw[arm_assign_Tuple];refine Wh (Wo ?_);unfold unpack;rw[(H.1 W.env).1,(H.1 W.env).2];exact Wh (Wn (xL x e λvs s' l S e=>Wm (H.2 W [] ρ J s' st Q vs l S e) (λa a h'=>by induction h' with|mk ρ' S' _ e'=>exact⟨ρ',J,S'.st,e'⟩) λa a z=>z))⟩
theorem DW{v:MX}(hs:OZ [t] v pos.line (Xr X)=NN Mg)(hw:O0 [t] v (Xr X)=NN Mq)(h1:uP X t k c1)(h2:aP X v c1 c):iH X (.Assign [t] v pos) k c:=λW ρ J s Q x e=>by
 have hsc:({scope:=W.env.scope,locals:=0,globals:=0,cells:=[]}:VC)=Xr X:=by rw[W.hE.1];rfl
 rw[exec_Assign,mN,hsc,hs];refine Wh (Wo (Wh (wpAny_pure ?_)));rw[if_neg (by decide)];refine Wh (Cn.step (h2 W _ _ _ [] _ x e) λu a a x e=>?_);rw[mi,hsc,hw];refine Wh (wpAny_pure ?_);rw[h1.1];show W.wp (do assignAll u [Rb t W.env];NN Flow.next:RV T7) _ _;exact Wh (Wm (h1.2 W _ _ _ _ _ u x e) (λa a z=>wpAny_pure (by induction z with|mk ρ J x e=>exact⟨J,ρ,x,e⟩)) λa a z=>z)
theorem wS{v:MX}(hs:OZ [.Tuple es kd p] v pos.line (Xr X)=NN Mg)(hw:O0 [.Tuple es kd p] v (Xr X)=NN (Mc ns))(hl:ns.length=es.length)(h1:aP X v (.unp es.length c1) c)(H:∀(W:Cn X)(ρ:Loc)(J:Sg)(s:Ml)(Q:Out->Sg->Prop)(vs:List Md),vs.length=ns.length->W.Sp [] J ρ s->W.ex c1 (vs.map er) ρ J Q->W.wp (Rv (ns.reverse.map λn=>Uu W.env n) vs.reverse) (λa=>W.PA k [] Q) s):iH X (.Assign [.Tuple es kd p] v pos) k c:=λW ρ J s Q x e=>by
 have hsc:({scope:=W.env.scope,locals:=0,globals:=0,cells:=[]}:VC)=Xr X:=by rw[W.hE.1];rfl
 refine YH (names:=ns) (Cn.step (h1 W _ _ _ [] _ x e) λu a a x e=>?_) (by rw[mN,hsc,hs]) (by rw[mi,hsc,hw]);rw[hl];exact xL x e λvs s' l S e=>Wm (H W ρ _ s' Q vs (l.trans hl.symm) S (by rw[NF] at e;exact e)) (λa a z=>by induction z with|mk ρ J x e=>exact⟨J,ρ,x,e⟩) λa a z=>z
theorem Zf{W:Cn X}{Q':Unit->Ml->Prop}(S:W.Sp [] J ρ s)(h:X.scope.names.lookup y=Mc .local)(h0:enc y≠0)(q:∀s',W.Sp [] J (sf ρ (enc y) (er v)) s'->Q' () s'):W.wp (Uu W.env y v) Q' s:=
 XQ (of (gF W.hE h h0 S λs' S' a=>q s' S'))
theorem Fe{v:MX}{p1 p2:Qv}(ht:t=.Tuple [.Name y p1,.Name z p2] kd p)(hs:OZ [t] v pos.line (Xr X)=NN Mg)(hw:O0 [t] v (Xr X)=NN (Mc ns))(hns:ns=[y,z])(hy:X.scope.names.lookup y=Mc .local)(hz:X.scope.names.lookup z=Mc .local)(h0:enc y≠0)(h0':enc z≠0)(hn:enc y≠enc z)(h1:aP X v (.unp 2 (.st (enc y) (.st (enc z) k))) c):iH X (.Assign [t] v pos) k c:=by subst ht hns;exact wS hs hw rfl h1 λW ρ J s Q vs l S e=>by refine bI (dM l) λu w z4=>?_;obtain rfl:=z4;exact Wh (Wn (Zf S hz h0' λa S=>Wh (Wn (Zf S hy h0 λa S=>wpAny_pure ⟨_,J,S.st.gf (pi _ _ hn),e⟩))))
theorem D7{v:MX}{w:Nn}{p1 p2:Qv}(ht:t=.Tuple [.Name y p1,.Name z p2,.Name w p3] kd p)(hs:OZ [t] v pos.line (Xr X)=NN Mg)(hw:O0 [t] v (Xr X)=NN (Mc ns))(hns:ns=[y,z,w])(hy:X.scope.names.lookup y=Mc .local)(hz:X.scope.names.lookup z=Mc .local)(hw':X.scope.names.lookup w=Mc .local)(h0:enc y≠0/\enc z≠0/\enc w≠0)(hn:enc y≠enc z/\enc y≠enc w/\enc z≠enc w)(h1:aP X v (.unp 3 (.st (enc y) (.st (enc z) (.st (enc w) k)))) c):iH X (.Assign [t] v pos) k c:=by
 subst ht hns;exact wS hs hw rfl h1 λW ρ J s Q vs l S e=>by
  cases vs with
  |nil=>cases l
  |cons a vs=>
   refine bI (dM (Sf l)) λb d z3=>?_;obtain rfl:=z3;exact Wh (Wn (Zf S hw' h0.2.2 λb S=>Wh (Wn (Zf S hz h0.2.1 λb S=>Wh (Wn (Zf S hy h0.1 λb S=>wpAny_pure
    ⟨_,J,S.st.gf λj=>((rG (pi _ _ hn.2.2) _ _ j).trans (pi _ _ hn.2.1 j)).trans (rG (pi _ _ hn.1) _ _ j),e⟩))))))
end
end Wc
namespace Cn
inductive TN{X:CX}(W:Cn X)(own:List Mk)(Lz:Ox->Prop)(kb:T)(Q:Out->Sg->Prop)(s:Ml):Prop
 |mk(ρ:Loc)(J:Sg):W.Sp own J ρ s->Lz s.heap->W.ex kb [] ρ J Q->TN W own Lz kb Q s
end Cn
variable{b:Int}{o:P8}{f:Nat}{body:List ON}{target:MX}{it:Mk}{nx:Nx}{Lz:Nat->Ox->Prop}
namespace Wc
theorem iE{i:MX}(h:YD i=Mg)(x:Md):QU i env x=NN x:=by cases i<;>first|rfl|cases h
set_option backward.match.sparseCases true in theorem ZY{U:String}{Q':Unit->Ml->Prop}(ho:s.heap.get? it=Mc o)(hc:o.cls=.type U)(hT:["enumerate", "zip", "dict_itemiterator", "dict_reverseitemiterator", "odict_iterator", "itertools.zip_longest", "itertools.pairwise"].contains U=Mg)(h:Q' () s):Wi (Mj prog w) A (OQ target (.ref it) v) Q' E s:=by
 have main:∀a:Mk,Wi (Mj prog w) A (do
   let o <-load it
   match o.cls,o.data with
   |.type n,.fields vs=>
    if["enumerate", "zip", "dict_itemiterator", "dict_reverseitemiterator", "odict_iterator", "itertools.zip_longest", "itertools.pairwise"].contains n&&vs[0]?==Mc (Wb a) then
     rule "for.unpacks-the-owned-tuple"
     updateField it 0 .none
   |_,_=>NN ()) Q' E s:=λa=>by
  refine Wh (of (QF ho ?_))
  rw[hc]
  induction o.data with
  |fields vs=>show Wi _ _ (if(_&&_)=Mh then _ else _) _ _ _;rw[hT,Bool.false_and,if_neg (by decide)];exact wpAny_pure h
  |_=>exact wpAny_pure h
 cases target<;>first|exact wpAny_pure h|(cases v<;>first|exact wpAny_pure h|exact main _)
theorem yg(a b:Int):Nc a b 1=((b-a).toNat:Int):=by
 unfold Nc;simp only[show(1:Int)>0 by decide,if_true,OY];by_cases h:a<b;·rw[if_pos h,Vf,ME (OM (Nl h))]
 ·rw[if_neg h,UZ (UH (Q6.mp h))];rfl
theorem pQ(a b:Int):Nc a b (-1)=((a-b).toNat:Int):=by
 unfold Nc;simp only[show ¬((-1:Int)>0) by decide,if_false,Int.neg_neg,OY];by_cases h:b<a;·rw[if_pos h,Vf,ME (OM (Nl h))]
 ·rw[if_neg h,UZ (UH (Q6.mp h))];rfl
theorem oo{a c:Int}(hc:c=1∨c=-1)(h1:-1000000<=a)(h2:a<=1000000)(h3:-1000000<=b)(h4:b<=1000000):U0 a b c=true:=by
 have hz:0<=Nc a b c/\Nc a b c<=2000000:=by
  rcases hc with rfl|rfl;·rw[yg];exact⟨Ms _,nA (b:=2000000) (Int.toNat_le.mpr (ao Lo [_,_] [] h4 h1))⟩
  ·rw[pQ];exact⟨Ms _,nA (b:=2000000) (Int.toNat_le.mpr (ao Lo [_,_] [] h2 h3))⟩
 unfold U0;simp only[Builtin.Range.rangeFitsLong,Oe,Bool.or_eq_true,decide_eq_true_eq,beq_iff_eq];rcases hc with rfl|rfl
 ·refine⟨⟨⟨⟨(An.and (aS Ky [_,_] [] h1 h2 ej)),(An.and (aS Ky [_,_] [] h3 h4 ej))⟩,⟨by decide,by decide⟩⟩,(An.and (ao KV [_,_] [] hz ej))⟩,.inr ?_⟩;simp only[show(1:Int)>0 by decide,if_true,decide_eq_true_eq,Oe];exact(An.and (aS 0x847084007a11c20001e800000000000000010526fa1200910124fa1200cd027c4096446f18812c88f8415f5c [_,_] [] h3 h4 ej))
 ·refine⟨⟨⟨⟨(An.and (aS Ky [_,_] [] h1 h2 ej)),(An.and (aS Ky [_,_] [] h3 h4 ej))⟩,⟨by decide,by decide⟩⟩,(An.and (ao KV [_,_] [] hz ej))⟩,.inr ?_⟩;simp only[show ¬((-1:Int)>0) by decide,if_false,decide_eq_true_eq,Oe];exact(An.and (aS 0x211c21001e847080007a00000000000000004149be84802440493e848033409f1187722384c461dc88f8417762 [_,_] [] h3 h4 ej))
section
variable{X:CX}{W:Cn X}{k kb kb':T}{own:List Mk}
noncomputable abbrev LR(W:Cn X)(k:T)(Q:Out->Sg->Prop)(r:Ph)(s':Ml):Prop:=match r with
 |.ok f=>jT W.Z W.Φ W.L Q (λρ' J'=>W.ex k [] ρ' J' Q) f s'
 |.error _=>False
noncomputable abbrev LG(W:Cn X)(nx:Nx)(kb' k:T)(Q:Out->Sg->Prop):Nat->Nat->Loc->Sg->Prop:=
 rU nx (λvs ρ J Q'=>W.ex kb' vs ρ J Q') (λρ' J'=>W.ex k [] ρ' J' Q) (λv J'=>Q (.ret v) J')
inductive Di(W:Cn X)(own:List Mk)(it:Md)(target:MX)(nx:Nx)(kb' kb:T)(Lz:Nat->Ox->Prop)(i:Nat)(ρ:Loc)(J:Sg)(s:Ml):Prop
 |Yp:nx i J=Mc Mq->W.wp (QC it) (λr s'=>r=Mq/\W.St J ρ s') s->Di W own it target nx kb' kb Lz i ρ J s
 |Ym (vs:List Md):nx i J=Mc (Mc vs)->(∀Q,W.ex kb' vs ρ J Q->W.wp (QC it) (λr s₁=>∃v,r=Mc v/\W.wp (OQ target it v) (λa=>W.wp (Rb target W.env v) λa=>W.TN own (Lz (i+1)) kb Q) s₁) s)->Di W own it target nx kb' kb Lz i ρ J s
 |odd:nx i J=Mq->Di W own it target nx kb' kb Lz i ρ J s
inductive LI(W:Cn X)(own:List Mk)(Lz:Nat->Ox->Prop)(nx:Nx)(kb' k:T)(Q:Out->Sg->Prop)(f:Nat)(s:Ml):Prop
 |mk(i:Nat)(ρ:Loc)(J:Sg):W.Sp own J ρ s->Lz i s.heap->LG W nx kb' k Q f i ρ J->LI W own Lz nx kb' k Q f s
theorem Ar(hn:∀a∈own,¬W.Φ.fr a)(hJ:∀i h h',(∀a∈own,h'.get? a=h.get? a)->Lz i h->Lz i h')(hb:co X body .Wy kb){s₃:Ml}(h:W.TN own (Lz (i+1)) kb (tf (LG W nx kb' k Q f (i+1)) (λρ' J'=>W.ex k [] ρ' J' Q) λv J'=>Q (.ret v) J') s₃):W.wp (Qb body W.env) (BQ (LI W own Lz nx kb' k Q) (LR W k Q) (f+1)) s₃:=by
 induction h with
 |mk ρ' J' S₃ j₃ e₃=>
  refine Wm (hb (W.held S₃) ρ' J' s₃ _ S₃.WT e₃) (λf' s₄ h₄=>?_) λb b z=>z;refine bI h₄ λJ₄ ρ₄ z3=>?_;have q:=z3.2;have y:=Cn.Zk hn S₃ z3.1;induction f' with
  |next=>exact⟨f,M9 _,i+1,ρ₄,J₄,y.1,hJ _ _ _ y.2 j₃,q⟩
  |cont=>exact⟨f,M9 _,i+1,ρ₄,J₄,y.1,hJ _ _ _ y.2 j₃,q⟩
  |brk=>exact⟨J₄,ρ₄,y.1.st,q⟩
  |ret v=>exact⟨J₄,ρ₄,y.1.st,q⟩
theorem Ah{it:Md}(hn:∀a∈own,¬W.Φ.fr a)(hJ:∀i h h',(∀a∈own,h'.get? a=h.get? a)->Lz i h->Lz i h')(hb:co X body .Wy kb)(h:LG W nx kb' k Q (f+1) i ρ J)(z:Di W own it target nx kb' kb Lz i ρ J s):W.wp (QC it) (FQ (Mj W.Z.prog W.Z.w) W.A W.env target it body [] (LI W own Lz nx kb' k Q) (LR W k Q) (f+1)) s:=by
 induction z with
 |Yp e q=>
  have d:W.ex k [] ρ J Q:=h.elim (·.2) λ⟨vs,z,_⟩=>by rw[e] at z;cases z
  exact Wm q (λr s₁ hr=>by rw[hr.1];exact of (Qg ⟨J,ρ,hr.2,d⟩)) λb b z=>z
 |odd e=>
  rcases h with h|⟨vs,z,_⟩;·rw[e] at h;cases h.1
  ·rw[e] at z;cases z
 |Ym vs e q=>
  have d:W.ex kb' vs ρ J (tf (LG W nx kb' k Q f (i+1)) (λρ' J'=>W.ex k [] ρ' J' Q) λv J'=>Q (.ret v) J'):=h.elim (λz=>by rw[e] at z;cases z.1) λ⟨us,z,t⟩=>by rw[e] at z;cases z;exact t
  refine Wm (q _ d) (λr s₁ hr=>?_) λb b z=>z;refine ae hr λv z2=>?_;rw[z2.1];exact Wm z2.2 (λb s₂ h₂=>Wm h₂ (λb s₃ h₃=>Ar hn hJ hb h₃) λb b z=>z) λb b z=>z
theorem E9{it:Md}(hn:∀a∈own,¬W.Φ.fr a)(Lz:Nat->Ox->Prop)(hJ:∀i h h',(∀a∈own,h'.get? a=h.get? a)->Lz i h->Lz i h')(hb:co X body .Wy kb)(next:∀i ρ J s,W.Sp own J ρ s->Lz i s.heap->Di W own it target nx kb' kb Lz i ρ J s)(S:W.Sp own J ρ s)(j:Lz i s.heap)(h:LG W nx kb' k Q f i ρ J):Wv (Mj W.Z.prog W.Z.w) W.A (.forLoop target it body [] W.env) (LR W k Q) s:=
 YK (LI W own Lz nx kb' k Q) (λf s hI=>by
  induction hI with
  |mk i ρ J S j h=>
   induction f with
   |zero=>exact h.elim
   |succ f=>exact Ah hn hJ hb h (next i ρ J s S j)) f ⟨i,ρ,J,S,j,h⟩
theorem GW{kt:T}{Lz:Ox->Prop}(hn:∀a∈own,¬W.Φ.fr a)(hA:uP X t k kt)(S:W.Sp own J ρ s)(hJ:∀h',(∀a∈own,h'.get? a=s.heap.get? a)->Lz h')(e:W.ex kt [er v] ρ J Q):W.wp (Rb t W.env v) (λb=>W.TN own Lz k Q) s:=
 Wm (hA.2 (W.held S) _ _ _ _ _ v S.WT e) (λb s' h'=>by induction h' with|mk ρ' J' x' e'=>exact⟨ρ',J',(Cn.Zk hn S x').1,hJ _ (Cn.Zk hn S x').2,e'⟩) λb b z=>z
inductive Got(it:Mk)(Lz:Nat->Ox->Prop)(i:Nat)(u:Md)(s:Ml)(r:Option Md)(s':Ml):Prop
 |mk (v:Md) (h':Ox) (t:Nat):r=Mc v->er v=u->s'={s with heap:=h',toks:=t}->Lz (i+1) h'->NC it s.heap h'->Got it Lz i u s r s'
inductive yG(it:Mk)(s:Ml)(r:Option Md)(s':Ml):Prop
 |mk (h':Ox):r=Mq->s'={s with heap:=h'}->Heap.ExtBut it s.heap h'->yG it s r s'
inductive yu(W:Cn X)(it:Mk)(nx:Nx)(Lz:Nat->Ox->Prop)(i:Nat)(J:Sg)(s:Ml):Prop
 |Yp:nx i J=Mc Mq->W.wp (QC (.ref it)) (yG it s) s->yu W it nx Lz i J s
 |Ym (u:Md):nx i J=Mc (Mc [u])->W.wp (QC (.ref it)) (Got it Lz i u s) s->yu W it nx Lz i J s
 |odd:nx i J=Mq->yu W it nx Lz i J s
theorem zx{U:String}(hU:["enumerate", "zip", "dict_itemiterator", "dict_reverseitemiterator", "odict_iterator", "itertools.zip_longest", "itertools.pairwise"].contains U=Mg)(hA:uP X target kb kb')(hb:co X body .Wy kb)(Lz:Nat->Ox->Prop)(hJ:∀i h h',h'.get? it=h.get? it->Lz i h->Lz i h')(hC:∀i h,Lz i h->∃o:P8,h.get? it=Mc o/\o.cls=.type U)(next:∀i ρ J s,W.Sp [it] J ρ s->Lz i s.heap->yu W it nx Lz i J s)(x:W.St J ρ s)(hit:it=s.heap.objs.size)(ho:o.isFreed=Mg){t:Nat}(j:Lz 0 (s.heap.push o))(h:LG W nx kb' k Q f 0 ρ J):Wv (Mj W.Z.prog W.Z.w) W.A (.forLoop target (.ref it) body [] W.env) (LR W k Q) {s with heap:=s.heap.push o,toks:=t}:=by
 subst hit;refine E9 x.ZN Lz (λi h h' e=>hJ i h h' (e _ (MM.mpr rfl))) hb (λi ρ J s' S j=>?_) (x.abb ho) j h;have zqi:_:=next i ρ J s' S j
 induction zqi with
 |Yp e q=>exact .Yp e (Wm q (λr s₁ hq=>by induction hq with|mk h' hr e he=>exact⟨hr,by rw[e];exact S.Ws (t:=s'.toks) x.ZN λb o hb=>he b o λz=>hb (MM.mpr z)⟩) λa a z=>z)
 |odd e=>exact .odd e
 |Ym u e q=>
  refine .Ym _ e λQ e=>Wm q (λr s₁ hq=>?_) λa a z=>z;induction hq with
  |mk v h' t hr hu e1 j' hs=>subst e1 hu;refine ae (hC _ _ j') λoi z1=>?_;exact⟨v,hr,ZY z1.1 z1.2 hU (GW x.ZN hA (S.but (MM.mpr rfl) hs ⟨oi,z1.1⟩) (λh'' hh=>hJ _ _ _ (hh _ (MM.mpr rfl)) j') e)⟩
end
end Wc
variable{v:MX}{r:Mk}{N:Nat}{down:Bool}
namespace Wc
section
variable{X:CX}{W:Cn X}{k kb kb' c c1 c2:T}
theorem rH(a b:Int)(down:Bool)(i:Nat):(cS (if down then eZ a b else aQ a b))[i]?=if i<(Nc a b (if down then -1 else 1)).toNat then Mc (.int (a+i*(if down then -1 else 1)) 0) else none:=by
 have e:∀(m:Nat)(f:Nat->Int),(cS ((Oh m).map f))[i]?=if i<m then Mc (.int (f i) 0) else none:=λm f=>by
  unfold cS;rw[OX,ML];by_cases q:i<m;·rw[Nu q,if_pos q];rfl
  ·rw[MZ (by rw[NJ];exact PF.mp q),if_neg q];rfl
 induction down with
 |true=>exact(e _ _).trans (by rw[if_pos rfl,pQ,MN,Int.mul_neg,RA];rfl)
 |false=>exact(e _ _).trans (by rw[if_neg O2,yg,MN,RA])
theorem mz{c a:Int}(hc:c=1∨c=-1):0<=Nc a b c:=by
 rcases hc with rfl|rfl;·rw[yg];exact Ms _
 ·rw[pQ];exact Ms _
abbrev RJ(it:Mk)(a c:Int)(N:Nat)(i:Nat)(h:Ox):Prop:=i<=N/\IsRangeIter h it (a+i*c) ((N-i:Nat):Int) c
theorem mV{a c:Int}(hn:nx i J=Mc ((if i<N then Mc (.int (a+i*c) 0) else Mq).map λv=>[v]))(h:RJ it a c N i s.heap):yu W it nx (RJ it a c N) i J s:=by
 by_cases q:i<N
 ·refine .Ym (.int (a+i*c) 0) (by rw[hn,if_pos q];rfl) (of (wpAny_pyNext_range_item h.2 (ao 0x845080007a5504cfa3b2a12095c090f [] [_,_,_] q (Me (af Kw [] [_,_] q))) λh' hi' hs'=>⟨_,h',_,rfl,rfl,rfl,⟨q,?_⟩,hs'⟩));have e1:((N-(i+1):Nat):Int)=((N-i:Nat):Int)-1:=ao 0x108a10800f423840003da9508d2a41a890ae09bb4ae2b8f6e2a22 [] [_,_,_,_] (Me (af KA [] [_,_] q)) (Me (af Kw [] [_,_] q));have e2:a+((i+1:Nat):Int)*c=a+i*c+c:=by rw[Ui,SY,<-Tn];exact congrArg _ (Py c)
  rw[e1,e2];exact hi'
 ·exact .Yp (by rw[hn,if_neg q];rfl) (of (wpAny_pyNext_range_end W.hr.2.2.1 h.2 (af 0x84000270542ee280e [] [_] (Ul (af 0x840002750930954130f [] [_,_] q))) λh' he=>⟨h',rfl,rfl,he⟩))
theorem kA{a c:Int}(hz:0<=Nc a b c):RJ s.heap.objs.size a c (Nc a b c).toNat 0 (s.heap.push {cls:=.type "range_iterator",data:=.fields #[Wb a,Wb (Nc a b c),Wb c]}):=by refine⟨Nb _,?_⟩;rw[Vt,ME hz,show a+((0:Nat):Int)*c=a by rw[Int.natCast_zero,Vk,PE]];exact MR _ rfl
theorem uf(hy:X.scope.names.lookup y=Mc .local)(h0:enc y≠0)(hb:co X body .Wy kb){a:Int}{t u v:Ue}(x:W.St J ρ s)(hr:IsRange s.heap r a b (if down then -1 else 1) t u v)(h1:-1000000<=a)(h2:a<=1000000)(h3:-1000000<=b)(h4:b<=1000000)(h:LG W (AM (cS (if down then eZ a b else aQ a b))) (.st (enc y) kb) k Q f 0 ρ J):W.wp (Tq (.ref r)) (λit=>Wv (Mj W.Z.prog W.Z.w) W.A (.forLoop (.Name y p) it body [] W.env) (LR W k Q)) s:=by
 have hc:(if down then(-1:Int) else 1)=1∨(if down then(-1:Int) else 1)=-1:=by
  cases down;·exact .inl rfl
  ·exact .inr rfl
 exact of (wpAny_pyIter_range hr (oo hc h1 h2 h3 h4) (zx (U:="range_iterator") (t:=s.toks) (by decide) (DB hy h0) hb (RJ _ a _ _) (λi h h' e z=>⟨z.1,e.trans z.2⟩) (λi h z=>⟨_,z.2,rfl⟩)
  (λi ρ J s' S z=>mV (by rw[<-rH];rfl) z) x rfl rfl (kA (mz hc)) h))
theorem CU{sel:Cell->Option (List Md)}{cl:Cell}(h:J a=Mc cl)(hs:sel cl=Mc xs)(z:ys.toList.map er=xs)(i:Nat):rR sel a i J=Mc ((ys[i]?).map λv=>[er v]):=by unfold rR;rw[h,NH,hs,<-z,Pb,ML,Ol];cases ys[i]?<;>rfl
theorem mD{sel:Cell->Option (List Md)}{U:String}(hx:∀xs,(J a).bind sel=Mc xs->nE s.heap U a xs)(hend:∀ys n,s.heap.get? a=Mc (⟨.type U,Mq,.seq ys n,#[]⟩:P8)->ys[i]?=Mq->W.wp (QC (.ref it)) (yG it s) s)(hitem:∀ys n v,s.heap.get? a=Mc (⟨.type U,Mq,.seq ys n,#[]⟩:P8)->ys[i]?=Mc v->W.wp (QC (.ref it)) (Got it Lz i (er v) s) s):yu W it (rR sel a) Lz i J s:=by
 cases hc:(J a).bind sel with
 |none=>exact .odd (by unfold rR;rw[hc];rfl)
 |some xs=>
  obtain⟨ys,n,z1,z2,_⟩:=hx xs hc;refine ae (My.mp hc) λcl z16=>?_;obtain⟨h1,h2⟩:=z16;have e:=CU h1 h2 z2 i;cases hq:ys[i]? with
  |none=>rw[hq] at e;exact .Yp e (hend ys n z1 hq)
  |some v=>rw[hq] at e;exact .Ym _ e (hitem ys n v z1 hq)
theorem uU{own:List Mk}(S:W.Sp own J ρ s)(j:s.heap.IsListIter it a i):yu W it (rR WX a) (λi h=>h.IsListIter it a i) i J s:=
 mD (λxs e=>aw S.st (jH e)) (λys n z1 q=>of (Q4 W.hr.2.2.1 j ⟨_,z1,rfl,n,rfl⟩ q λh' he=>⟨h',rfl,rfl,he⟩))
  λys n v z1 q=>of (QY j ⟨_,z1,rfl,n,rfl⟩ q λh' j' hs=>⟨v,h',s.toks,rfl,rfl,rfl,j',hs⟩)
theorem wA(hA:uP X target kb kb')(hb:co X body .Wy kb)(x:W.St J ρ s)(ha:J a=Mc (.list xs))(h:LG W (rR WX a) kb' k Q f 0 ρ J):W.wp (Tq (.ref a)) (λit=>Wv (Mj W.Z.prog W.Z.w) W.A (.forLoop target it body [] W.env) (LR W k Q)) s:=by obtain⟨ys,n,z1,z2,_⟩:=aw x ha;exact of (P5 ⟨_,z1,rfl,n,rfl⟩ (zx (U:="list_iterator") (t:=s.toks) (by decide) hA hb (λi h=>h.IsListIter s.heap.objs.size a i) (λi h h' e ⟨o,q⟩=>⟨o,e.trans q.1,q.2⟩) (λi h ⟨o,q⟩=>⟨o,q.1,q.2.1⟩) (λi ρ J s' S j=>uU S j) x rfl rfl ⟨_,MR _ rfl,rfl,rfl⟩ h))
theorem yB{c:Option Cell}(h:c.bind qZ=Mc xs):c=Mc (.tup xs):=by refine ae (My.mp h) λc z15=>?_;obtain⟨rfl,h⟩:=z15;cases c<;>cases h;rfl
theorem zy(hA:uP X target kb kb')(hb:co X body .Wy kb)(x:W.St J ρ s)(ha:J a=Mc (.tup xs))(h:LG W (rR qZ a) kb' k Q f 0 ρ J):W.wp (Tq (.ref a)) (λit=>Wv (Mj W.Z.prog W.Z.w) W.A (.forLoop target it body [] W.env) (LR W k Q)) s:=by
 obtain⟨ys,n,z1,z2,_⟩:=bE x ha;exact of (wpAny_pyIter_tuple ⟨_,z1,rfl,n,rfl⟩ (zx (U:="tuple_iterator") (t:=s.toks) (by decide) hA hb (λi h=>h.IsTupleIter s.heap.objs.size a i) (λi h h' e ⟨o,q⟩=>⟨o,e.trans q.1,q.2⟩) (λi h ⟨o,q⟩=>⟨o,q.1,q.2.1⟩)
  (λi ρ J s' S j=>mD (λxs e=>bE S.st (yB e)) (λys n z1 q=>of (wpAny_pyNext_tuple_end W.hr.2.2.1 j ⟨_,z1,rfl,n,rfl⟩ q λh' he=>⟨h',rfl,rfl,he⟩))
   λys n v z1 q=>of (wpAny_pyNext_tuple_item j ⟨_,z1,rfl,n,rfl⟩ q λh' j' hs=>⟨v,h',s'.toks,rfl,rfl,rfl,j',hs⟩)) x rfl rfl ⟨_,MR _ rfl,rfl,rfl⟩ h))
theorem xn{c:Option Cell}{m:List (Int×Md)}(h:c.bind YA=Mc m):c=Mc (.W8 m):=by refine ae (My.mp h) λc z14=>?_;obtain⟨rfl,h⟩:=z14;cases c<;>cases h;rfl
theorem uV{own:List Mk}(S:W.Sp own J ρ s)(j:s.heap.IsKeyIter it a i N N):yu W it (Cc a N) (λi h=>h.IsKeyIter it a i N N) i J s:=by
 cases hc:(J a).bind YA with
 |none=>exact .odd (by unfold Cc;rw[hc];rfl)
 |some m=>
  have e:Cc a N i J=if m.length=N then Mc ((m[i]?).map λp=>[.int p.1 0]) else none:=by unfold Cc;rw[hc];rfl
  by_cases hl:m.length=N
  ·rw[if_pos hl] at e;refine ae (dg S.st (xn hc)) λkvs z13=>?_;have hl1:kvs.length=N:=by rw[<-hl,<-z13.2,Mt]
   rw[<-z13.2,ML] at e;subst hl1;cases hq:kvs[i]? with
   |none=>rw[hq] at e;exact .Yp e (of (wpAny_pyNext_dict_end W.hr.2.2.1 j (z13.1.at W.Z.prog W.Z.w) hq λh' he=>⟨h',rfl,rfl,he⟩))
   |some p=>
    rw[hq] at e;refine .Ym (.int p.1 0) e (of (wpAny_pyNext_dict_item j (z13.1.at W.Z.prog W.Z.w) hq λkey h' hkey j' hs=>⟨key,h',s.toks,rfl,?_,rfl,j',hs⟩));induction key with
    |int z t=>rw[(Sd W.Z.prog W.Z.w).inj (.int z t) z p.1 (Sw _ _ z t) hkey];rfl
    |_=>cases hkey
  ·rw[if_neg hl] at e;exact .odd e
theorem x5(hA:uP X target kb kb')(hb:co X body .Wy kb){m:List (Int×Md)}(x:W.St J ρ s)(ha:J a=Mc (.W8 m))(h:LG W (Cc a m.length) kb' k Q f 0 ρ J):W.wp (Tq (.ref a)) (λit=>Wv (Mj W.Z.prog W.Z.w) W.A (.forLoop target it body [] W.env) (LR W k Q)) s:=by
 refine ae (dg x ha) λkvs z12=>?_;have hl0:kvs.length=m.length:=by rw[<-z12.2,Mt]
 refine of (wpAny_pyIter_dict (x.sysm W.B W.hb ha) (z12.1.at W.Z.prog W.Z.w) ?_);rw[hl0];exact zx (U:="dict_keyiterator") (t:=s.toks) (by decide) hA hb (λi h=>h.IsKeyIter s.heap.objs.size a i m.length m.length) (λi h h' e ⟨o,q⟩=>⟨o,e.trans q.1,q.2⟩) (λi h ⟨o,q⟩=>⟨o,q.1,q.2.1⟩) (λi ρ J s' S j=>uV S j) x rfl rfl ⟨_,MR _ rfl,rfl,rfl⟩ h
theorem Az{i:MX}(hs:YD i=Mg)(hA:uP X target kb kb')(hb:co X body .Wy kb)(hi:aP X i (.Wz .seq kb' k) c):iH X (.For target i body [] pos) k c:=λW ρ J s Q x e=>
 XH (Cn.step (hi W _ _ _ [] _ x e) λv J s x e=>by
  refine ga e λst' nx f z11=>?_;obtain rfl:=z11.1.1;refine ae (fZ.inv z11.1.2) λa z10=>?_;rw[z10.1];obtain⟨⟨xs,ha⟩,rfl⟩|⟨⟨xs,ha⟩,rfl⟩:=z10.2
  ·exact wA hA hb x ha z11.2
  ·exact zy hA hb x ha z11.2) (iE hs)
theorem B7{i:MX}(hs:YD i=Mg)(hA:uP X target kb kb')(hb:co X body .Wy kb)(hi:aP X i (.Wz .keys kb' k) c):iH X (.For target i body [] pos) k c:=λW ρ J s Q x e=>
 XH (Cn.step (hi W _ _ _ [] _ x e) λv J s x e=>by refine ga e λst' nx f z9=>?_;obtain rfl:=z9.1.1;refine ae (fZ.inv z9.1.2) λa z7=>?_;rw[z7.1];refine ae z7.2 λm z8=>?_;obtain rfl:=z8.2;exact x5 hA hb x z8.1 z9.2) (iE hs)
inductive FR(W:Cn X)(y:Nn)(p:Qv)(body:List ON)(k:T)(Q:Out->Sg->Prop)(down:Bool)(va vb:Md)(s:Ml):Prop
 |mk (a b:Int) (t u:Ue):va=.int a t->vb=.int b u->(∀(t u v:Ue)(tk:Nat),W.wp (Tq (.ref s.heap.objs.size)) (λit=>Wv (Mj W.Z.prog W.Z.w) W.A (.forLoop (.Name y p) it body [] W.env) (LR W k Q))
   {s with heap:=s.heap.push {cls:=.type "range",data:=.fields #[.int a t,.int b u,.int (if down then -1 else 1) v]},toks:=tk})->FR W y p body k Q down va vb s
theorem oX(p:Qv)(hy:X.scope.names.lookup y=Mc .local)(h0:enc y≠0)(hb:co X body .Wy kb){va vb:Md}(x:W.St J ρ s)(e:W.ex (.Wz (.rng down) (.st (enc y) kb) k) [er vb,er va] ρ J Q):FR W y p body k Q down va vb s:=by refine ga e λst' nx f z6=>?_;obtain rfl:=z6.1.1;refine vx (ints.inv z6.1.2) λa t b u z5=>?_;obtain rfl:=z5.2.2.2;exact⟨a,b,t,u,z5.1,z5.2.1,λt u v tk=>uf hy h0 hb (x.Wx _ tk) (MR _ rfl) z5.2.2.1.1 z5.2.2.1.2.1 z5.2.2.1.2.2.1 z5.2.2.1.2.2.2 z6.2⟩
theorem De{g:Nn}{gp q:Qv}{a:MX}(hg:ax X g (.type "range")/\dw g)(hy:X.scope.names.lookup y=Mc .local)(h0:enc y≠0)(hb:co X body .Wy kb)(hE:dH X [a] (.Wz (.rng Mg) (.st (enc y) kb) k) c):iH X (.For (.Name y p) (.Call (.Name g gp) [a] [] pos) body [] q) k (.cst (.int 0 0) c):=λW ρ J s Q x e=>
 XH (cM x hg λf s₁ hf x₁=>by
  rw[bJ hf];exact ca x₁ hE e (.inl λd=>nofun) λvs J' s' l x' e'=>by
   refine ae (XX l) λv z4=>?_;obtain rfl:=z4;obtain⟨a,b,t,u,ea,rfl,h⟩:=oX p hy h0 hb (va:=.int 0 0) x' e';injection ea with ea;subst ea
   exact of (call_range_1 (h _ _ _ _))) (iE rfl)
theorem CJ{g:Nn}{gp q:Qv}{a b:MX}(hg:ax X g (.type "range")/\dw g)(hy:X.scope.names.lookup y=Mc .local)(h0:enc y≠0)(hb:co X body .Wy kb)(hE:dH X [a,b] (.Wz (.rng Mg) (.st (enc y) kb) k) c):iH X (.For (.Name y p) (.Call (.Name g gp) [a,b] [] pos) body [] q) k c:=λW ρ J s Q x e=>
 XH (cM x hg λf s₁ hf x₁=>by rw[bJ hf];exact ca x₁ hE e (.inl λd=>nofun) λvs J' s' l x' e'=>by refine bI (dM l) λv w z3=>?_;obtain rfl:=z3;obtain⟨a,b,t,u,rfl,rfl,h⟩:=oX p hy h0 hb x' e';exact of (call_range_2 (h _ _ _ _))) (iE rfl)
theorem BJ{g:Nn}{gp q:Qv}{a b d:MX}{up cp:Qv}(hd:d=.UnaryOp .USub (.Constant (.int 1) kd cp) up)(hg:ax X g (.type "range")/\dw g)(hy:X.scope.names.lookup y=Mc .local)(h0:enc y≠0)(hb:co X body .Wy kb)(hsa:Xj a=Mg)(hsb:Xj b=Mg)(h1:aP X b (.Wz (.rng Mh) (.st (enc y) kb) k) c1)(h2:aP X a c1 c):iH X (.For (.Name y p) (.Call (.Name g gp) [a,b,d] [] pos) body [] q) k c:=λW ρ J s Q x e=>by subst hd;exact XH (cM x hg λf s₁ hf x₁=>by rw[bJ hf];refine dr (gG (es:=[a,b,.UnaryOp .USub (.Constant (.int 1) kd cp) up]) (by rw[PW,PW,hsa,hsb];rfl)) (λf=>nofun) (WR (Cn.step (h2 W _ _ _ [] _ x₁ e) λv f s x e=>WR (Cn.step (h1 W _ _ _ _ _ x e) λv f s x e=>?_) (bX hsb)) (bX hsa));obtain⟨a,b,t,u,rfl,rfl,h⟩:=oX p hy h0 hb (x.tk (s.toks+1)) e;exact WR (YJ (of (SH (of (neg_int (Xb (of (call_range_3 (by decide) (h _ _ _ _) (.inl (PyProof.noPylong_small (by decide))))))))))) (bX rfl)) (iE rfl)
end
section
variable{X:CX}{k kb kb' c c1 c2 c3:T}
theorem hint(W:Cn X):Ta W.env=false:=by unfold Ta;rw[W.hE.1,W.hE.2];rfl
theorem Dh:iH X (.Pass pos) k k:=λa ρ J a a x e=>of (wpAny_Pass ⟨J,ρ,x,e⟩)
theorem zQ:iH X (.Break pos) k .brk:=λa ρ J a a x e=>of (wpAny_Break ⟨J,ρ,x,e⟩)
theorem r7:iH X (.Continue pos) k .WY:=λa ρ J a a x e=>of (wpAny_Continue ⟨J,ρ,x,e⟩)
theorem CK:iH X (.Return Mq pos) k (.cst .none .ret):=λa ρ J a a x e=>of (wpAny_Return_none ⟨J,ρ,x,e⟩)
theorem Ef(h:aP X v .ret c):iH X (.Return (Mc v) pos) k c:=λW ρ a a a x e=>X6 (Cn.step (h W _ _ _ [] _ x e) λa J a x e=>⟨J,ρ,x,e⟩)
theorem zb{e1 e2:Option MX}:iH X (.Raise e1 e2 pos) k .rai:=λa a a a a a e=>e.elim
theorem BZ(hs:UM v Mq pos.line (Xr X)=NN Mg)(h:aP X v (.pop k) c):iH X (.Expr v pos) k c:=λW ρ a a a x e=>
 Yw (Cn.step (h W _ _ _ [] _ x e) λa J a x e=>⟨J,ρ,x,e⟩) (hint W) (by
  have hsc:({scope:=W.env.scope,locals:=0,globals:=0,cells:=[]}:VC)=Xr X:=by rw[W.hE.1];rfl
  exact(show UM v Mq pos.line W.env=UM v Mq pos.line {scope:=W.env.scope,locals:=0,globals:=0,cells:=[]} from rfl).trans (by rw[hsc,hs]))
theorem BG{op:RE}{o:Op}(hy:X.scope.names.lookup y=Mc .local)(h0:enc y≠0)(ho:op=qD o)(h:aP X v (.iop o (.st (enc y) k)) c):iH X (.AugAssign (.Name y p) op v pos) k (.ld (enc y) c):=λW ρ J s Q x e=>by refine ae e λu z5=>?_;have hu:=z5.1;have e:=z5.2;exact YE (of (Cn.ld x hy hu λold ho'=>Cn.step (h W _ _ _ [er old] _ x (by rw[ho'];exact e)) λa a a x e=>Cn.step (of (vE x ho e)) λa J a x e=>of (gF W.hE hy h0 x.sp λa S a=>⟨J,_,S.st,e⟩)))
theorem CT{ob:MX}{a:Nn}{op:RE}{o:Op}(h0:enc a≠0)(ho:op=qD o)(h1:aP X v (.iop o (.W7 (.XF (enc a) k))) c1)(h2:aP X ob (.dup (.fld (enc a) c1)) c):iH X (.AugAssign (.Attribute ob a p) op v pos) k c:=λW ρ J s Q x e=>
 XS (Cn.step (h2 W _ _ _ [] _ x e) λb b b x e=>Cn.step (of (tn W.B W.hb x h0 e)) λb b b x e=>Cn.step (h1 W _ _ _ _ _ x e) λb b b x e=>Cn.step (of (vE x ho e)) λb b b x e=>
  Cn.Z4 (of (tM W.B W.hb x h0 e)) λb J b x e=>⟨J,ρ,x,e⟩)
theorem qO{W:Cn X}{f:T7}{s':Ml}(h:jT W.Z W.Φ W.L (B6 (λρ' J'=>W.ex k [] ρ' J' Q) Q) (λρ' J'=>W.ex .Wy [] ρ' J' (B6 (λρ' J'=>W.ex k [] ρ' J' Q) Q)) f s'):jT W.Z W.Φ W.L Q (λρ' J'=>W.ex k [] ρ' J' Q) f s':=by refine bI h λJ' ρ' z4=>?_;cases f<;>exact⟨J',ρ',z4.1,z4.2⟩
theorem Fh{a b:List ON}(ht:qB X t c1 c2 c)(h1:co X a .Wy c1)(h2:co X b .Wy c2):iH X (.If t a b pos) k (.seq c k):=λW ρ J s Q x e=>
 ZO (Cn.Xz (ht W _ _ _ [] _ x e) (λd d x e=>Wm (h1 W _ _ _ _ x e) (λd d h=>qO h) λd d z=>z) λd d x e=>Wm (h2 W _ _ _ _ x e) (λd d h=>qO h) λd d z=>z)
theorem At{b:List ON}(hb:co X b .Wy kb)(ht:qB X t kb .brk c):iH X (.While t b [] pos) k (.whl c k):=λW ρ J s Q x e=>by
 refine ae e λf h=>?_;refine ZW (YZ (λf s=>bM λρ J=>W.St J ρ s/\yS (λρ J Q'=>W.ex c [] ρ J Q') (λρ' J'=>W.ex k [] ρ' J' Q) (λv J'=>Q (.ret v) J') f ρ J) (λf s h=>?_) f ⟨ρ,J,x,h⟩);refine bI h λρ J z3=>?_;have x:=z3.1;induction f with
 |zero=>exact z3.2.elim
 |succ f=>
  refine Cn.Xz (ht W _ _ _ [] _ x z3.2) (λa a x e=>Wm (hb W _ _ _ _ x e) (λfl s' q=>?_) λa a z=>z) λJ a x e=>of (Qg ⟨J,ρ,x,e⟩);refine bI q λJ ρ z2=>?_;have x:=z2.1;have q:=z2.2;induction fl with
  |next=>exact⟨f,M9 _,ρ,J,x,q⟩
  |cont=>exact⟨f,M9 _,ρ,J,x,q⟩
  |brk=>exact⟨J,ρ,x,q⟩
  |ret v=>exact⟨J,ρ,x,q⟩
theorem G1:co X [] k k:=λa ρ J a a x e=>of (Qg ⟨J,ρ,x,e⟩)
theorem FV{t:ON}{ts:List ON}(h1:co X ts k c1)(h2:iH X t c1 c):co X (t::ts) k c:=λW ρ J s Q x e=>
 WK (Wm (h2 W _ _ _ _ x e) (λf s₁ h₁=>by
  induction f with
  |next=>refine bI h₁ λJ ρ z1=>?_;exact h1 W ρ J s₁ Q z1.1 z1.2
  |_=>exact h₁) λa a z=>z)
end
end Wc
namespace Cn
inductive PP{X:CX}(W:Cn X)(d:Mk)(h₀:Ox)(ρ:Loc)(xs:List Nn)(k:T)(st:List Md)(Q:Out->Sg->Prop)(prs:List (Md×Md))(s:Ml):Prop
 |mk (us:List Md) (J:Sg):us.length=xs.length->W.Sp [d] J ρ s->s.heap.get? d=h₀.get? d->Carries (V0 W.Z.prog W.Z.w) prs (xs.zip us)->W.ex k ((us.map er).reverse++st) ρ J Q->PP W d h₀ ρ xs k st Q prs s
end Cn
inductive wK(X:CX)(ks:List (Option MX))(vs:List MX)(xs:List Nn)(k c:T):Prop where
 |mk (l1:ks.length=vs.length)
  (l2:xs.length=ks.length)
  (some:ks.all (·.isSome)=Mh)
  (ok:∀(W:Cn X)(d:Mk)(ρ:Loc)(J:Sg)(s:Ml)(st:List Md)(Q:Out->Sg->Prop)(pos:Qv),¬W.Φ.fr d->W.Sp [d] J ρ s->W.ex c st ρ J Q->W.wp (UR (pairTrees ks vs W.env pos)) (W.PP d s.heap ρ xs k st Q) s)
namespace Wc
theorem Zv{k v:RV Md}{rest:List (RV Md×RV Md)}{Q:List (Md×Md)->Ml->Prop}(h:Wi (Mj prog w) A k (λkv s₁=>Wi (Mj prog w) A v (λvv s₂=>Wi (Mj prog w) A (UR rest) (λvs s₃=>Q ((kv,vv)::vs) s₃) E s₂) E s₁) E s):Wi (Mj prog w) A (UR ((k,v)::rest)) Q E s:=by rw[UR];refine Wh (Wm h (λkv s₁ h₁=>?_) λa a e=>e);refine Wh (Wn (Wm h₁ (λvv s₂ h₂=>?_) λa a e=>e));exact Wh (Wn (Wm h₂ (λvs s₃ h₃=>wpAny_pure h₃) λa a e=>e))
section
variable{X:CX}{k c c1:T}{dp:Qv}{ks:List (Option MX)}{xs:List Nn}
theorem Gf:wK X [] [] [] k k:=⟨rfl,rfl,rfl,λW d ρ J s st Q pos hd S e=>of (evalPairs_nil ⟨[],J,rfl,S,rfl,trivial,e⟩)⟩
theorem GE(H:wK X ks vs xs k c1)(h:aP X v c1 c):wK X (Mc (.Constant (.str x) kd p)::ks) (v::vs) (x::xs) k c:=
 ⟨congrArg (·+1) H.1,congrArg (·+1) H.2,H.3,λW d ρ J s st Q pos hd S e=>by
  have hn:∀a∈[d],¬W.Φ.fr a:=λa ha=>by rw[MM.mp ha];exact hd
  show W.wp (UR ((NV (.Constant (.str x) kd p) W.env,(do let y <-NV v W.env;OV pos;NN y))::pairTrees ks vs W.env pos)) _ _;refine Zv (of (SJ (Wh (Cn.aa7 hn h (S.tk (s.toks+1)) e λu J' s' S' k' e'=>Wh (Wo (wpAny_pure (Wm (H.4 W d ρ J' s' _ Q pos hd S' e') (λprs s'' z=>?_) λb b z=>z)))))));induction z with
  |mk us J'' l S'' k'' car e''=>exact⟨u::us,J'',congrArg (·+1) l,S'',k''.trans (k' d (MM.mpr rfl)),⟨strKind_is _ _ _ _,rfl,car⟩,by rw[Nm,P4,NI];exact e''⟩⟩
theorem qF(i:Nn):∀(xs:List Nn)(us:List Md){p:Md×Md},((xs.map λx=>Q7 x 0).zip (us.map er)).find? (λp=>p.1==.str i 0)=Mc p->∃u,er u=p.2/\(xs.zip us).find? (λkv=>kv.1=i)=Mc (i,u)
 |[],_,_,h=>by cases h
 |x::xs,[],p,h=>by cases h
 |x::xs,u::us,p,h=>by
  rw[Nm,Nm,OH,PQ] at h;rw[OH,PQ];by_cases hxi:x=i;·subst hxi;rw[show((Q7 x 0)==(Q7 x 0))=Mh from beq_self_eq_true _] at h;rw[<-MI h];exact⟨u,rfl,by rw[decide_eq_true rfl]⟩
  ·rw[show((Q7 x 0)==(Q7 i 0))=Mg from beq_eq_false_iff_ne.mpr λq=>hxi (by injection q)] at h;refine ae (qF i xs us h) λu' z14=>?_;exact⟨u',z14.1,by rw[decide_eq_false hxi];exact z14.2⟩
theorem EU{i:MX}(H:wK X ks vs xs c1 c)(hnd:xs.Nodup)(hlen:ks.length<=15)(h0:ks.isEmpty=Mg)(hs:du i=Mg)(hi:aP X i (.sel (xs.map λx=>.str x 0) k) c1):aP X (.Subscript (.Dict ks vs dp) i pos) k c:=λW ρ J s st Q x e=>by
 have hn:=pairTrees_length ks vs W.env dp H.3 H.1;have l1:=H.1;have l2:=H.2;refine X7 ?_;rw[arm_eval_Dict,zip_pairTrees ks vs W.env dp H.3 H.1,dictDisplay_pairs _ (by intro q;rw[q] at hn;simp at hn;rw[PB hn.symm] at h0;cases h0) (ao 0x843080007aa0a87f8a118a4441413 [] [_,_] hlen hn)];refine Wh (Wo (Wh ?_));unfold subDict;refine Wh (of (wpAny_alloc (Wh (Wn ?_))));rw[if_pos (Nj (Oq hn) hlen)];have hd0:(s.heap.push {cls:=.type "dict",data:=.dict #[]}).get? s.heap.objs.size=Mc {cls:=.type "dict",data:=.dict #[]}:=MR _ rfl;have hf:=x.XZ (MC _);refine Wh (Wm (H.4 W _ ρ J _ st Q dp hf (x.abb (t:=s.toks) rfl) e) (λprs s₁ h₁=>?_) λa a z=>z);induction h₁ with
 |mk us J₁ hul S₁ k₁ hcar e₁=>
  have hD0:s₁.heap.DictOf (V0 W.Z.prog W.Z.w) s.heap.objs.size []:=by refine ae (Heap.DictOf.new (knd:=V0 W.Z.prog W.Z.w) s.heap) λo z11=>?_;refine ae z11 λes z12=>?_;refine ae z12 λep z13=>?_;have q:=z13.1;have r:=z13.2;exact⟨o,es,ep,k₁.trans q,r⟩
  have hzl:(xs.zip us).length<=15:=by rw[List.length_zip];exact aS 0x108e10c200029941310a90b44bc508c53c41312 [] [_,_,_] hlen l2 (OR _ _)
  refine Wn (of (Mf (wpAny_storeAll (knd:=V0 W.Z.prog W.Z.w) prs (xs.zip us) [] s₁ _ hcar hD0 (by rw[NK];simp;exact aS 0x211c21840005328262152168978a118a400000041327 [] [_,_,_] hlen l2 (OR _ _)) λh' hD hs'=>Mz (wpAny_pure (wpAny_pure ?_)))));rw[merged_nil_of_nodup _ (by rw[Rf (af 0x1084004ea1287d4130f [] [_,_] hul)];exact hnd)] at hD;have S₂:W.Sp [s.heap.objs.size] J₁ ρ {s₁ with heap:=h',toks:=s₁.toks+prs.length}:=S₁.but (MM.mpr rfl) hs' (by refine ae hD λo z8=>?_;refine ae z8 λes z9=>?_;refine ae z9 λep z10=>?_;obtain⟨q,r⟩:=z10;exact⟨o,q⟩);refine Cn.aa7 (own:=[s.heap.objs.size]) (λa ha=>by rw[MM.mp ha];exact hf) hi S₂ e₁ λkv J₃ s₃ S₄ k₄ e₃=>?_;refine ga e₃ λus' st' p z7=>?_;have ht:=z7.1;have hp:=z7.2.1;rw[eW (by rw[Mt,Mt];exact hul)] at ht;cases ht;obtain⟨y,hy⟩:∃y,er kv=.str y 0:=by have h3:=List.mem_of_find?_eq_some hp;refine ae (ND.mp (Uj (show(p.1,p.2)∈_ from h3)).1) λy z6=>?_;obtain⟨_,q⟩:=z6;have h1:=List.find?_some hp;exact⟨y,(beq_iff_eq.mp h1).symm.trans q.symm⟩
  rw[hy] at hp;refine Yz hy λt2=>?_;refine ae (qF y xs us hp) λu z4=>?_;have hD':s₃.heap.DictOf (V0 W.Z.prog W.Z.w) s.heap.objs.size (xs.zip us):=by refine ae hD λo z1=>?_;refine ae z1 λes z2=>?_;refine ae z2 λep z3=>?_;have q:=z3.1;have r:=z3.2;exact⟨o,es,ep,(k₄ _ (MM.mpr rfl)).trans q,r⟩
  have hv:valueAt (xs.zip us) y=Mc u:=by unfold valueAt;rw[z4.2];rfl
  exact of (TP hD'.typeIs slot_dict_getitem.lookup (wpAny_getItem_of (strKind_is _ _ y t2) hD'.mapOf hv ⟨J₃,(S₄.st).tk _,by rw[z4.1];exact z7.2.2⟩) (j1 hs))
end
end Wc
theorem rI(names:List (Nn×RL))(g:Nn->RL->RL)(x:Nn):(names.map λp=>(p.1,g p.1 p.2)).lookup x=(names.lookup x).map (g x):=by
 induction names with
 |nil=>rfl
 |cons p r ih=>
  obtain⟨y,k⟩:=p;rw[Nm,Ow,Ow];by_cases h:x=y;·subst h;simp
  ·have e:(x==y)=false:=beq_eq_false_iff_ne.mpr h;simp only[e];exact ih
variable{v:Md}{Q:Md->Ml->Prop}{D:List Md->Sg->Prop}{elt iter:MX}{ifs:List MX}{scope:O1}{X':CX}{s₁:Ml}
namespace Wc
theorem Yn{x left step:Int}(hit:IsRangeIter s.heap it x left step)(h:Q (.ref it) s):Mx (Mj prog w) A (Tq (.ref it)) Q E s:=by have hT:s.TypeIs (.ref it) "range_iterator":=⟨_,hit,rfl⟩;refine wpAny_pyIter_slot hT SN (Po (b:=Builtin.«dict_keyiterator.__iter__») SN hT (entryFor_alias (id':="dict_keyiterator.__iter__") (by kernel_rfl) (by first|rfl|decide +kernel) (by decide +kernel) (by kernel_rfl)) ?_ (F.args_range_iterator_iter_1 _));show Mx _ _ (ret (.ref it)) _ _ s;exact Mz ⟨_,rfl, "range_iterator",_,hT,F.slot_range_iterator_next.lookup,h⟩
theorem aad{p:Mk}{m1:Nat}(z1:s.heap.get? p=Mc (⟨.type "list",Mq,.seq zs m1,#[]⟩:P8))(hz:zs.size<=1000000)(h:∀h' m2,h'.get? p=Mc (⟨.type "list",Mq,.seq (zs.push v) m2,#[]⟩:P8)->NC p s.heap h'->Q .none {s with heap:=h'}):Mx (Mj prog w) A (OG (.builtin "list.append") [.ref p,v]) Q E s:=by
 have hz':zs.size<=sizeLine:=by rw[NK];exact db hz rfl
 refine Vc TQ ⟨_,z1,rfl⟩ entry_list_append (args_list_append _ _) (QX p zs m1 v hz') ⟨z1,?_⟩;exact h _ _ (Nf _ z1 rfl) (OD ..)
noncomputable def s8(elt:MX)(acc:Md)(env:VC):RV Unit:=NV elt env>>=λx=>OG (.builtin "list.append") [acc,x]>>=λa=>NN ()
theorem vm(elt target iter:MX)(scope:O1)(pos:Qv)(it acc:Md)(env:VC):UI (.ListComp elt [⟨target,iter,[],0⟩] scope pos) 0 it acc env=(OV iter.pos>>=λa=>QC it>>=λr=>match r with
   |none=>NN (.done .next)
   |some v=>OQ target it v>>=λa=>Rb target env v>>=λa=>s8 elt acc env>>=λa=>VR (.compLoop (.ListComp elt [⟨target,iter,[],0⟩] scope pos) 0 it acc env)):=by rfl
theorem u5(elt target iter t:MX)(scope:O1)(pos:Qv)(it acc:Md)(env:VC):UI (.ListComp elt [⟨target,iter,[t],0⟩] scope pos) 0 it acc env=(OV iter.pos>>=λa=>QC it>>=λr=>match r with
   |none=>NN (.done .next)
   |some v=>OQ target it v>>=λa=>Rb target env v>>=λa=>QB t env (NV t env)>>=λok=>
    if ok then s8 elt acc env>>=λa=>VR (.compLoop (.ListComp elt [⟨target,iter,[t],0⟩] scope pos) 0 it acc env) else VR (.compLoop (.ListComp elt [⟨target,iter,[t],0⟩] scope pos) 0 it acc env)):=by
 show(OV iter.pos>>=λa=>QC it>>=λr=>_)=_
 refine congrArg (OV iter.pos>>=·) (funext λa=>congrArg (QC it>>=·) (funext λr=>?_))
 induction r with
 |none=>rfl
 |some v=>refine congrArg (OQ target it v>>=·) (funext λa=>congrArg (Rb target env v>>=·) (funext λa=>?_));show((QB t env (NV t env)>>=λok=>NN (QA ok))>>=λr=>_)>>=_=_;rw[bind_assoc,bind_assoc];rfl
section
variable{R:Ph->Ml->Prop}
theorem YI{m:RV α}{Q:Except Md α->Ml->Prop}(h:Wi (Mj prog w) A m (λa=>Q (.ok a)) (λe=>Q (.error e)) s):Wi (Mj prog w) A m.attempt Q E s:=
 λΓ p a b c=>by rw[Sem.wp_attempt];exact h Γ p a b c
theorem r8{M:RW}{Q:List (Nn×Mk)->Ml->Prop}(names:List (Nn×RL))(hf:∀x∈names,x.2=.free->∃a,env.cells.lookup x.1=Mc a) :
  ∀(cs:List (Nn×Mk)),(∀cs',(∀x a,cs.lookup x=Mc a->env.cells.lookup x=Mc a)->(∀x a,cs'.lookup x=Mc a->env.cells.lookup x=Mc a)->(∀x,((x,Tr)∈names∨(cs.lookup x).isSome=Mh)->(cs'.lookup x).isSome=Mh)->Q cs' s)->(∀x a,cs.lookup x=Mc a->env.cells.lookup x=Mc a)->
  Mx M A (forIn names cs λ(x:Nn×RL)(cs:List (Nn×Mk))=>(if x.2==.free then(do let a <-cellOf env x.1;NN (QA ((x.1,a)::cs))) else NN (QA cs):RV (ForInStep (List (Nn×Mk))))) Q E s:=by
 induction names with
 |nil=>intro cs hq hcs;rw[List.forIn_nil];exact Mz (hq cs hcs hcs λx hx=>by simpa using hx)
 |cons p r ih=>
  intro cs hq hcs;rw[List.forIn_cons];obtain⟨y,k⟩:=p;have ih':=ih (λx hx=>hf x (MU _ hx));refine Mf ?_;by_cases hk:k=.free
  ·subst hk;refine ae (hf (y,.free) (MT ..) rfl) λa ha=>?_;refine Mf (wpAny_cellOf ha (Mz ?_));have hcs2:∀x b,((y,a)::cs).lookup x=Mc b->env.cells.lookup x=Mc b:=λx b hb=>by exact(tH hb).elim (λq=>by rw[q.1,q.2];exact ha) λq=>hcs x b q
   refine ih' ((y,a)::cs) (λcs' h1 h2 h3=>hq cs' hcs h2 λx hx=>h3 x ?_) hcs2;rcases hx with hx|hx
   ·rcases MS.mp hx with q|q;·rw[show x=y from congrArg RB q];exact .inr (by show(match y==y with|true=>Mc a|false=>cs.lookup y).isSome=Mh;rw[beq_self_eq_true];rfl)
    ·exact .inl q
   ·right;exact yW hx
  ·have hb:(k==Tr)=false:=by simpa using hk
   simp only[hb,QH,if_false];refine Mz (ih' cs (λcs' h1 h2 h3=>hq cs' h1 h2 λx hx=>h3 x ?_) hcs);rcases hx with hx|hx
   ·rcases MS.mp hx with q|q;·cases q;exact absurd rfl hk
    ·exact .inl q
   ·exact .inr hx
noncomputable def zW(env:VC)(scope:O1):Scope:={scope with names:=scope.names.map λ(n,k)=>if(k==.free&&env.scope.kind==.function&&env.kindOf n==Mc .cell)=Mh then(n,.cell) else(n,k)}
noncomputable abbrev kS:Obj:={cls:=.type "list",data:=.seq #[]}
noncomputable abbrev i6(env:VC)(scope:O1)(L:Mk)(cs:List (Nn×Mk)):Env:={newEnv scope L env.globals cs env.qual Mq .none (Mc env) Qc with scope:=zW env scope}
inductive CR(L' acc:Mk)(Q:Md->Ml->Prop)(r:Ph)(s':Ml):Prop
 |mk (f:T7) (m:Nn->Option Md):r=.ok f->s'.heap.Ns L' m->(∀h'' m'',h''.Ns L' m''->NC L' s'.heap h''->Q (.ref acc) {s' with heap:=h''})->CR L' acc Q r s'
def xm(M:RW)(A:O8)(env:VC)(e:MX)(scope:O1)(Q:Md->Ml->Prop)(it:Md)(s₂:Ml):Prop:=∀(cs:List (Nn×Mk))(h':Ox),(∀x a,cs.lookup x=Mc a->env.cells.lookup x=Mc a)->(∀x,(x,Tr)∈scope.names->(cs.lookup x).isSome=Mh)->
 h'.Ns (s₂.heap.push kS).objs.size (λb=>Mq)->NC (s₂.heap.push kS).objs.size ((s₂.heap.push kS).push {cls:=.type "dict",data:=.dict #[]}) h'->
 Wv M A (.compStart e 0 it (.ref s₂.heap.objs.size) (i6 env scope (s₂.heap.push kS).objs.size cs)) (CR (s₂.heap.push kS).objs.size s₂.heap.objs.size Q) {s₂ with heap:=h'}
theorem nX(hfree:∀x∈scope.names,x.2=.free->∃a,env.cells.lookup x.1=Mc a)(hnc:∀x∈scope.names,x.2≠.cell)(hkind:scope.kind=.function)(hnames:∀x∈scope.names,x.2=.local->(zW env scope).names.lookup x.1=Mc .local)(hs:YD iter=Mg)(h:Wi (Mj prog w) A (NV iter env) (λx s₁=>Wi (Mj prog w) A (Tq x) (xm (Mj prog w) A env (.ListComp elt [⟨.Name y yp,iter,ifs,0⟩] scope pos) scope Q) E s₁) E s):Wi (Mj prog w) A (NV (.ListComp elt [⟨.Name y yp,iter,ifs,0⟩] scope pos) env) Q E s:=by
 rw[eval_ListComp];unfold comprehension;refine Wh (Wm h (λx s₁ h₁=>Wh (Wo ?_)) λb b z=>z);have e0:QU iter env x=NN x:=iE hs x;show Wi _ _ (QU iter env x>>=_) _ _ _;rw[e0];refine Wh (wpAny_pure (Wh (Wn (Wm h₁ (λit s₂ h₂=>?_) λb b z=>z))));rw[if_neg (by exact O2)];refine Wh (of ?_);unfold newList;refine Pd ?_ (Nb _);refine Wh (of ?_);unfold closureFor;refine Mf (r8 scope.names hfree [] (λcs b h2 h3=>Mz ?_) (λb b z=>by cases z));refine Wh (of (wpAny_newFunctionEnv hnc (λx hx=>by cases hx) (λh' hn hsb=>?_) hkind));have hv:∀x∈(scope.names.filter λx=>(x.2==.local||x.2==.cell)&&x.1 !=(".0":Nn)).reverse,x.2=.local->
   SD (i6 env scope (s₂.heap.push kS).objs.size cs) x.1=Mc .local:=λx hx hl=>hnames x (List.mem_filter.mp (List.mem_reverse.mp hx)).1 hl
 refine Wn (Wh (YI (Wn (mw (WO (h₂ cs h' h2 (λx hx=>h3 x (.inl hx)) hn hsb) λr s' hr=>?_)))));induction hr with
 |mk f m hr hn' hq=>subst hr;exact Wh (Wn (of (wpAny_comp_letGo (cenv:=i6 env scope (s₂.heap.push kS).objs.size cs) hkind _ s' m hv hn' λh'' m' hn'' hs'=>wpAny_pure (hq h'' m' hn'' hs'))))
theorem pH{it acc:Md}(hi:∀(E:Md->Ml->Prop)(Q:Md->Ml->Prop),Q it s->Mx (Mj prog w) A (Tq it) Q E s)(h:Wv (Mj prog w) A (.compLoop (.ListComp elt [⟨target,iter,ifs,0⟩] scope pos) 0 it acc env) R s):Wv (Mj prog w) A (.compStart (.ListComp elt [⟨target,iter,ifs,0⟩] scope pos) 0 it acc env) R s:=by
 refine WB rfl ?_;show Wi _ _ ((compStart (.ListComp elt [⟨target,iter,ifs,0⟩] scope pos) 0 it acc env).onRaise (λx=>do Rc x env;OV theWindowsPlace)) _ _ s;refine Xd ?_;show Wi _ _ (ask>>=_) _ _ s;refine Wh (of (wpAny_askSetting ?_));have e:∀(c:Bool)(a b:RV Fin)(Q:Fin->Ml->Prop),Wi (Mj prog w) (A.under (.compStart (.ListComp elt [⟨target,iter,ifs,0⟩] scope pos) 0 it acc env)) a Q N0 s->Wi (Mj prog w) (A.under (.compStart (.ListComp elt [⟨target,iter,ifs,0⟩] scope pos) 0 it acc env)) b Q N0 s->
   Wi (Mj prog w) (A.under (.compStart (.ListComp elt [⟨target,iter,ifs,0⟩] scope pos) 0 it acc env)) (if c=Mh then a else b) Q N0 s:=λc a b Q ha hb=>by cases c<;>assumption
 refine e _ _ _ _ ?_ ?_;·exact wpAny_pure ⟨rfl,h⟩
 ·refine Wh (WU ?_);show Wi _ _ (OV iter.pos>>=_) _ _ s;exact Wh (Wo (Wh (of (hi _ _ (wpAny_pure ⟨rfl,h⟩)))))
end
inductive jU(sc scope sc':O1)(y:Nn):Prop where
 |mk (kind:scope.kind=.function)
  (nc:∀x∈scope.names,x.2≠.cell)
  (free:∀x∈scope.names,x.2=.free->sc.names.lookup x.1=Mc .cell)
  (loc:∀x∈scope.names,x.2=.local->sc'.names.lookup x.1=Mc .local)
  (yl:sc'.names.lookup y=Mc .local)
  (y0:enc y≠0)
  (cell:∀x,sc'.names.lookup x=Mc .cell->(x,Tr)∈scope.names/\sc.names.lookup x=Mc .cell)
theorem pv{X:CX}(hE:ky env X.scope L)(scope:O1):zW env scope=(cW X scope).scope:=by delta zW cW SD;rw[hE.1]
theorem oj{X:CX}(h:kr X scope y=Mh):jU X.scope scope (cW X scope).scope y:=by
 have h:=of_decide_eq_true h;have hm:∀x,(cW X scope).scope.names.lookup x=(scope.names.lookup x).map (λk=>if(k==.free&&X.scope.kind==.function&&X.scope.names.lookup x==Mc .cell)=Mh then .cell else k):=λx=>by have:=rI scope.names (λn k=>if(k==.free&&X.scope.kind==.function&&X.scope.names.lookup n==Mc .cell)=Mh then .cell else k) x;rw[<-this];unfold cW;dsimp only;congr 1;refine Qs λp a=>?_;obtain⟨n,k⟩:=p;split<;>rfl
 have hl:∀x,scope.names.lookup x=Mc .local->(cW X scope).scope.names.lookup x=Mc .local:=λx hx=>by rw[hm,hx];rfl
 refine⟨h.1,h.2.1,λx hx q=>(h.2.2.1 x hx q).2,λx hx q=>hl _ (h.2.2.2.1 x hx q),hl y h.2.2.2.2.1,h.2.2.2.2.2,λx hx=>?_⟩;rw[hm] at hx;refine ae (MP.mp hx) λk z3=>?_;have hk:=z3.1;have e:=z3.2;have hmem:=Xh hk;by_cases q:(k==.free&&X.scope.kind==.function&&X.scope.names.lookup x==Mc .cell)=Mh;·have q:=MQ.mp q;rw[beq_iff_eq.mp (MQ.mp q.1).1] at hmem;exact⟨hmem,beq_iff_eq.mp q.2⟩
 ·rw[if_neg q] at e;exact absurd e (h.2.1 _ hmem)
noncomputable def ZD(ifs:List MX)(elt:MX)(acc:Md)(lp:UW)(env:VC):RV Fin:=match ifs with
 |[]=>s8 elt acc env>>=λa=>VR lp
 |t::_=>QB t env (NV t env)>>=λok=>if ok then s8 elt acc env>>=λa=>VR lp else VR lp
def gI(X:CX)(ifs:List MX)(elt:MX)(body:T):Prop:=∀(W:Cn X)(ρ:Loc)(J:Sg)(s:Ml)(Q:Out->Sg->Prop)(acc:Md)(lp:UW)(Pf:Fin->Ml->Prop),W.St J ρ s->W.ex body [] ρ J Q->
 (∀v s' J',W.St J' ρ s'->Q (.val (er v) ρ) J'->W.wp (OG (.builtin "list.append") [acc,v]) (λa=>Pf (.again lp)) s')->(∀s' J',W.St J' ρ s'->Q (.next ρ) J'->Pf (.again lp) s')->W.wp (ZD ifs elt acc lp W.env) Pf s
theorem wv{X:CX}{ke:T}(h:aP X elt .yld ke):gI X [] elt ke:=λW ρ J s Q acc lp Pf x e h1 a=>
 Wh (Wh (Cn.step (h W _ _ _ [] _ x e) λv J' s' x' e'=>Wh (Wm (h1 v s' J' x' e') (λa s'' z=>wpAny_pure (wpAny_pure z)) λa a z=>z)))
theorem yd{X:CX}{ke body:T}(h:aP X elt .yld ke)(ht:qB X t ke .Wy body):gI X [t] elt body:=λW ρ J s Q acc lp Pf x e h1 h2=>
 Wh (Cn.Xz (ht W _ _ _ [] _ x e) (λJ' s' x' e'=>wv h W ρ J' s' Q acc lp Pf x' e' h1 h2) λJ' s' x' e'=>wpAny_pure (h2 s' J' x' e'))
section
variable{X:CX}{W:Cn X}{k c c1 body:T}{st:List Md}{Q:Out->Sg->Prop}
structure CW(W:Cn X)(X':CX) where
 L':Mk
 it:Mk
 acc:Mk
 oL:P8
 env:VC
 hK:X'.K=X.K
 hE:ky env X'.scope L'
 cell:sg W.Z X'.scope env
 hod:∀vs,oL.data≠.fields vs
 hfi:¬W.Φ.fr it
 hfa:¬W.Φ.fr acc
 l1:W.L<it
 l2:it<acc
 l3:acc<L'
namespace CW
variable(V:CW W X')
@[reducible]def Sp(own:List Mk)(J:Sg)(ρ:Loc)(s:Ml):Prop:=Internal.Sp W.Z W.Φ own J V.L' ρ s
@[reducible]def own:List Addr:=[W.L,V.it,V.acc]
inductive CI(y:Nat)(Lz:Nat->Ox->Prop)(nx:Nx)(turn:Md->Sg->(Out->Sg->Prop)->Prop)(D:List Md->Sg->Prop)(f:Nat)(s:Ml):Prop
 |mk (i:Nat) (ws:List Md) (J:Sg) (ρ:Loc) (ys:Array Md) (m:Nat):V.Sp V.own J ρ s->(∀v,sf ρ y v=[(y,v)])->(∃sl,s.heap.get? W.L=Mc {V.oL with slots:=sl})->s.heap.get? V.acc=Mc (⟨.type "list",Mq,.seq ys m,#[]⟩:P8)->ys.toList.map er=ws->
  ws.length+f<=100001->Lz i s.heap->kz nx turn D f i ws J->CI y Lz nx turn D f s
inductive CE(D:List Md->Sg->Prop)(s:Ml):Prop
 |mk (ws:List Md) (J:Sg) (ρ:Loc) (ys:Array Md) (m:Nat):V.Sp [W.L,V.acc] J ρ s->(∃sl,s.heap.get? W.L=Mc {V.oL with slots:=sl})->s.heap.get? V.acc=Mc (⟨.type "list",Mq,.seq ys m,#[]⟩:P8)->ys.toList.map er=ws->D ws J->CE D s
variable{V}
theorem Fx:W.L∈V.own:=MT ..
theorem Fq:V.it∈V.own:=MU _ (MT ..)
theorem Dk:V.acc∈V.own:=MU _ (MU _ (MT ..))
noncomputable abbrev cn(V:CW W X'){J:Sg}{ρ:Loc}{s:Ml}(S:V.Sp V.own J ρ s)(hL:∃sl,s.heap.get? W.L=Mc {V.oL with slots:=sl}):Cn X' where
 Z:=W.Z
 Φ:=Internal.WT W.Φ V.own s.heap
 L:=V.L'
 A:=W.A
 n:=W.n
 env:=V.env
 B:=by rw[V.hK];exact W.B
 hb:=S.base W.hb
 hE:=V.hE
 hr:=W.hr.held S (.inr ⟨Fx,λo ho vs z=>by refine ae hL λsl hL=>?_;rw[hL] at ho;cases ho;exact V.hod vs z⟩)
 cell:=V.cell
theorem y9(hJ:∀i h h',h'.get? V.it=h.get? V.it->Lz i h->Lz i h'){lp:UW}(hT:gI X' ifs elt body){m yc:Nat}(S:V.Sp V.own J [(yc,u)] s)(hL:∃sl,s.heap.get? W.L=Mc {V.oL with slots:=sl})(ha:s.heap.get? V.acc=Mc (⟨.type "list",Mq,.seq ys m,#[]⟩:P8))(hw:ys.toList.map er=ws)(hz:ws.length+(f+1)<=100001)(j:Lz (i+1) s.heap)(h:W.ex body [] [(yc,u)] J (wR (kz nx (λv J Q'=>W.ex body [] [(yc,v)] J Q') D f (i+1)) ws)){Pf:Fin->Ml->Prop}(hP:∀s',V.CI yc Lz nx (λv J Q'=>W.ex body [] [(yc,v)] J Q') D f s'->Pf (.again lp) s'):W.wp (ZD ifs elt (.ref V.acc) lp V.env) Pf s:=by
 have key:∀(J':Sg)(s':Ml),(V.cn S hL).St J' [(yc,u)] s'->V.Sp V.own J' [(yc,u)] s'/\(∃sl,s'.heap.get? W.L=Mc {V.oL with slots:=sl})/\s'.heap.get? V.acc=Mc (⟨.type "list",Mq,.seq ys m,#[]⟩:P8)/\Lz (i+1) s'.heap:=λJ' s' x=>by
  have zqi:_:=S.free x;induction zqi with
  |mk S' k1 k2=>refine ae hL λsl hL=>?_;refine ae (k2 W.L Fx _ hL) λsl' z2=>?_;exact⟨S',⟨sl',z2.1⟩,(k1 _ Dk V.hfa).trans ha,hJ _ _ _ (k1 _ Fq V.hfi) j⟩
 refine hT (V.cn S hL) _ J s _ (.ref V.acc) lp Pf S.WT h (λv s' J' x q=>?_) λs' J' x q=>?_;·have t:=key J' s' x;refine of (aad t.2.2.1 (by rw[th hw];exact af 0x10c610000f61a844508e09b8ce7d090041322 [] [_,_] hz) λh' m2 hh hs=>hP _ ⟨i+1,ws++[er v],J',_,ys.push v,m2,t.1.but (t:=s'.toks) Dk hs ⟨_,hh⟩,λv=>if_pos rfl,?_,hh,by simp[hw],by rw[MH];exact(af 0x1080004f0d422284704dc67386a115104cf6e339 [] [_,_] hz:ws.length+1+f<=100001),hJ _ _ _ (hs.2 _ (Nd V.l2)) t.2.2.2,q⟩);refine ae t.2.1 λsl e=>?_;exact⟨sl,(hs.2 _ (Nd (QZ V.l1 V.l2))).trans e⟩
 ·have t:=key J' s' x;exact hP _ ⟨i+1,ws,J',_,ys,m,t.1,λv=>if_pos rfl,t.2.1,t.2.2.1,hw,Np hz,t.2.2.2,q⟩
theorem zD{m:Nat}{r:Option Md}{turn:Md->Sg->(Out->Sg->Prop)->Prop}(S:V.Sp V.own J ρ s)(hL:∃sl,s.heap.get? W.L=Mc {V.oL with slots:=sl})(ha:s.heap.get? V.acc=Mc (⟨.type "list",Mq,.seq ys m,#[]⟩:P8))(hw:ys.toList.map er=ws)(e:nx i J=Mc Mq)(h:kz nx turn D (f+1) i ws J)(hq:yG V.it s r s₁):r=Mq/\V.CE D s₁:=by
 have d:D ws J:=h.elim (·.2) λ⟨v,z,_⟩=>by rw[e] at z;cases z
 induction hq with
 |mk h' hr e' he=>
  subst e';refine ae hL λsl hL=>?_;have hL:=he _ _ (Nd V.l1) hL;have ha:=he _ _ (Qh V.l2) ha;refine⟨hr,ws,J,ρ,ys,m,S.to (own2:=[W.L,V.acc]) (t:=s.toks) (λb o hb q=>he b o (λz=>hb (z▸Fq)) q) (λa ha'=>?_) (λa ha' hn=>?_),⟨sl,hL⟩,ha,hw,d⟩
  ·refine Pj (MS.mp ha') (λzz=>?_) (λha'=>?_);rw[zz];·exact⟨Fx,_,hL⟩
   ·rw[MM.mp ha'];exact⟨Dk,_,ha⟩
  ·rcases MS.mp ha' with rfl|ha';·exact absurd (MT ..) hn
   ·refine Pj (MS.mp ha') (λzz=>?_) (λha'=>?_);rw[zz];·exact V.hfi
    ·exact absurd (MU _ ha') hn
theorem aaX(hJ:∀i h h',h'.get? V.it=h.get? V.it->Lz i h->Lz i h')(hC:∀i h,Lz i h->∃o,h.get? V.it=Mc o){yp ip:Qv}(hy:X'.scope.names.lookup y=Mc .local)(h0:enc y≠0)(hT:gI X' ifs elt body) (hden:UI e 0 (.ref V.it) (.ref V.acc) V.env=(OV ip>>=λa=>QC (.ref V.it)>>=λr=>match r with
   |none=>NN (.done .next)
   |some v=>OQ (.Name y yp) (.ref V.it) v>>=λa=>Rb (.Name y yp) V.env v>>=λa=>ZD ifs elt (.ref V.acc) (.compLoop e 0 (.ref V.it) (.ref V.acc) V.env) V.env))
  (hA:W.A.under (.compLoop e 0 (.ref V.it) (.ref V.acc) V.env)=W.A) (hq:(Ts e 0 (.ref V.it) (.ref V.acc) V.env).quiet=Mh) (hee:(Ts e 0 (.ref V.it) (.ref V.acc) V.env).isFrame=Mg)
  (next:∀i ρ J s,V.Sp V.own J ρ s->Lz i s.heap->yu W V.it nx Lz i J s) {R:Ph->Ml->Prop} (hR:∀s',V.CE D s'->R (.ok .next) s') {f:Nat} {s:Ml} (h:V.CI (enc y) Lz nx (λv J Q'=>W.ex body [] [(enc y,v)] J Q') D f s) :
  Wv (Mj W.Z.prog W.Z.w) W.A (.compLoop e 0 (.ref V.it) (.ref V.acc) V.env) R s:=by
 refine Yg rfl hq (V.CI (enc y) Lz nx (λv J Q'=>W.ex body [] [(enc y,v)] J Q') D) (λf s hI=>?_) f h
 rw[hA]
 show Wi _ W.A (if(Ts e 0 (.ref V.it) (.ref V.acc) V.env).isFrame then(UI e 0 (.ref V.it) (.ref V.acc) V.env).onRaise (UO V.env) else(UI e 0 (.ref V.it) (.ref V.acc) V.env).onRaise (λx=>do Rc x V.env;RP x)) _ _ s
 rw[hee,if_neg O2]
 refine Xd ?_
 rw[hden]
 generalize hlp:Ts e 0 (.ref V.it) (.ref V.acc) V.env=lp
 refine Wh (Wo (Wh ?_))
 induction hI with
 |mk i ws J ρ ys m S hρ hL ha hw hz j h=>
  induction f with
  |zero=>exact h.elim
  |succ f=>
   have zqi:_:=next i ρ J s S j
   induction zqi with
   |odd e=>
    have no:False:=h.elim (λh=>by rw[e] at h;cases h.1) λ⟨v,z,_⟩=>by rw[e] at z;cases z
    exact no.elim
   |Yp e q=>refine Wm q (λr s₁ hq=>?_) λa a z=>z;have t:=zD S hL ha hw e h hq;rw[t.1];exact wpAny_pure (hR _ t.2)
   |Ym u e q=>
    have d:W.ex body [] [(enc y,u)] J (wR (kz nx (λv J Q'=>W.ex body [] [(enc y,v)] J Q') D f (i+1)) ws):=h.elim (λz=>by rw[e] at z;cases z.1) λ⟨v,z,t⟩=>by rw[e] at z;cases z;exact t
    refine Wm q (λr s₁ hq=>?_) λa a z=>z;induction hq with
    |mk v h' t hr hu e' j' hs=>subst hr hu e';refine Wh (wpAny_pure (Wh (Yq (of (gF V.hE hy h0 (S.but (t:=t) Fq hs (hC _ _ j')) λs₂ S₂ k₂=>?_)))));rw[hρ] at S₂;refine y9 hJ hT S₂ ?_ ((k₂ _ Dk).trans ((hs.2 _ (Qh V.l2)).trans ha)) hw hz (hJ _ _ _ (k₂ _ Fq) j') d λs' z=>.inl ⟨rfl,f,M9 _,z⟩;refine ae hL λsl hL=>?_;exact⟨sl,(k₂ _ Fx).trans ((hs.2 _ (Nd V.l1)).trans hL)⟩
end CW
end
end Wc
variable{t:Nat}{s₀:Ml}
namespace Wc
def nY(e:MX)(y:Nn)(yp ip:Qv)(ifs:List MX)(elt:MX):Prop:=∀(it acc:Md)(env:VC),UI e 0 it acc env=(OV ip>>=λa=>QC it>>=λr=>match r with
 |none=>NN (.done .next)
 |some v=>OQ (.Name y yp) it v>>=λa=>Rb (.Name y yp) env v>>=λa=>ZD ifs elt acc (.compLoop e 0 it acc env) env)
theorem BF:nY (.ListComp elt [⟨.Name y yp,iter,[],0⟩] scope pos) y yp iter.pos [] elt:=λit acc env=>vm elt (.Name y yp) iter scope pos it acc env
theorem Cb{t:MX}:nY (.ListComp elt [⟨.Name y yp,iter,[t],0⟩] scope pos) y yp iter.pos [t] elt:=λit acc env=>u5 elt (.Name y yp) iter t scope pos it acc env
section
variable{X:CX}{W:Cn X}{k c c1 body:T}{st:List Md}{Q:Out->Sg->Prop}
theorem uz{k8:P8}(hio:k8.isFreed=Mg)(hsb:NC ((s₁.heap.push k8).push kS).objs.size (((s₁.heap.push k8).push kS).push {cls:=.type "dict",data:=.dict #[]}) h'):(∀b o,s₁.heap.get? b=Mc o->h'.get? b=Mc o)/\h'.get? s₁.heap.objs.size=Mc k8/\h'.get? (s₁.heap.objs.size+1)=Mc kS:=by
 have z1:(s₁.heap.push k8).objs.size=s₁.heap.objs.size+1:=OB _ _;have z2:((s₁.heap.push k8).push kS).objs.size=s₁.heap.objs.size+1+1:=by rw[OB,z1]
 rw[z2] at hsb;refine⟨λb o e=>?_,?_,?_⟩;·exact(hsb.2 b (Nd (NY (NY (Nz e))))).trans (MD _ (MD _ (MD _ e)))
 ·exact(hsb.2 _ (Nd (NY (M9 _)))).trans (MD _ (MD _ (MR _ hio)))
 ·exact(hsb.2 _ (Nd (M9 _))).trans (MD _ (by rw[<-z1];exact MR _ rfl))
theorem xC{V:CW W X'}{mo:Nn->Option Md}(hno:s₀.heap.Ns W.L mo)(hLo:s₀.heap.get? W.L=Mc V.oL)(hmo:dJ mo ρ)(h:V.CE (λws J'=>∀x,J' x=Mq->W.ex k (.ref x::st) ρ (upd J' x (.list ws)) Q) s):CR V.L' V.acc (W.PK ρ k st Q) (.ok .next) s:=by
 induction h with
 |mk ws J ρ' ys m S hL ha hw d=>
  refine ae hL λsl hL=>?_;refine ae hno λo z22=>?_;refine ae z22 λes z23=>?_;refine ae z23 λep z24=>?_;obtain⟨q,r⟩:=z24;rw[hLo] at q;cases q;have nL':=V.l3;have nLA:=QZ V.l1 V.l2;have Dk:V.acc∈[V.L',V.acc]:=MU _ (MT ..);have S2:W.Sp [V.L',V.acc] J ρ s:=S.W7 (MT ..) ⟨_,es,ep,hL,r⟩ hmo λa ha=>by
   refine Pj (MS.mp ha) (λzz=>?_) (λha=>?_);rw[zz];·exact⟨.inl rfl,Qh (QZ nLA nL')⟩
   ·rw[MM.mp ha];exact⟨.inr (MU _ (MT ..)),Qh nLA⟩
  induction S with
  |mk g m' _ _ ns=>refine⟨_,m',rfl,ns,λh'' m'' hn'' hs''=>?_⟩;have t:=(S2.but (t:=s.toks) (MT ..) hs'' (by refine ae hn'' λo z19=>?_;refine ae z19 λa z20=>?_;refine ae z20 λa z21=>?_;obtain⟨z,_⟩:=z21;exact⟨o,z⟩)).aa0 Dk V.hfa ((hs''.2 _ (Nd nL')).trans ha) hw;exact⟨_,t.2,d _ t.1⟩
theorem tC(F:jU X.scope scope (cW X scope).scope y)(hT:gI (cW X scope) ifs elt body)(hden:nY (.ListComp elt [⟨.Name y yp,iter,ifs,0⟩] scope pos) y yp iter.pos ifs elt)(x:W.St J ρ s₁){k8:P8}(hio:k8.isFreed=Mg)(hJ:∀i h h',h'.get? s₁.heap.objs.size=h.get? s₁.heap.objs.size->Lz i h->Lz i h')(hC:∀i h,Lz i h->∃o,h.get? s₁.heap.objs.size=Mc o)(hit:∀(s:Ml),Lz 0 s.heap->∀(E:Md->Ml->Prop)(Q:Md->Ml->Prop),Q (.ref s₁.heap.objs.size) s->Mx (Mj W.Z.prog W.Z.w) W.A (Tq (.ref s₁.heap.objs.size)) Q E s)(next:∀(L':Mk)(own:List Mk) i ρ J s,Sp W.Z W.Φ own J L' ρ s->Lz i s.heap->yu W s₁.heap.objs.size nx Lz i J s)(hf:f<=100001)(j:Lz 0 (s₁.heap.push k8))(h:kz nx (λv J Q'=>W.ex body [] [(enc y,v)] J Q') (λws J'=>∀x,J' x=Mq->W.ex k (.ref x::st) ρ (upd J' x (.list ws)) Q) f 0 [] J):xm (Mj W.Z.prog W.Z.w) W.A W.env (.ListComp elt [⟨.Name y yp,iter,ifs,0⟩] scope pos) scope (W.PK ρ k st Q) (.ref s₁.heap.objs.size) {s₁ with heap:=s₁.heap.push k8,toks:=t}:=by
 intro cs h' hcs hcs2 hn hsb;obtain z18:=uz hio hsb;have k1:=z18.1;have k3:=z18.2.2;have z1:(s₁.heap.push k8).objs.size=s₁.heap.objs.size+1:=OB _ _;have z2:((s₁.heap.push k8).push kS).objs.size=s₁.heap.objs.size+1+1:=by rw[OB,z1]
 dsimp only at hn ⊢;rw[z2] at hn ⊢;rw[z1];obtain⟨mo,oL,hno,hmo,hLo,hod⟩:∃(m:Nn->Option Md) (oL:P8),s₁.heap.Ns W.L m/\dJ m ρ/\s₁.heap.get? W.L=Mc oL/\∀vs,oL.data≠.fields vs:=by
  induction x with
  |mk g m I hgL hns hm=>refine ae (id hns) λo z15=>?_;refine ae z15 λb z16=>?_;refine ae z16 λb z17=>?_;have q:=z17.1;have q2:=z17.2.1;exact⟨m,o,hns,hm,q,λvs z=>by rw[q2] at z;cases z⟩
 have hlt:=Nz hLo;let V:CW W (cW X scope):=⟨s₁.heap.objs.size+1+1,s₁.heap.objs.size,s₁.heap.objs.size+1,oL,i6 W.env scope (s₁.heap.objs.size+1+1) cs,rfl,⟨pv W.hE scope,F.1,rfl,W.hE.4,W.hE.5⟩,λx hx=>by obtain z14:=F.7 x hx;refine ga (W.cell x z14.2) λa o v z13=>?_;refine ae (NS.mp (hcs2 x z14.1)) λa' ha'=>?_;have:=hcs x a' ha';rw[z13.1] at this;cases this;exact⟨a,o,v,ha',z13.2⟩,hod,x.XZ (MC _),x.XZ (Qe _),hlt,M9 _,M9 _⟩;have S0:V.Sp V.own J [] {s₁ with heap:=h',toks:=t}:=by
  refine(x.aaG (own:=[s₁.heap.objs.size+1+1,s₁.heap.objs.size,s₁.heap.objs.size+1]) (t:=t) k1 λa ha=>?_).W7 (MT ..) hn (λb=>rfl) λa ha=>?_
  ·refine Pj (MS.mp ha) (λzz=>?_) (λha=>?_);rw[zz];·refine ae hn λo z10=>?_;refine ae z10 λb z11=>?_;refine ae z11 λb z12=>?_;obtain⟨q,_⟩:=z12;exact⟨Np (NY (M9 _)),o,q⟩
   ·refine Pj (MS.mp ha) (λzz=>?_) (λha=>?_);rw[zz];·exact⟨MC _,_,z18.2.1⟩
    ·rw[MM.mp ha];exact⟨Qe _,_,k3⟩
  ·refine Pj (MS.mp ha) (λzz=>?_) (λha=>?_);rw[zz];·exact⟨.inl rfl,Nd (NY (NY hlt))⟩
   ·exact⟨.inr (MU _ ha),by
     refine Pj (MS.mp ha) (λzz=>?_) (λha=>?_);rw[zz];·exact Nd (NY (M9 _))
     ·rw[MM.mp ha];exact Nd (M9 _)⟩
 have jj:Lz 0 h':=hJ _ _ _ (z18.2.1.trans (MR _ hio).symm) j;exact pH (λE Q hq=>hit _ jj E Q hq) (CW.aaX (V:=V) hJ hC F.5 F.6 hT (hden _ _ _) rfl rfl rfl (λi ρ J s S jv=>next _ _ i ρ J s S jv) (λs' z=>xC hno hLo hmo z) (f:=f) ⟨0,[],J,[],#[],0,S0,λb=>rfl,⟨oL.slots,k1 _ _ hLo⟩,k3,rfl,by rw[Pc,Om];exact hf,jj,h⟩)
theorem ot(W:Cn X)(F:jU X.scope scope (cW X scope).scope y):∀x∈scope.names,x.2=.free->∃a,W.env.cells.lookup x.1=Mc a:=λx hx hq=>by refine ga (W.cell x.1 (F.3 x hx hq)) λa o v z9=>?_;exact⟨a,z9.1⟩
theorem Ap(hok:kr X scope y=Mh)(hs:YD iter=Mg)(hT:gI (cW X scope) ifs elt body)(hden:nY (.ListComp elt [⟨.Name y yp,iter,ifs,0⟩] scope pos) y yp iter.pos ifs elt)(hi:aP X iter (.Xn Mg (enc y) body k) c):aP X (.ListComp elt [⟨.Name y yp,iter,ifs,0⟩] scope pos) k c:=λW ρ J s st Q x e=>by
 have F:=oj hok;refine nX (ot W F) F.2 F.1 (by rw[pv W.hE];exact F.4) hs (Cn.step (hi W _ _ _ _ _ x e) λv J s x e=>?_);refine ga e λst' nx f z8=>?_;rw[z8.2.1.1];have hsrc:=z8.2.1.2;have h:=z8.2.2;refine ae (fZ.inv hsrc) λa z7=>?_;rw[z7.1];have hsrc:=z7.2;have hx:∃xs,nE s.heap "list" a xs:=hsrc.elim (λz=>z.1.elim λxs hx=>⟨xs,aw x hx⟩) λ⟨xs,hx,_⟩=>⟨xs,x.Yk W.hb (W.B.6 a xs hx)⟩;refine ae hx λxs z6=>?_;obtain⟨ys,m,z1,z2,_⟩:=z6;refine of (P5 ⟨_,z1,rfl,m,rfl⟩ (tC (t:=s.toks) (Lz:=λi h=>h.IsListIter s.heap.objs.size a i) F hT hden x rfl (λi h h' e ⟨o,q⟩=>⟨o,e.trans q.1,q.2⟩) (λi h ⟨o,q⟩=>⟨o,q.1⟩) (λs' j E Q hq=>wpAny_pyIter_listiter j hq) (λL' own i ρ J s' S j=>?_) z8.1 ⟨_,MR _ rfl,rfl,rfl⟩ h));rcases hsrc with⟨_,rfl⟩|⟨xs,hx,rfl⟩
 ·exact mD (λxs e=>aw S.st (jH e)) (λys n z1 q=>of (Q4 W.hr.2.2.1 j ⟨_,z1,rfl,n,rfl⟩ q λh' he=>⟨h',rfl,rfl,he⟩))
   λys n v z1 q=>of (QY j ⟨_,z1,rfl,n,rfl⟩ q λh' j' hs=>⟨v,h',s'.toks,rfl,rfl,rfl,j',hs⟩)
 ·obtain⟨ys,n,z1,z2,_⟩:=S.st.Yk W.hb (W.B.6 a xs hx);have e:AM xs i J=Mc ((ys[i]?).map λv=>[er v]):=by unfold AM;rw[<-z2,ML,Ol];cases ys[i]?<;>rfl
  cases hq:ys[i]? with
  |none=>rw[hq] at e;exact .Yp e (of (Q4 W.hr.2.2.1 j ⟨_,z1,rfl,n,rfl⟩ hq λh' he=>⟨h',rfl,rfl,he⟩))
  |some v=>rw[hq] at e;exact .Ym _ e (of (QY j ⟨_,z1,rfl,n,rfl⟩ hq λh' j' hs=>⟨v,h',s'.toks,rfl,rfl,rfl,j',hs⟩))
theorem zO{g:Nn}{gp fp:Qv}{a b:MX}(hg:ax X g (.type "range")/\dw g)(hok:kr X scope y=Mh)(hT:gI (cW X scope) ifs elt body)(hden:nY (.ListComp elt [⟨.Name y yp,iter,ifs,0⟩] scope pos) y yp iter.pos ifs elt)(hit:iter=.Call (.Name g gp) [a,b] [] fp)(hi:dH X [a,b] (.Xn Mh (enc y) body k) c):aP X (.ListComp elt [⟨.Name y yp,iter,ifs,0⟩] scope pos) k c:=λW ρ J s st Q x e=>by
 subst hit;have F:=oj hok;refine nX (ot W F) F.2 F.1 (by rw[pv W.hE];exact F.4) rfl (cM x hg λf s₁ hf x₁=>?_);rw[bJ hf];refine ca x₁ hi e (.inl λd=>nofun) λvs J' s' l x' e'=>?_;refine bI (dM l) λva vb z5=>?_;obtain rfl:=z5;refine ga e' λst' nx f z4=>?_;obtain rfl:=z4.2.1.1;have h:=z4.2.2;refine vx (ints.inv z4.2.1.2) λa t b u z3=>?_;rw[z3.1];rw[z3.2.1];obtain rfl:=z3.2.2.2;exact of (call_range_2 (of (wpAny_pyIter_range (MR _ rfl) (oo (.inl rfl) z3.2.2.1.1 z3.2.2.1.2.1 z3.2.2.1.2.2.1 z3.2.2.1.2.2.2) (tC (t:=s'.toks+1) (Lz:=RJ (s'.heap.push _).objs.size a 1 _) F hT hden (x'.Wx _ (s'.toks+1)) rfl (λi h h' e z=>⟨z.1,e.trans z.2⟩) (λi h z=>⟨_,z.2⟩)
  (λs'' j E Q hq=>Yn j.2 hq) (λL' own i ρ J s'' S z=>mV (congrArg (λz:Option Md=>Mc (z.map λv=>[v])) (rH a b Mg i)) z) z4.1 (kA (mz (.inl rfl))) h))))
end
end Wc
variable{k:Nat}{x:Md}{vs kept:Array Md}{items:Mk->Array Md}{ps:List (Mk×Mk)}{TI TO:Mk}{ls:List Mk}
namespace Zi
noncomputable abbrev nR(h:Ox)(T:Mk)(vs:Array Md):Prop:=h.get? T=Mc {cls:=.type "tuple",data:=.seq vs}
inductive iO(z TI TO:Mk)(ps:List (Mk×Mk)):Prop where
 |mk(TIz:TI≠z)
  (TOz:TO≠z)
  (TITO:TI≠TO)
  (it:∀p∈ps,p.1≠z/\p.1≠TI/\p.1≠TO/\p.2≠z/\p.2≠TO/\∀q∈ps,p.2≠q.1)
  (nd:∀(i j:Nat)(p q:Mk×Mk),ps[i]?=Mc p->ps[j]?=Mc q->i≠j->p.1≠q.1)
inductive x4(h:Ox)(z TI TO:Mk)(f0:Md)(ps:List (Mk×Mk))(items:Mk->Array Md)(pr:Nat->Nat)(kept:Array Md):Prop where
 |mk(z:IsZip h z TI TO f0)
  (ti:nR h TI (ps.map λp=>MJ p.1).toArray)
  (to:nR h TO kept)
  (n:kept.size=ps.length)
  (it:∀j p,ps[j]?=Mc p->h.IsListIter p.1 p.2 (pr j)/\h.IsList p.2 (items p.2))
noncomputable def Kp(z TO:Mk)(ps:List (Mk×Mk))(h h':Ox):Prop:=∀c o,c≠z->c≠TO->(∀p∈ps,c≠p.1)->h.get? c=Mc o->h'.get? c=Mc o
theorem BE{T:Mk}{Q:Unit->Ml->Prop}(hT:nR s.heap T vs)(hz:vs.size<=100)(h:∀h',nR h' T (vs.setIfInBounds k x)->NC T s.heap h'->Q () {s with heap:=h'}):Mx (Mj prog w) A (updateSeq T (·.setIfInBounds k x)) Q E s:=by refine wpAny_updateSeq hT rfl (h _ ?_ (OD ..)) (hz:=by rw[NK];exact db hz rfl);have:=Nf (V9 (·.setIfInBounds k x)) hT rfl;show(s.heap.update T _).get? T=_;rw[this];simp[V9]
abbrev zL(ps:List (Mk×Mk)):List (Md×Nat):=(ps.map λp=>MJ p.1).toArray.toList.zipIdx
theorem EE{x:Md×Nat}{rest:List (Md×Nat)}(h:x::rest=(zL ps).drop k):∃p,ps[k]?=Mc p/\x=(.ref p.1,k)/\rest=(zL ps).drop (k+1):=by
 have hl:(zL ps).length=ps.length:=by simp[zL]
 rcases Nat.lt_or_ge k ps.length with q|q
 ·have hk:k<(zL ps).length:=by rw[hl];exact q
  rw[Og hk] at h;injection h with e1 e2
  refine⟨ps[k],MG q,e1.trans ?_,e2⟩;simp[zL,List.getElem_zipIdx]
 ·rw[QV (by rw[hl];exact q)] at h;cases h
theorem C9(hk:k<=ps.length)(h:[]=(zL ps).drop k):k=ps.length:=by have:=congrArg VP h;rw[Pn,show(zL ps).length=ps.length by simp[zL]] at this;exact Ug hk (Nat.le_of_sub_eq_zero this.symm)
inductive ZL(s:Ml)(z TI TO:Mk)(ps:List (Mk×Mk))(items:Mk->Array Md)(i j:Nat)(s':Ml):Prop
 |mk (h':Ox) (kept:Array Md):s'={s with heap:=h'}->x4 h' z TI TO .ellipsis ps items (λj'=>if j' < j then i+1 else i) kept->(∀(j':Nat)(p:Mk×Mk),j' < j->ps[j']?=Mc p->∃x,(items p.2)[i]?=Mc x/\kept[j']?=Mc x)->Kp z TO ps s.heap h'->h'.objs.size=s.heap.objs.size->ZL s z TI TO ps items i j s'
section
variable{z:Mk}
theorem ZL.Xm{h₂ h₃:Ox}{kept':Array Md}{p:Mk×Mk}(D:iO z TI TO ps)(hp:ps[k]?=Mc p)(Z:x4 h' z TI TO .ellipsis ps items (λj'=>if j' < k then i+1 else i) kept')(hd:∀(j':Nat)(p:Mk×Mk),j' < k->ps[j']?=Mc p->∃x,(items p.2)[i]?=Mc x/\kept'[j']?=Mc x)(hk:Kp z TO ps s.heap h')(hsz:h'.objs.size=s.heap.objs.size)(hx:(items p.2)[i]?=Mc x)(h1:h₂.IsListIter p.1 p.2 (i+1))(hs₂:NC p.1 h' h₂)(hTO:nR h₃ TO (kept'.setIfInBounds k x))(hs₃:NC TO h₂ h₃):ZL s z TI TO ps items i (k+1) {s with heap:=h₃}:=by
 have hpm:=MO hp;have d:=D.4 p hpm;have up:∀c o,c≠p.1->c≠TO->h'.get? c=Mc o->h₃.get? c=Mc o:=λc o c1 c2 q=>hs₃.extBut _ _ c2 (hs₂.extBut _ _ c1 q);have hlt:k<ps.length:=(MK.mp hp).1;refine⟨h₃,_,rfl,⟨up _ _ (Qi d.1) (Qi D.2) Z.1,up _ _ (Qi d.2.1) D.3 Z.2,hTO,by rw[Array.size_setIfInBounds];exact Z.4,λj' p' hp'=>?_⟩,λj' p' hj' hp'=>?_,λc o c1 c2 c3 q=>up c o (c3 p hpm) c2 (hk c o c1 c2 c3 q),by rw[hs₃.1,hs₂.1];exact hsz⟩
 ·have a:=Z.5 j' p' hp';have q:=D.4 p' (MO hp');refine⟨?_,a.2.at λo z=>up _ o (q.2.2.2.2.2 p hpm) q.2.2.2.2.1 z⟩;by_cases hjj:j'=k;·subst hjj;rw[hp] at hp';cases hp';rw[if_pos (M9 _)];exact h1.at λo z=>hs₃.extBut _ o q.2.2.1 z
  ·have e:(if j' < k+1 then i+1 else i)=(if j' < k then i+1 else i):=by
    by_cases q:j' < k;·rw[if_pos q,if_pos (NY q)]
    ·rw[if_neg q,if_neg (λz=>q (QI (Nat.le_of_lt_succ z) hjj))]
   rw[e];exact a.1.at λo z=>up _ o (D.5 j' k p' p hp' hp hjj) q.2.2.1 z
 ·rw[RQ];by_cases hjj:j'=k;·subst hjj;rw[hp] at hp';cases hp';exact⟨x,hx,by rw[if_pos rfl,if_pos (by rw[Z.4];exact hlt)]⟩
  ·rw[if_neg (Qi hjj)];exact hd j' p' (QI (Nat.le_of_lt_succ hj') hjj) hp'
theorem x4.up{h₈:Ox}{f:Md}(D:iO z TI TO ps)(Z:x4 h' z TI TO .ellipsis ps items (λj'=>if j' < ps.length then i+1 else i) kept)(hz:IsZip h₈ z TI TO f)(up:∀c o,c≠z->h'.get? c=Mc o->h₈.get? c=Mc o):x4 h₈ z TI TO f ps items (λb=>i+1) kept:=
 ⟨hz,up _ _ D.1 Z.2,up _ _ D.2 Z.3,Z.4,λj' p' hp'=>by have a:=Z.5 j' p' hp';have q:=D.4 p' (MO hp');rw[if_pos (MK.mp hp').1] at a;exact⟨a.1.at λo z=>up _ o q.1 z,a.2.at λo z=>up _ o q.2.2.2.1 z⟩⟩
def NQ(z TI TO:Mk)(ps:List (Mk×Mk))(items:Mk->Array Md)(i:Nat)(s:Ml)(Q:Md->Ml->Prop):Prop:=∀h' T vals,T=s.heap.objs.size->x4 h' z TI TO (Wb T) ps items (λa=>i+1) vals->nR h' T vals->(∀(j:Nat)(p:Mk×Mk),ps[j]?=Mc p->∃x,(items p.2)[i]?=Mc x/\vals[j]?=Mc x)->Kp z TO ps s.heap h'->Q (.ref T) {s with heap:=h'}
def NE(z TO:Mk)(ps:List (Mk×Mk))(items:Mk->Array Md)(i:Nat)(s:Ml)(E:Md->Ml->Prop):Prop:=∀h' e,(∃p∈ps,(items p.2)[i]?=Mq)->Kp z TO ps s.heap h'->(∃o,h'.get? e=Mc o/\o.cls=.type "StopIteration")->E (.ref e) {s with heap:=h'}
theorem ww{R:Fin->Ml->Prop}{s':Ml}(D:iO z TI TO ps)(hn:ps.length<=10)(Z:ZL s z TI TO ps items i ps.length s')(hQ:NQ z TI TO ps items i s Q)(hR:∀v s',Q v s'->R (.done (.ret v)) s')(kept:Array Md)(hk:nR s'.heap TO kept):Mx (Mj prog w) A (Ux kept.toList>>=λv=>Builtin.SmallTypes.ownedTupleHandOut (.ref z) v>>=λa=>ret v) R E s':=by
 induction Z with
 |mk h' kept' e Z hd hkp hsz=>
  subst e;have:kept=kept':=by have:=hk.symm.trans Z.3;cases this;rfl
  subst this;have hks:kept.toList.length<=100:=by rw[NB,Z.4];exact Nj hn (by decide)
  refine Mf ?_;unfold Ux;refine Pd ?_ (by show kept.toList.toArray.size<=Sv;rw[NK,Oi];exact Nj hks (by decide));rw[RM];refine Mf ?_;have hz₆:IsZip (h'.push {cls:=.type "tuple",data:=.seq kept}) z TI TO .ellipsis:=MD _ Z.1;refine Mf (QJ hz₆ (by simp) λh₇ hz₇ hs₇=>QJ (show IsZip h₇ z TI TO (Wb h'.objs.size) from hz₇) (by simp) λh₈ hz₈ hs₈=>Mz (hR _ _ ?_));have up:∀c o,c≠z->h'.get? c=Mc o->h₈.get? c=Mc o:=λc o c1 e=>hs₈.extBut _ _ c1 (hs₇.extBut _ _ c1 (MD _ e));have hne:h'.objs.size≠z:=Qi (Nd (Nz Z.1));exact hQ h₈ h'.objs.size kept hsz (Z.up D hz₈ up) (hs₈.extBut _ _ hne (hs₇.extBut _ _ hne (MR _ rfl))) (λj p hp=>hd j p (MK.mp hp).1 hp) λc o c1 c2 c3 q=>up c o c1 (hkp c o c1 c2 c3 q)
theorem uw{R:Fin->Ml->Prop}(hh:A.handled=Mq)(D:iO z TI TO ps)(h0:ps≠[])(hn:ps.length<=10)(H:x4 s.heap z TI TO .none ps items (λf=>i) kept)(hQ:NQ z TI TO ps items i s Q)(hR:∀v s',Q v s'->R (.done (.ret v)) s')(hE:NE z TO ps items i s E):Mx (Mj prog w) A (Builtin.«zip.__next__» ⟨[.ref z],[]⟩) R E s:=by
 have hne:((ps.map λp=>MJ p.1).toArray).isEmpty=false:=by
  induction ps with
  |nil=>exact absurd rfl h0
  |cons a l=>rfl
 show Mx _ _ (field (.ref z) 2>>=_) _ _ _;refine Mf (Te H.1 rfl (x:=.bool Mg) rfl ?_);show Mx _ _ (field (.ref z) 3>>=_) _ _ _;refine Mf (Te H.1 rfl (x:=.ref TI) rfl ?_);refine Mf (SO H.2 rfl ?_);dsimp only;rw[hne,if_neg O2];refine Mf ?_;unfold Builtin.SmallTypes.ownedTupleIsFree;refine Mf (Te H.1 rfl (x:=.none) rfl (Mz ?_));refine Mf (Px ?_);refine Mf (Te H.1 rfl (x:=.ref TO) rfl ?_);refine Mf (QJ H.1 (by simp) λh₁ hz₁ hs₁=>?_);have start:ZL s z TI TO ps items i 0 {s with heap:=h₁}:=⟨h₁,kept,rfl,⟨hz₁,hs₁.extBut _ _ D.1 H.2,hs₁.extBut _ _ D.2 H.3,H.4,λj p hp=>by have a:=H.5 j p hp;have q:=D.4 p (MO hp);rw[if_neg (Qy _)];exact⟨a.1.at λo z=>hs₁.extBut _ o q.1 z,a.2.at λo z=>hs₁.extBut _ o q.2.2.2.1 z⟩⟩,λf f z=>absurd z (Qy _),λc o c1 f f e=>hs₁.extBut _ _ c1 e,hs₁.1⟩;refine Mf (wpAny_forIn_list _ (λrest b s'=>b=((Mq:Option Fin),())/\∃j,j<=ps.length/\rest=(zL ps).drop j/\ZL s z TI TO ps items i j s') _ (λx rest b s' hI=>?_) (λb s' hI=>?_) _ _ ⟨rfl,0,Nb _,rfl,start⟩)
 ·rw[hI.1];refine ae hI.2 λk z10=>?_;have hZ:=z10.2.2;refine ae (EE z10.2.1) λp z9=>?_;rw[z9.2.1];have hpm:=MO z9.1;induction hZ with
  |mk h' kept' e Z hd hk hsz=>
   rw[e];have a:=Z.5 k p z9.1;rw[if_neg (Ry _)] at a;have d:=D.4 p hpm;refine Mf (wpAny_onRaise ?_);show Mx _ _ (Builtin.SmallTypes.nextOf (.ref p.1)>>=_) _ _ _;cases hx:(items p.2)[i]? with
   |none=>refine Mf (wpAny_nextOf_list_end hh a.1 a.2 hx λh₂ e hs₂ he=>?_);have hz₂:IsZip h₂ z TI TO .ellipsis:=hs₂ _ _ (Qi d.1) Z.1;refine QJ hz₂ (by simp) λh₃ f hs₃=>hE h₃ e ⟨p,hpm,hx⟩ (λc o c1 c2 c3 q=>hs₃.extBut _ _ c1 (hs₂ _ _ (c3 p hpm) (hk c o c1 c2 c3 q))) ?_;refine ae he λoe z8=>?_;obtain⟨hoe,hce⟩:=z8;exact⟨oe,hs₃.extBut _ _ (λx=>by subst x;rw[hz₂] at hoe;cases hoe;simp at hce) hoe,hce⟩
   |some x=>refine Mf (wpAny_nextOf_list_item a.1 a.2 hx λh₂ h1₂ hs₂=>Mz ?_);have hTO₂:nR h₂ TO kept':=hs₂.extBut _ _ (Qi d.2.2.1) Z.3;refine Mf (SO hTO₂ rfl (Mf (BE hTO₂ (by rw[Z.4];exact Nj hn (by decide)) λh₃ hTO₃ hs₃=>Mf (UD (Mz ?_)))));exact⟨rfl,k+1,(MK.mp z9.1).1,z9.2.2,ZL.Xm D z9.1 Z hd hk hsz hx h1₂ hs₂ hTO₃ hs₃⟩
 ·rw[hI.1];refine ae hI.2 λj z7=>?_;have hZ:=z7.2.2;have:=C9 z7.1 z7.2.1;subst this;have hZ':=hZ;induction hZ with
  |mk h' kept' e Z hd hk hsz=>subst e;exact Mf (SO Z.3 rfl (ww D hn hZ' hQ hR kept' Z.3))
theorem mF{Q:Option Md->Ml->Prop}(hh:A.handled=Mq)(D:iO z TI TO ps)(h0:ps≠[])(hn:ps.length<=10)(H:x4 s.heap z TI TO .none ps items (λa=>i) kept)(hQ:NQ z TI TO ps items i s λv=>Q (Mc v))(hE:∀h',(∃p∈ps,(items p.2)[i]?=Mq)->Kp z TO ps s.heap h'->Q Mq {s with heap:=h'}):Mx (Mj prog w) A (QC (.ref z)) Q E s:=by
 have hT:s.TypeIs (.ref z) "zip":=⟨_,H.1,rfl⟩;unfold QC;refine Mf (wpAny_attempt (OP (name:=OW "__next__") hT F.slot_zip_next
  (Po F.slot_zip_next hT F.entry_zip_next (uw (Q:=λv=>Q (Mc v)) hh D h0 hn H hQ (λv s' q=>⟨_,rfl,Mz q⟩) λh' e a1 a2 a3=>?_) (F.args_zip_next_1 _))))
 refine ae a3 λo z6=>?_;exact Mf (Ql (T:="StopIteration") (b:=Mh) ⟨o,z6.1,z6.2⟩ isSubtype_stop (Mz (hE h' a1 a2)))
theorem uB(a b c:Md):checkTypeCall "zip" ⟨[a,b,c],[]⟩=NN ():=by kernel_rfl
theorem vD(a b c:Md):NP "zip.__new__" ⟨[.type "zip",a,b,c],[]⟩=NN ():=by kernel_rfl
theorem DN(a b c d:Md):Sy "object.__init__" ⟨[a,b,c,d],[]⟩:=by unfold Sy;rw[signature?_of (id:="object.__init__") (n:=['_','_','t','i','n','i','_','_']) (o:=['t','c','e','j','b','o']) (by kernel_rfl) F.owner_object];kernel_rfl
noncomputable abbrev k8(l:Mk):Obj:={cls:=.type "list_iterator",data:=.fields #[.ref l,.int 0 0]}
noncomputable abbrev Dj(vs:Array Md):Obj:={cls:=.type "tuple",data:=.seq vs}
noncomputable abbrev GH(TI TO:Mk):Obj:={cls:=.type "zip",data:=.fields #[.none,.bool Mg,.bool Mg,.ref TI,.ref TO]}
set_option maxRecDepth 100000 in
set_option maxHeartbeats 4000000 in
theorem Cd(l1 l2 l3:Mk)(xs ys zs:Array Md):Meets (Builtin.«zip.__new__» ⟨[.type "zip",.ref l1,.ref l2,.ref l3],[]⟩) (λa R s=>s.heap.IsList l1 xs/\s.heap.IsList l2 ys/\s.heap.IsList l3 zs/\ ∀h1 h2 h3 h4 h5 h6,h1=s.heap.push (k8 l1)->h2=h1.push (k8 l2)->h3=h2.push (k8 l3)->h4=h3.push (Dj #[.ref s.heap.objs.size,.ref h1.objs.size,.ref h2.objs.size])->h5=h4.push (Dj #[.none,.none,.none])->h6=h5.push (GH h3.objs.size h4.objs.size)-> R (.ok (.ret (.ref h5.objs.size))) {s with heap:=h6}):=
 .of_wp λprog w A R s h=>by obtain⟨hp,g,d,tk,os⟩:=s;have hl1:=h.1;have hl2:=h.2.1;have hl3:=h.2.2.1;have h:=h.2.2.2;have hsub:=sub_zip;have hL1:VT (VS ⟨hp,g,d,tk,os⟩) l1 xs:=hl1;have hL2:VT (VS ⟨hp.push (k8 l1),g,d,tk,os⟩) l2 ys:=TR hl2 _;have hL3:VT (VS ⟨(hp.push (k8 l1)).push (k8 l2),g,d,tk,os⟩) l3 zs:=TR (TR hl3 _) _;wp_walk using P5 hL1,P5 hL2,P5 hL3;exact⟨_,rfl,h _ _ _ _ _ _ rfl rfl rfl rfl rfl rfl⟩
theorem DU{l1 l2 l3:Mk}{xs:Array Md}(hl1:s.heap.IsList l1 xs)(hl2:s.heap.IsList l2 ys)(hl3:s.heap.IsList l3 zs)(h:∀h' n,n=s.heap.objs.size->h'.get? n=Mc (k8 l1)->h'.get? (n+1)=Mc (k8 l2)->h'.get? (n+2)=Mc (k8 l3)->h'.get? (n+3)=Mc (Dj #[.ref n,.ref (n+1),.ref (n+2)])-> h'.get? (n+4)=Mc (Dj #[.none,.none,.none])->h'.get? (n+5)=Mc (GH (n+3) (n+4))->(∀c o,s.heap.get? c=Mc o->h'.get? c=Mc o)->Q (.ref (n+5)) {s with heap:=h'}):Mx (Mj prog w) A (OG (.type "zip") [.ref l1,.ref l2,.ref l3]) Q E s:=by
 refine callType_new F.called_zip (by decide) (uB _ _ _) (vD _ _ _) (λobj=>DN obj _ _ _) F.entry_zip_new (Cd l1 l2 l3 xs ys zs) ⟨hl1,hl2,hl3,?_⟩;rintro h1 h2 h3 h4 h5 h6 e1 e2 e3 e4 e5 e6;have z1:h1.objs.size=s.heap.objs.size+1:=by rw[e1];exact OB ..
 have z2:h2.objs.size=s.heap.objs.size+2:=by rw[e2,OB,z1]
 have z3:h3.objs.size=s.heap.objs.size+3:=by rw[e3,OB,z2]
 have z4:h4.objs.size=s.heap.objs.size+4:=by rw[e4,OB,z3]
 have z5:h5.objs.size=s.heap.objs.size+5:=by rw[e5,OB,z4]
 rw[z1,z2] at e4;rw[z3,z4] at e6;have g6:h6.get? (s.heap.objs.size+5)=Mc (GH (s.heap.objs.size+3) (s.heap.objs.size+4)):=by rw[e6,<-z5];exact MR _ rfl
 have k6:∀c o,h5.get? c=Mc o->h6.get? c=Mc o:=λc o q=>by rw[e6];exact MD _ q
 have k5:∀c o,h4.get? c=Mc o->h6.get? c=Mc o:=λc o q=>k6 _ _ (by rw[e5];exact MD _ q);have k4:∀c o,h3.get? c=Mc o->h6.get? c=Mc o:=λc o q=>k5 _ _ (by rw[e4];exact MD _ q);have k3:∀c o,h2.get? c=Mc o->h6.get? c=Mc o:=λc o q=>k4 _ _ (by rw[e3];exact MD _ q);have k2:∀c o,h1.get? c=Mc o->h6.get? c=Mc o:=λc o q=>k3 _ _ (by rw[e2];exact MD _ q);have g5:h6.get? (s.heap.objs.size+4)=Mc (Dj #[.none,.none,.none]):=k6 _ _ (by rw[e5,<-z4];exact MR _ rfl);have g4:h6.get? (s.heap.objs.size+3)=Mc (Dj #[.ref s.heap.objs.size,.ref (s.heap.objs.size+1),.ref (s.heap.objs.size+2)]):=k5 _ _ (by rw[e4,<-z3];exact MR _ rfl);have g3:h6.get? (s.heap.objs.size+2)=Mc (k8 l3):=k4 _ _ (by rw[e3,<-z2];exact MR _ rfl);have g2:h6.get? (s.heap.objs.size+1)=Mc (k8 l2):=k3 _ _ (by rw[e2,<-z1];exact MR _ rfl);have g1:h6.get? s.heap.objs.size=Mc (k8 l1):=k2 _ _ (by rw[e1];exact MR _ rfl);rw[z5];exact⟨⟨_,g6,rfl⟩,h h6 _ rfl g1 g2 g3 g4 g5 g6 λc o q=>k2 _ _ (by rw[e1];exact MD _ q)⟩
theorem vj{vs:List α}(h:vs.length=3):oz λv u w=>vs=[v,u,w]:=by
 induction vs with
 |nil=>cases h
 |cons v l=>refine bI (dM (Sf h)) λu w e=>?_;rw[e];exact⟨v,u,w,rfl⟩
theorem wM(hn:ls.length=2∨ls.length=3)(hl:∀l∈ls,s.heap.IsList l (items l))(h:∀h' n kept,n=s.heap.objs.size->x4 h' (n+ls.length+2) (n+ls.length) (n+ls.length+1) .none (((Oh ls.length).map (n+·)).zip ls) items (λa=>0) kept->(∀c o,s.heap.get? c=Mc o->h'.get? c=Mc o)->Q (.ref (n+ls.length+2)) {s with heap:=h'}):Mx (Mj prog w) A (OG (.type "zip") (ls.map MJ)) Q E s:=by
 refine Pj hn (λhn=>?_) (λhn=>?_)
 ·refine bI (dM hn) λl1 l2 e=>?_;subst e;have i1:=hl l1 (MT ..);have i2:=hl l2 (MU _ (MT ..));refine call_zip_2 i1 i2 λh' a1 a2 a3 a4 a5 a6 a7=>?_;refine h h' s.heap.objs.size #[.none,.none] rfl ⟨a1,a2,a3,rfl,λj p hp=>?_⟩ a7;refine(MS.mp (MO hp)).elim (λe=>?_) λe=>?_;·rw[e];exact⟨a4,i1.at λo q=>a7 _ _ q⟩
  ·rw[MM.mp e];exact⟨a5,i2.at λo q=>a7 _ _ q⟩
 ·refine ga (vj hn) λl1 l2 l3 e=>?_;subst e;have i1:=hl l1 (MT ..);have i2:=hl l2 (MU _ (MT ..));have i3:=hl l3 (MU _ (MU _ (MT ..)));refine DU i1 i2 i3 λh' n hn a1 a2 a3 a4 a5 a6 a7=>?_;refine h h' n #[.none,.none,.none] hn ⟨a6,a4,a5,rfl,λj p hp=>?_⟩ a7;refine(MS.mp (MO hp)).elim (λe=>?_) λe=>(MS.mp e).elim (λe=>?_) λe=>?_;·rw[e];exact⟨⟨_,a1,rfl,rfl⟩,i1.at λo q=>a7 _ _ q⟩
  ·rw[e];exact⟨⟨_,a2,rfl,rfl⟩,i2.at λo q=>a7 _ _ q⟩
  ·rw[MM.mp e];exact⟨⟨_,a3,rfl,rfl⟩,i3.at λo q=>a7 _ _ q⟩
end
end Zi
variable{as:List Mk}
namespace Wc
open Internal.Zi
section
variable{X:CX}{W:Cn X}{k kb kb' c:T}{Q:Out->Sg->Prop}
theorem eM{α β:Type}{f:α->Option β}:∀{l:List α}{r:List β},l.mapM f=Mc r->l.map f=r.map Mc
 |[],r,h=>by cases h;rfl
 |a::l,r,h=>by rw[SP] at h;refine ae (My.mp h) λb z22=>?_;obtain⟨hb,h⟩:=z22;refine ae (My.mp h) λr' z21=>?_;obtain⟨hr,h⟩:=z21;rw[<-MI h];rw[Nm,Nm,hb,eM hr]
theorem oT{α β:Type}{f:α->Option β}:∀{l:List α},l.mapM f=Mq->∃x∈l,f x=Mq
 |[],h=>by cases h
 |a::l,h=>by
  rw[SP] at h;cases ha:f a with
  |none=>exact⟨a,MT ..,ha⟩
  |some b=>
   rw[ha] at h;cases hr:l.mapM f with
   |none=>refine ae (oT hr) λx z20=>?_;exact⟨x,MU _ z20.1,z20.2⟩
   |some r=>rw[hr] at h;cases h
theorem gN{r:Option (List Md)}(h:uD as i J=Mc r):∀a∈as,∃xs,(J a).bind WX=Mc xs:=λa ha=>by refine ae (MP.mp h) λxss z19=>?_;obtain⟨h1,_⟩:=z19;have e:=eM h1;have q:(J a).bind WX∈as.map λa=>(J a).bind WX:=NA ha;rw[e] at q;refine ae (ND.mp q) λxs z18=>?_;have z:=z18.2;exact⟨xs,z.symm⟩
theorem qJ{vs:List Md}(h:uD as i J=Mc (Mc vs)):(as.map λa=>((J a).bind WX).bind λxs=>xs[i]?)=vs.map some:=by refine ae (MP.mp h) λxss z17=>?_;obtain⟨h1,h2⟩:=z17;have e:=congrArg (List.map λ(o:Option (List Md))=>o.bind λxs=>xs[i]?) (eM h1);rw[OX,OX] at e;exact e.trans (eM h2)
theorem xD(h:uD as i J=Mc Mq):∃a∈as,∃xs,(J a).bind WX=Mc xs/\xs[i]?=none:=by refine ae (MP.mp h) λxss z16=>?_;have h1:=z16.1;have h2:=z16.2;refine ae (oT h2) λxs z15=>?_;have z:Mc xs∈xss.map some:=NA z15.1;rw[<-eM h1] at z;refine ae (ND.mp z) λa z14=>?_;have ha:=z14.1;have z:=z14.2;exact⟨a,ha,xs,z,z15.2⟩
noncomputable def dL(h:Ox)(a:Mk):Array Value:=(h.get? a).elim #[] λo=>match o.data with|.seq ys _=>ys|_=>#[]
theorem dj(x:W.St J ρ s)(h:(J a).bind WX=Mc xs):(dL s.heap a).toList.map er=xs/\s.heap.IsList a (dL s.heap a):=by
 obtain⟨ys,n,z1,z2,_⟩:=aw x (jH h);have e:dL s.heap a=ys:=by unfold dL;rw[z1];rfl
 rw[e];exact⟨z2,_,z1,rfl,n,rfl⟩
abbrev zo(z TI TO:Mk)(ps:List (Mk×Mk)):List Addr:=z::TI::TO::ps.map (·.1)
theorem AG{z:Mk}{p:Mk×Mk}(h:p∈ps):p.1∈zo z TI TO ps:=by refine .tail _ (.tail _ (.tail _ (NA h)))
theorem wt{z:Mk}(h1:P z)(h2:P TI)(h3:P TO)(h4:∀p∈ps,P p.1):∀a∈zo z TI TO ps,P a:=λa ha=>by
 refine Pj (MS.mp ha) (λzz=>?_) (λha=>?_);rw[zz];·exact h1
 refine Pj (MS.mp ha) (λzz=>?_) (λha=>?_);rw[zz];·exact h2
 refine Pj (MS.mp ha) (λzz=>?_) (λha=>?_);rw[zz];·exact h3
 refine ae (ND.mp ha) λp z13=>?_;obtain⟨hp,rfl⟩:=z13;exact h4 p hp
inductive ZJ(z TI TO:Mk)(ps:List (Mk×Mk))(i:Nat)(h:Ox):Prop
 |mk (kept:Array Md):IsZip h z TI TO .none->nR h TI (ps.map λp=>MJ p.1).toArray->nR h TO kept->kept.size=ps.length->(∀(j:Nat)(q:Mk×Mk),ps[j]?=Mc q->h.IsListIter q.1 q.2 i)->ZJ z TI TO ps i h
variable{z n0:Mk}
theorem ZJ.congr(e:∀a∈zo z TI TO ps,h'.get? a=h.get? a)(H:ZJ z TI TO ps i h):ZJ z TI TO ps i h':=by
 induction H with
 |mk kept a b c d f=>exact⟨kept,(e _ (.head _)).trans a,(e _ (.tail _ (.head _))).trans b,(e _ (.tail _ (.tail _ (.head _)))).trans c,d,λj q hq=>(f j q hq).at λo ho=>(e _ (AG (MO hq))).trans ho⟩
theorem qg{f0:Md}{pr:Nat->Nat}(H:x4 h z TI TO f0 ps items pr kept):∀a∈zo z TI TO ps,∃o,h.get? a=Mc o:=
 wt ⟨_,H.1⟩ ⟨_,H.2⟩ ⟨_,H.3⟩ λp hp=>by refine ae (Qf hp) λj hj=>?_;refine ae ((H.5 j p hj).1) λo z12=>?_;have q:=z12.1;exact⟨o,q⟩
inductive vO(n0:Mk)(ls:List Mk)(ps:List (Mk×Mk)):Prop where
 |mk (to:∀(j:Nat)(p:Mk×Mk),ps[j]?=Mc p->p.1=n0+j/\ls[j]?=Mc p.2)
  (of:∀(j:Nat)(a:Mk),ls[j]?=Mc a->ps[j]?=Mc (n0+j,a))
  (len:ps.length=ls.length)
theorem prs:vO n0 ls (((Oh ls.length).map (n0+·)).zip ls):=by
 refine⟨λj p hp=>?_,λj a ha=>?_,by rw[List.length_zip,Mt,NJ,Nat.min_self]⟩;·rw[Qn] at hp;refine⟨?_,hp.2⟩;have q:=hp.1;rw[ML,Nu (MK.mp hp.2).1] at q;exact(MI q).symm
 ·rw[Qn,ML,Nu (MK.mp ha).1];exact⟨rfl,ha⟩
theorem vO.mem(P:vO n0 ls ps){p:Mk×Mk}(h:p∈ps):n0<=p.1/\p.1<n0+ls.length/\p.2∈ls:=by refine ae (Qf h) λj hj=>?_;have e:=P.1 j p hj;refine⟨e.1▸Of ..,e.1▸Nat.add_lt_add_left (MK.mp e.2).1 _,MO e.2⟩
theorem vO.apart(P:vO n0 ls ps)(hlt:∀a∈ls,a<n0):iO (n0+ls.length+2) (n0+ls.length) (n0+ls.length+1) ps:=by
 refine⟨λzz=>Ce 0x84200270a8267ba8267d35 [] [_,_] zz,λzz=>Ce 0x1084004e1504cf71504cf6e542 [] [_,_] zz,λzz=>Ce 0x42100138a8267ba8267d34 [] [_,_] zz,λp hp=>?_,λi j p q hp hq hij e=>?_⟩;·have a:=P.mem hp;have a1:=a.1;have a2:=a.2.1;have b:=hlt _ a.2.2;exact⟨λzz=>fb 0x211421001e9508e0a0ec2542349c152b [] [_,_,_] zz a2,λzz=>fb 0x845084007a54238283b2a11c151d [] [_,_,_] zz a2,λzz=>fb 0x108a10800f4a847050762542349c152a [] [_,_,_] zz a2,λzz=>fb 0x43284508400a6a0a07c2542349c152b [] [_,_,_] zz b,λzz=>fb 0x219422842005350503e2542349c152a [] [_,_,_] zz b,λq hq=>Nd (Nat.lt_of_lt_of_le b (P.mem hq).1)⟩
 ·rw[(P.1 i p hp).1,(P.1 j q hq).1] at e;exact hij (Nat.add_left_cancel e)
theorem vO.ge(P:vO n0 ls ps):∀a∈zo (n0+ls.length+2) (n0+ls.length) (n0+ls.length+1) ps,n0<=a:=wt (ck 0x4310013854133dc1328 [] [_,_]) (Of _ _) (ck 0x2188009c54133dc1327 [] [_,_]) λp hp=>(P.mem hp).1
theorem xa{tv:Array Md}{vs:List Md}(P:vO n0 ls ps)(x:W.St J ρ s)(h:uD ls i J=Mc (Mc vs))(hs:tv.size=ps.length)(hv:∀(j:Nat)(p:Mk×Mk),ps[j]?=Mc p->∃x,(dL s.heap p.2)[i]?=Mc x/\tv[j]?=Mc x):tv.toList.map er=vs:=by
 have e:=qJ h;have hl:vs.length=ls.length:=by rw[<-Mt (f:=Mc),<-e,Mt]
 apply Tg;intro j;rw[ML,Ol];have e:=congrArg (λl=>l[j]?) e;simp only[ML] at e;cases ha:ls[j]? with
 |none=>rw[Array.getElem?_eq_none (by rw[hs,P.3];exact Qq.mp ha),MZ (by rw[hl];exact Qq.mp ha)];rfl
 |some a=>
  refine ae (hv j _ (P.2 j a ha)) λy z11=>?_;refine ae (gN h a (MO ha)) λxs hx=>?_;rw[ha,Pb,hx,<-(dj x hx).1,NH,ML,Ol,z11.1] at e;rw[z11.2];cases hv:vs[j]? with
  |none=>rw[hv] at e;cases e
  |some v=>rw[hv] at e;exact MI e
theorem tc(P:vO n0 ls ps)(x:W.St J ρ s)(ha:(J a).bind WX=Mc xs):(dL s.heap a)[i]?=Mq↔xs[i]?=none:=by rw[<-(dj x ha).1,ML,Ol,TZ]
theorem vH(P:vO n0 ls ps)(D:iO z TI TO ps)(h0:ps≠[])(h10:ps.length<=10)(hl:es.length=ps.length)(hA:rj X es kb kb')(hn:∀a∈zo z TI TO ps,¬W.Φ.fr a)(S:W.Sp (zo z TI TO ps) J ρ s)(Lz:ZJ z TI TO ps i s.heap):Di W (zo z TI TO ps) (.ref z) (.Tuple es kd p) (uD ls) kb' kb (ZJ z TI TO ps) i ρ J s:=by
 cases hx:uD ls i J with
 |none=>exact .odd hx
 |some r=>
  induction Lz with
  |mk kept a b c' d f=>
  have H:x4 s.heap z TI TO .none ps (dL s.heap) (λc=>i) kept:=⟨a,b,c',d,λj q hq=>⟨f j q hq,(gN hx q.2 (MO (P.1 j q hq).2)).elim λxs e=>(dj S.st e).2⟩⟩;have hout:∀{h':Ox},Kp z TO ps s.heap h'->∀b o,b∉zo z TI TO ps->s.heap.get? b=Mc o->h'.get? b=Mc o:=λkk b o hb ho=>
   kk b o (λq=>hb (q▸.head _)) (λq=>hb (q▸.tail _ (.tail _ (.head _)))) (λp hp q=>hb (q▸AG hp)) ho
  induction r with
  |none=>refine .Yp hx (of (mF W.hr.2.2.1 D h0 h10 H (λh' T tv c c c hv c=>?_) λh' c kk=>⟨rfl,S.Ws (t:=s.toks) hn (hout kk)⟩));refine ae (xD hx) λa z9=>?_;refine ae z9.2 λxs z10=>?_;refine ae (Qf z9.1) λj hj=>?_;refine ae (hv j _ (P.2 j a hj)) λy z8=>?_;have y1:=z8.1;rw[(tc P S.st z10.1).mpr z10.2] at y1;cases y1
  |some vs=>
   refine .Ym vs hx λQ e=>of (mF W.hr.2.2.1 D h0 h10 H (λh' T tv hT Z hTt hv kk=>⟨_,rfl,?_⟩) λh' hex kk=>?_)
   ·have hzT:T≠z:=by rw[hT];exact Qh (Nz a)
    have S1:=S.ext (t:=s.toks) (hout kk) (qg Z);refine of (wpAny_letOwnedTupleGo_zip Z.1 λh₂ hz₂ hs₂=>?_);have S2:=S1.but (t:=s.toks) (.head _) hs₂ ⟨_,hz₂⟩;have LX:ZJ z TI TO ps (i+1) h₂:=⟨tv,hz₂,(hs₂.2 _ D.1).trans Z.2,(hs₂.2 _ D.2).trans Z.3,Z.4,λj q hq=>(Z.5 j q hq).1.at λo ho=>(hs₂.2 q.1 (D.4 q (MO hq)).1).trans ho⟩;rw[arm_assign_Tuple];refine Wh (Wo ?_);unfold unpack;rw[(hA.1 W.env).1,(hA.1 W.env).2,show es.length=tv.size by rw[Z.4,hl]];refine Wh (Wn (of (unpackItems_tuple W.hr.2.2.1 ⟨_,(hs₂.2 T hzT).trans hTt,rfl,_,rfl⟩ λh₃ he=>?_)));have M:=Sp.Xm S2 he;refine Wm (hA.2 W _ ρ J _ [] Q tv.toList (by rw[NB,Z.4,hl]) M.1 (by rw[xa P S.st hx Z.4 hv,NF];exact e)) (λc s' h'=>?_) λc c z=>z;induction h' with|mk ρ' S' k' e'=>exact⟨ρ',J,S',LX.congr λa ha=>(k' a ha).trans (M.2 a ha),e'⟩
   ·refine ae hex λp z7=>?_;refine ae (Qf z7.1) λj hj=>?_;have q:=MO (P.1 j p hj).2;refine ae (gN hx p.2 q) λxs hxs=>?_;have z:(((J p.2).bind WX).bind λxs=>xs[i]?)∈vs.map some:=by rw[<-qJ hx];exact NA (f:=λa=>((J a).bind WX).bind λxs=>xs[i]?) q
    refine ae (ND.mp z) λv z6=>?_;have z:=z6.2;rw[hxs,NH,(tc P S.st hxs).mp z7.2] at z;cases z
theorem qX:∀{vs:List Md}{as:List Mk},vs.map er=as.map MJ->vs=as.map MJ
 |[],[],_=>rfl
 |[],_::_,h=>by cases h
 |_::_,[],h=>by cases h
 |v::vs,a::as,h=>by
  injection h with h1 h2
  rw[Nm,aq h1,qX h2]
theorem zC(h23:ls.length=2∨ls.length=3)(hl:es.length=ls.length)(hA:rj X es kb kb')(hb:co X body .Wy kb)(x:W.St J ρ s)(h:LG W (uD ls) kb' k Q f 0 ρ J):W.wp (OG (.type "zip") (ls.map MJ)) (λv=>W.wp (Tq v) (λit=>Wv (Mj W.Z.prog W.Z.w) W.A (.forLoop (.Tuple es kd p) it body [] W.env) (LR W k Q))) s:=by
 have hls:∀a∈ls,∃xs,(J a).bind WX=Mc xs:=by
  induction f with
  |zero=>exact h.elim
  |succ f=>exact h.elim (λq=>gN q.1) λ⟨_,q,_⟩=>gN q
 refine of (wM (items:=dL s.heap) h23 (λa ha=>(hls a ha).elim λxs e=>(dj x e).2) λh' n0 kept hn0 Z0 k0=>of (wpAny_pyIter_zip Z0.1 ?_));have P:vO n0 ls (((Oh ls.length).map (n0+·)).zip ls):=prs;have hlt:∀a∈ls,a<n0:=λa ha=>by refine ae (hls a ha) λxs e=>?_;refine ae ((dj x e).2) λo z5=>?_;obtain⟨q,_⟩:=z5;exact hn0▸Nz q
 have D:=P.apart hlt;have hn:∀a∈zo (n0+ls.length+2) (n0+ls.length) (n0+ls.length+1) _,¬W.Φ.fr a:=λa ha=>x.XZ (hn0▸P.ge a ha);have h0:(((Oh ls.length).map (n0+·)).zip ls)≠[]:=λq=>by have:=P.3;rw[q] at this;rcases h23 with e|e<;>rw[e] at this<;>cases this
 exact E9 hn (ZJ _ _ _ _) (λi h h' e=>ZJ.congr e) hb (λi ρ J s S Lz=>vH P D h0 (by rw[P.3];lia) (by rw[P.3,hl]) hA hn S Lz) (x.aaG (t:=s.toks) k0 λa ha=>⟨hn0▸P.ge a ha,qg Z0 a ha⟩) ⟨kept,Z0.1,Z0.2,Z0.3,Z0.4,λj q hq=>(Z0.5 j q hq).1⟩ h
theorem B9{g:Nn}{gp p2 q:Qv}{as:List MX}(hg:ax X g (.type "zip")/\dw g)(h23:as.length=2∨as.length=3)(hl:es.length=as.length)(hA:rj X es kb kb')(hb:co X body .Wy kb)(hE:dH X as (.Wz (.zip as.length) kb' k) c):iH X (.For (.Tuple es kd p) (.Call (.Name g gp) as [] p2) body [] q) k c:=λW ρ J s Q x e=>
 XH (cM x hg λf s₁ hf x₁=>by rw[bJ hf];exact ca (first:=[]) x₁ hE e (.inl λa=>nofun) λvs J' s' l x' e'=>by refine ga e' λst' nx f z3=>?_;refine ae z3.1 λls z4=>?_;have h1:=z4.1;obtain rfl:=z4.2;rw[eW (by rw[Mt,l])] at h1;obtain⟨h2,rfl⟩:=VU (MI h1);have e:=qX h2;subst e;rw[Mt] at l;rw[List.nil_append];exact zC (by rw[l];exact h23) (hl.trans l.symm) hA hb x' z3.2) (iE rfl)
end
end Wc
namespace Wc
abbrev C1(P:T->Prop):=Option {c:T // P c}
noncomputable def bnd{P:α->Prop}(o:Option {c:α // P c})(f:∀c,P c->Option β):Option β:=match o with
 |some x=>f x.1 x.2
 |none=>Mq
noncomputable def c8(p:Prop)[Decidable p](f:p->Option β):Option β:=if h:p then f h else Mq
noncomputable def opt(o:Option α)(f:∀a,o=Mc a->Option β):Option β:=match o,f with
 |some a,f=>f a rfl
 |none,_=>Mq
abbrev zM(X:CX):=∀(e:MX)(k:T),C1 (aP X e k)
abbrev zX(X:CX):=∀(e:MX)(kt kf:T),C1 (qB X e kt kf)
abbrev Bn(X:CX):=∀(t:ON)(k:T),C1 (iH X t k)
noncomputable def BO:(e:MX)->Option {q:Nn×Qv // e=.Name q.1 q.2}
 |.Name y p=>Mc ⟨(y,p),rfl⟩
 |_=>Mq
noncomputable def Ik:(e:MX)->Option {q:List MX×Nat×Qv // e=.Tuple q.1 q.2.1 q.2.2}
 |.Tuple y k p=>Mc ⟨(y,k,p),rfl⟩
 |_=>Mq
noncomputable def H7:(e:MX)->Option {q:Const×Nat×Qv // e=.Constant q.1 q.2.1 q.2.2}
 |.Constant y k p=>Mc ⟨(y,k,p),rfl⟩
 |_=>Mq
noncomputable def HU:(e:MX)->Option {q:UnaryOp×MX×Qv // e=.UnaryOp q.1 q.2.1 q.2.2}
 |.UnaryOp o y p=>Mc ⟨(o,y,p),rfl⟩
 |_=>Mq
noncomputable def Iy:(e:MX)->Option {q:MX×List MX×Qv // e=.Call q.1 q.2.1 [] q.2.2}
 |.Call o y [] p=>Mc ⟨(o,y,p),rfl⟩
 |_=>Mq
noncomputable def v2:(l:List α)->Option {q:α×α // l=[q.1,q.2]}
 |[a,b]=>Mc ⟨(a,b),rfl⟩
 |_=>Mq
noncomputable def v3:(l:List α)->Option {q:α×α×α // l=[q.1,q.2.1,q.2.2]}
 |[a,b,c]=>Mc ⟨(a,b,c),rfl⟩
 |_=>Mq
def yh(X:CX)(es:List MX)(xs:List Md):Prop:=xs.length=es.length/\∀(W:Cn X)(ρ:Loc)(J:Sg)(s:Ml)(pos:Qv),W.St J ρ s->W.wp (Qz (Ra pos (OL es W.env))) (λvs s₂=>W.St J ρ s₂/\vs.map er=xs) s
section
variable{X:CX}
theorem Gj:yh X [] []:=⟨rfl,λa a a a a x=>Xb ⟨x,rfl⟩⟩
theorem Gi{c:Const}(h:∀k,aP X (.Constant c kd p) k (.cst v k))(H:yh X es xs):yh X (.Constant c kd p::es) (v::xs):=
 ⟨congrArg (·+1) H.1,λW ρ J s pos x=>WR (Cn.abd (h .yld W ρ J s [] (λo J'=>o=.val v ρ/\J'=J) x ⟨rfl,rfl⟩) λu s₁ q=>by refine ae q λJ' z2=>?_;rw[<-z2.2.2];refine Wm (H.2 W ρ _ s₁ pos z2.1) (λws s₂ h₂=>⟨h₂.1,?_⟩) λa a z=>z;rw[Nm,h₂.2,show er u=v by injection z2.2.1]) (bX rfl)⟩
theorem Cu(hl:es.length<=20)(H:yh X es xs):Zj X (.Tuple es kd p) xs:=λW ρ J s x=>
 ZS (Wm (H.2 W ρ J s p x) (λvs s₁ h₁=>by
  have hlen:vs.length<=20:=by rw[<-Mt (f:=er),h₁.2,H.1];exact hl
  refine of ?_;unfold Ux;refine Pd ⟨h₁.1.Wx _ _,_,vs.toArray,0,#[],rfl,MR _ rfl,?_⟩ (by show vs.toArray.size<=Sv;rw[Oi,NK];exact Nj hlen (by decide));rw[List.toList_toArray];exact h₁.2) λa a z=>z)
noncomputable def wx(K:PO)(a:Mk):Option (Array Md):=((K.lookup a).bind zc).map (·.1)
theorem ve(h:wx K a=Mc vs):bM λm sl=>K.lookup a=Mc (⟨.type "tuple",Mq,.seq vs m,sl⟩:P8):=by refine ae (MP.mp h) λv z1=>?_;refine ae (My.mp z1.1) λo z2=>?_;have e:=tw z2.2;rw[z1.2] at e;exact⟨v.2,o.slots,e▸z2.1⟩
theorem Bq(hg:ax X y (.ref a)/\dw y)(hK:wx X.K a=Mc vs):Zj X (.Name y p) (vs.toList.map er):=λW b b b x=>by refine bI (ve hK) λm sl h=>?_;exact Cn.ZK x hg λu b hu x'=>⟨x',a,vs,m,sl,aq hu,x'.here W.hb _ _ (W.B.1 _ _ h),rfl⟩
end
section
variable(X:CX)
noncomputable def gK(kd:Nat)(p:Qv):(c:Const)->Option {v:Md // ∀k,aP X (.Constant c kd p) k (.cst v k)}
 |.none=>Mc ⟨_,λa=>B4⟩
 |.bool _=>Mc ⟨_,λa=>Co⟩
 |.int _=>Mc ⟨_,λa=>Ew⟩
 |.str _=>Mc ⟨_,λa=>DE⟩
 |.bytes _=>Mc ⟨_,λa=>Ab⟩
 |_=>Mq
noncomputable def Hv:(es:List MX)->Option {xs:List Md // yh X es xs}
 |[]=>Mc ⟨_,Gj⟩
 |e::es=>match e with
  |.Constant c kd p=>bnd (gK X kd p c) λa h=>bnd (Hv es) λa H=>Mc ⟨_,Gi h H⟩
  |_=>Mq
noncomputable def Ej(p:Qv):(v:Md)->ax X y v/\dw y->Option {xs:List Md // Zj X (.Name y p) xs}
 |.ref a,hg=>opt (wx X.K a) λb h=>Mc ⟨_,Bq hg h⟩
 |_,_=>Mq
noncomputable def Gz:(r:MX)->Option {xs:List Md // Zj X r xs}
 |.Tuple es _ _=>c8 (es.length<=20) λhl=>bnd (Hv X es) λa H=>Mc ⟨_,Cu hl H⟩
 |.Name y p=>bnd (gl X y) λv hg=>Ej X p v hg
 |_=>Mq
noncomputable def HP(y:Nn)(p:Qv)(k:T):C1 (aP X (.Name y p) k):=
 c8 (dw y) λhd=>if h:X.scope.names.lookup y=Mc .local then Mc ⟨_,GK h hd⟩ else if h:X.scope.names.lookup y=Mc .cell then Mc ⟨_,DP h hd⟩ else bnd (gl X y) λa h=>Mc ⟨_,Gd h⟩
end
section
variable{X:CX}(f:zM X)(g:zX X)
noncomputable def rE(k:T):(es:List MX)->C1 (dH X es k)
 |[]=>Mc ⟨_,Ff⟩
 |e::es=>c8 (Xj e=Mg) λhs=>bnd (rE k es) λc1 h1=>bnd (f e c1) λa h=>Mc ⟨_,G5 hs h1 h⟩
noncomputable def gO(k:T):(e:Option MX)->C1 (EW X e k)
 |none=>Mc ⟨_,Gv⟩
 |some e=>bnd (f e k) λa h=>Mc ⟨_,Gn h⟩
noncomputable def Hn(op:Uw)(kt kf:T):(es:List MX)->C1 (rV X op es kt kf)
 |[]=>Mc ⟨_,EI⟩
 |y::vs=>bnd (Hn op kt kf vs) λc1 h1=>match op,h1 with
  |.And,h1=>bnd (g y c1 kf) λa h=>Mc ⟨_,E2 h1 h⟩
  |.Or,h1=>bnd (g y kt c1) λa h=>Mc ⟨_,DJ h1 h⟩
noncomputable def gB(op:Uw):(es:List MX)->C1 (CH X op es)
 |[]=>Mq
 |[y]=>bnd (f y .yld) λa h=>Mc ⟨_,He h⟩
 |y::y2::vs=>bnd (gB op (y2::vs)) λc1 h1=>match op,h1 with
  |.And,h1=>bnd (f y (.dup (.ite (.pop c1) .yld))) λa h=>Mc ⟨_,GA h1 h⟩
  |.Or,h1=>bnd (f y (.dup (.ite .yld (.pop c1)))) λa h=>Mc ⟨_,Gc h1 h⟩
noncomputable def Hs(kt kf:T):(ops:List U7)->(rs:List MX)->C1 (x6 X ops rs kt kf)
 |[op],[r]=>bnd (F5 op) λo ho=>c8 (Oz op r=Mg) λhm=>bnd (f r (.cmp o (.ite kt kf))) λa h=>Mc ⟨_,DR hm ho h⟩
 |op::op2::ops,r::r2::rs=>bnd (F5 op) λo ho=>bnd (Hs kt kf (op2::ops) (r2::rs)) λc1 h1=>bnd (f r (.XJ o (.ite c1 (.pop kf)))) λa h=>Mc ⟨_,D8 ho h1 h⟩
 |_,_=>Mq
noncomputable def HL(neg:Bool)(ho:op=(if neg then .IsNot else .Is))(k:T):(r:MX)->C1 (yt X l op r k)
 |.Constant .none _ _=>bnd (f l (.isn neg k)) λa h=>Mc ⟨_,GV (r:=l) ho h⟩
 |_=>Mq
noncomputable def HF{r:MX}(neg:Bool)(ho:op=(if neg then .NotIn else .In))(k:T):C1 (yt X l op r k):=
 c8 (Oz op r=Mg) λhm=>bnd (Gz X r) λxs ht=>bnd (f l (.inn neg xs k)) λa h=>Mc ⟨_,abj hm ho ht h⟩
noncomputable def HI{r:MX}(neg:Bool)(ho:op=(if neg then .NotEq else .Eq))(k:T):C1 (yt X l op r k):=
 c8 (Oz op r=Mg) λhm=>bnd (f r (.eqv neg k)) λc1 h1=>bnd (f l c1) λa h=>Mc ⟨_,G4 hm ho h1 h⟩
noncomputable def gC(l r:MX)(k:T):(op:U7)->C1 (yt X l op r k)
 |.Is=>HL f Mg rfl k r
 |.IsNot=>HL f Mh rfl k r
 |.In=>HF f Mg rfl k
 |.NotIn=>HF f Mh rfl k
 |.Eq=>HI f Mg rfl k
 |.NotEq=>HI f Mh rfl k
 |op=>bnd (F5 op) λo ho=>c8 (Oz op r=Mg) λhm=>bnd (f r (.cmp o k)) λc1 h1=>bnd (f l c1) λa h=>Mc ⟨_,Dv hm ho h1 h⟩
noncomputable def AU:List (Option MX)->Option (List Nn)
 |[]=>Mc []
 |k::ks=>match k with
  |some (.Constant (.str x) _ _)=>(AU ks).map (x::·)
  |_=>Mq
noncomputable def Ho(k:T):(xs:List Nn)->(ks:List (Option MX))->(vs:List MX)->C1 (wK X ks vs xs k)
 |[],[],[]=>Mc ⟨_,Gf⟩
 |x::xs,Mc (.Constant (.str x') _ _)::ks,v::vs=>if h:x'=x then bnd (Ho k xs ks vs) λc1 H=>bnd (f v c1) λc h'=>Mc ⟨c,by subst h;exact GE H h'⟩ else Mq
 |_,_,_=>Mq
noncomputable def Ga(p:Qv)(k:T)(v:MX):(i:MX)->C1 (aP X (.Subscript v i p) k)
 |.Slice l u Mq _=>bnd (gO f (.sli k) u) λc1 h1=>bnd (gO f c1 l) λc2 h2=>bnd (f v c2) λa h=>Mc ⟨_,Ey h1 h2 h⟩
 |i=>c8 (du i=Mg) λhs=>bnd (f i (.idx k)) λc1 h1=>bnd (f v c1) λa h=>Mc ⟨_,Du hs h1 h⟩
noncomputable def D5(p:Qv)(k:T)(i:MX):(v:MX)->C1 (aP X (.Subscript v i p) k)
 |.Dict ks vs _=>opt (AU ks) λxs a=>c8 xs.Nodup λhn=>c8 (ks.length<=15) λhl=>c8 (ks.isEmpty=Mg) λh0=>c8 (du i=Mg) λhs=>
   bnd (f i (.sel (xs.map λx=>.str x 0) k)) λc1 hi=>bnd (Ho f c1 xs ks vs) λa H=>Mc ⟨_,EU H hn hl h0 hs hi⟩
 |v=>Ga f p k v i
noncomputable def Ij(v:MX)(a:Nn)(p:Qv)(k:T):C1 (aP X (.Attribute v a p) k):=
 c8 (fK v=Mh) λhb=>c8 (enc a≠0) λh0=>if a="have" then bnd (f v (.prop (enc a) k)) λb h=>Mc ⟨_,BK hb h0 h⟩ else bnd (f v (.fld (enc a) k)) λb h=>Mc ⟨_,DH hb h0 h⟩
noncomputable def GY(hg:ax X y v/\dw y)(e:MX)(gp pos:Qv)(k:T):C1 (aP X (.Call (.Name y gp) [e] [] pos) k):=
 if h:v=.builtin "len" then bnd (rE f (.len k) [e]) λa H=>Mc ⟨_,DF (h▸hg) H⟩ else
 if h:v=.type "int" then bnd (rE f (.Xq k) [e]) λa H=>Mc ⟨_,A9 (h▸hg) H⟩ else
 if h:v=.type "bytes" then bnd (rE f (.Xa k) [e]) λa H=>Mc ⟨_,vY (h▸hg) H⟩ else
 if h:v=.type "list" then bnd (rE f (.Yh k) [e]) λa H=>Mc ⟨_,zZ (h▸hg) H⟩ else
 if h:v=.builtin "abs" then bnd (rE f (.abs k) [e]) λa H=>Mc ⟨_,Fp (h▸hg) H⟩ else Mq
noncomputable def GG(hg:ax X y v/\dw y)(e:MX)(gp pos:Qv)(k:T):(t:MX)->C1 (aP X (.Call (.Name y gp) [e,t] [] pos) k)
 |.Name ty _=>if h:v=.builtin "isinstance" then c8 (Xj e=Mg) λhs=>bnd (gl X ty) λtv ht=>bnd (f e (.isi tv k)) λa H=>Mc ⟨_,Ei (h▸hg) ht hs H⟩ else Mq
 |_=>Mq
noncomputable def FU(hg:ax X y v/\dw y)(gp pos:Qv)(k:T):(as:List MX)->C1 (aP X (.Call (.Name y gp) as [] pos) k)
 |[]=>if h:v=.type "bytearray" then Mc ⟨_,Bt (h▸hg)⟩ else Mq
 |[e]=>GY f hg e gp pos k
 |[e,t]=>if h:v=.builtin "min" then bnd (rE f (.YU k) [e,t]) λa H=>Mc ⟨_,DX (h▸hg) H⟩ else GG f hg e gp pos k t
 |_=>Mq
noncomputable def Gg(gp pos:Qv)(k:T)(as:List MX):(v:Md)->ax X y v/\dw y->C1 (aP X (.Call (.Name y gp) as [] pos) k)
 |.ref a,hg=>c8 (Zo a=Mh) λhc=>bnd (rE f (.call as.length k) as) λb H=>Mc ⟨_,C5 hg hc H⟩
 |_,hg=>FU f hg gp pos k as
noncomputable def DO{m:Nn}(yp apos pos:Qv)(k:T)(as:List MX)(hp:apos.endLine=pos.line)(hl:as.length<=20):(v:Md)->ax X y v/\dw y->C1 (aP X (.Call (.Attribute (.Name y yp) m apos) as [] pos) k)
 |.ref C,hy=>if hm:m="__init__" then opt (mt C (enc ("__init__":Nn))) λu hu=>bnd (rE f (.call as.length k) as) λa H=>Mc ⟨_,hm▸Bp hy hu hp hl H⟩ else Mq
 |_,_=>Mq
noncomputable def AZ(o:MX)(m:Nn)(apos pos:Qv)(k:T)(as:List MX)(hp:apos.endLine=pos.line)(hl:as.length<=20):C1 (aP X (.Call (.Attribute o m apos) as [] pos) k):=
 c8 (fK o=Mh) λhb=>c8 (enc m≠0) λh0=>if m="append"∨m="extend"∨m="get"∨m="bit_length" then bnd (rE f (.cb as.length k) as) λc1 h1=>bnd (f o (.bm (enc m) c1)) λa h=>Mc ⟨_,G2 hb h0 hp hl h1 h⟩
  else bnd (rE f (.XM as.length k) as) λc1 h1=>bnd (f o (.meth (enc m) c1)) λa h=>Mc ⟨_,Cx hb h0 hp hl h1 h⟩
noncomputable def Ix(m:Nn)(apos pos:Qv)(k:T)(as:List MX)(hp:apos.endLine=pos.line)(hl:as.length<=20):(o:MX)->C1 (aP X (.Call (.Attribute o m apos) as [] pos) k)
 |.Name y yp=>if X.scope.names.lookup y=Mc .globalImplicit then bnd (gl X y) λv h=>DO f yp apos pos k as hp hl v h else AZ f (.Name y yp) m apos pos k as hp hl
 |o=>AZ f o m apos pos k as hp hl
noncomputable def Fc(pos:Qv)(k:T)(as:List MX):(fn:MX)->C1 (aP X (.Call fn as [] pos) k)
 |.Name y gp=>bnd (gl X y) λv h=>Gg f gp pos k as v h
 |.Attribute o m apos=>c8 (apos.endLine=pos.line) λhp=>c8 (as.length<=20) λhl=>Ix f m apos pos k as hp hl o
 |_=>Mq
end
section
variable(f:∀X,zM X)(g:∀X,zX X)(X:CX)
noncomputable def DG(y:Nn)(yp:Qv)(ifs:List MX)(elt:MX)(scope:O1)(pos:Qv)(k body:T)(hT:gI (cW X scope) ifs elt body)(hok:kr X scope y=Mh)(iter:MX)(hden:nY (.ListComp elt [⟨.Name y yp,iter,ifs,0⟩] scope pos) y yp iter.pos ifs elt):C1 (aP X (.ListComp elt [⟨.Name y yp,iter,ifs,0⟩] scope pos) k):=
 (bnd (Iy iter) λq hq=>bnd (BO q.1) λz hz=>bnd (v2 q.2.1) λab hab=>bnd (gl X z.1) λv hg=>c8 (v=.type "range") λh=>bnd (rE (f X) (.Xn Mh (enc y) body k) [ab.1,ab.2]) λa hi=>Mc ⟨_,zO (h▸hg) hok hT hden (by rw[hq,hz,hab]) hi⟩).or
 (c8 (YD iter=Mg) λhs=>bnd (f X iter (.Xn Mg (enc y) body k)) λa hi=>Mc ⟨_,Ap hok hs hT hden hi⟩)
noncomputable def HR(elt:MX)(scope:O1)(pos:Qv)(k:T):(gens:List Comprehension)->C1 (aP X (.ListComp elt gens scope pos) k)
 |[⟨.Name y yp,iter,[],0⟩]=>c8 (kr X scope y=Mh) λhok=>bnd (f (cW X scope) elt .yld) λke h=>DG f X y yp [] elt scope pos k ke (wv h) hok iter BF
 |[⟨.Name y yp,iter,[t],0⟩]=>c8 (kr X scope y=Mh) λhok=>bnd (f (cW X scope) elt .yld) λke h=>bnd (g (cW X scope) t ke .Wy) λbody ht=>DG f X y yp [t] elt scope pos k body (yd h ht) hok iter Cb
 |_=>Mq
noncomputable def Hf(y:MX)(p:Qv)(k:T):(op:UnaryOp)->C1 (aP X (.UnaryOp op y p) k)
 |.USub=>bnd (f X y (.neg k)) λa h=>Mc ⟨_,Fg h⟩
 |_=>Mq
noncomputable def Gb(l:MX)(p:Qv)(k:T):(ops:List U7)->(rs:List MX)->C1 (aP X (.Compare l ops rs p) k)
 |[op],[r]=>bnd (gC (f X) l r k op) λa h=>Mc ⟨_,EH h⟩
 |_,_=>Mq
noncomputable def gE(k:T):(e:MX)->C1 (aP X e k)
 |.Constant c kd p=>bnd (gK X kd p c) λd h=>Mc ⟨_,h k⟩
 |.Name y p=>HP X y p k
 |.BinOp l op r _=>bnd (HK op) λo ho=>bnd (f X r (.bin o k)) λc1 h1=>bnd (f X l c1) λd h=>Mc ⟨_,Fn ho h1 h⟩
 |.UnaryOp op y p=>Hf f X y p k op
 |.IfExp t a b _=>bnd (f X a .yld) λc1 h1=>bnd (f X b .yld) λc2 h2=>bnd (g X t c1 c2) λd h=>Mc ⟨_,Go h h1 h2⟩
 |.BoolOp op vs _=>bnd (gB (f X) op vs) λd h=>Mc ⟨_,zm h⟩
 |.Compare l ops rs p=>Gb f X l p k ops rs
 |.Attribute v a p=>Ij (f X) v a p k
 |.Subscript v i p=>D5 (f X) p k i v
 |.List es _=>c8 (es.length<=1000) λhl=>bnd (rE (f X) (.W9 es.length k) es) λd h=>Mc ⟨_,Cr hl h⟩
 |.Tuple es _ _=>c8 (es.length<=1000) λhl=>bnd (rE (f X) (.Xy es.length k) es) λd h=>Mc ⟨_,zu hl h⟩
 |.Dict [] [] _=>Mc ⟨_,BB⟩
 |.Call fn as [] pos=>Fc (f X) pos k as fn
 |.ListComp elt gens scope pos=>HR f g X elt scope pos k gens
 |_=>Mq
noncomputable def Iv(l:MX)(p:Qv)(kt kf:T):(ops:List U7)->(rs:List MX)->C1 (qB X (.Compare l ops rs p) kt kf)
 |[op],[r]=>bnd (gC (f X) l r (.ite kt kf) op) λa h=>Mc ⟨_,F8 h⟩
 |ops,rs=>bnd (Hs (f X) kt kf ops rs) λc1 h1=>bnd (f X l c1) λa h=>Mc ⟨_,Fb h1 h⟩
noncomputable def Ic(y:MX)(p:Qv)(kt kf:T):(op:UnaryOp)->C1 (qB X (.UnaryOp op y p) kt kf)
 |.Not=>bnd (g X y kf kt) λa h=>Mc ⟨_,E6 h⟩
 |_=>Mq
noncomputable def gT(kt kf:T):(e:MX)->C1 (qB X e kt kf)
 |.UnaryOp op y p=>Ic g X y p kt kf op
 |.BoolOp op vs _=>bnd (Hn (g X) op kt kf vs) λa h=>Mc ⟨_,Gh h⟩
 |.Compare l ops rs p=>Iv f X l p kt kf ops rs
 |e=>c8 (wT e=Mg) λht=>bnd (f X e (.ite kt kf)) λa h=>Mc ⟨_,GN ht h⟩
end
structure E7 where
 e:∀X,zM X
 t:∀X,zX X
noncomputable def cr(n:Nat):E7:=Nat.rec (motive:=λa=>E7) ⟨λa a a=>Mq,λa a a a=>Mq⟩ (λa r=>⟨λX e k=>gE r.e r.t X k e,λX e kt kf=>gT r.e r.t X kt kf e⟩) n
noncomputable def aae:(t:RV α)->Option {a:α // t=NN a}
 |.pure a=>Mc ⟨a,rfl⟩
 |_=>Mq
noncomputable def Hm(t:RV Bool)(f:t=NN Mg->Option β):Option β:=bnd (aae t) λb h=>match b,h with
 |false,h=>f h
 |true,_=>Mq
section
variable{X:CX}(f:zM X)(g:zX X)(S:Bn X)
abbrev Loc?(X:CX)(y:Nn):Prop:=X.scope.names.lookup y=Mc .local/\enc y≠0
noncomputable def GL(k:T):(es:List MX)->C1 (rj X es k)
 |[]=>Mc ⟨_,Gp⟩
 |e::es=>bnd (BO e) λy hy=>c8 (Loc? X y.1) λh=>bnd (GL k es) λa H=>Mc ⟨_,hy▸GR h.1 h.2 H⟩
noncomputable def gA(k:T):(t:MX)->C1 (uP X t k)
 |.Name y _=>c8 (Loc? X y) λh=>Mc ⟨_,DB h.1 h.2⟩
 |.Attribute o a _=>c8 (enc a≠0) λh0=>bnd (f o (.XF (enc a) k)) λb h=>Mc ⟨_,Gx h0 h⟩
 |.Subscript o i _=>bnd (f i (.XD k)) λc1 h1=>bnd (f o c1) λb h=>Mc ⟨_,GZ h1 h⟩
 |.Tuple es _ _=>bnd (GL k es) λb H=>Mc ⟨_,GC H⟩
 |_=>Mq
noncomputable def Ia(v:MX)(pos:Qv)(k:T)(t:MX)(hs:OZ [t] v pos.line (Xr X)=NN Mg)(ns:List Nn)(hw:O0 [t] v (Xr X)=NN (Mc ns)):C1 (iH X (.Assign [t] v pos) k):=bnd (Ik t) λq ht=>
 (bnd (v2 q.1) λr hr=>bnd (BO r.1) λy hy=>bnd (BO r.2) λz hz=>c8 (ns=[y.1,z.1]) λe=>c8 (Loc? X y.1) λly=>c8 (Loc? X z.1) λlz=>c8 (enc y.1≠enc z.1) λhn=>
  bnd (f v (.unp 2 (.st (enc y.1) (.st (enc z.1) k)))) λa h=>Mc ⟨_,Fe (by rw[ht,hr,hy,hz]) hs hw e ly.1 lz.1 ly.2 lz.2 hn h⟩).or
 (bnd (v3 q.1) λr hr=>bnd (BO r.1) λy hy=>bnd (BO r.2.1) λz hz=>bnd (BO r.2.2) λw hw'=>c8 (ns=[y.1,z.1,w.1]) λe=>c8 (Loc? X y.1) λly=>c8 (Loc? X z.1) λlz=>c8 (Loc? X w.1) λlw=>c8 (enc y.1≠enc z.1/\enc y.1≠enc w.1/\enc z.1≠enc w.1) λhn=>
  bnd (f v (.unp 3 (.st (enc y.1) (.st (enc z.1) (.st (enc w.1) k))))) λa h=>Mc ⟨_,D7 (by rw[ht,hr,hy,hz,hw']) hs hw e ly.1 lz.1 lw.1 ⟨ly.2,lz.2,lw.2⟩ hn h⟩)
noncomputable def G7(t v:MX)(pos:Qv)(k:T):C1 (iH X (.Assign [t] v pos) k):=
 Hm (OZ [t] v pos.line (Xr X)) λhs=>bnd (aae (O0 [t] v (Xr X))) λw hw=>match w,hw with
  |none,hw=>bnd (gA f k t) λc1 h1=>bnd (f v c1) λa h=>Mc ⟨_,DW hs hw h1 h⟩
  |some ns,hw=>Ia f v pos k t hs ns hw
noncomputable def F9(op:RE)(v:MX)(pos:Qv)(k:T)(t:MX):C1 (iH X (.AugAssign t op v pos) k):=bnd (HK op) λo ho=>match t with
 |.Name y _=>c8 (Loc? X y) λhy=>bnd (f v (.iop o (.st (enc y) k))) λb h=>Mc ⟨_,BG hy.1 hy.2 ho h⟩
 |.Attribute ob a _=>c8 (enc a≠0) λh0=>bnd (f v (.iop o (.W7 (.XF (enc a) k)))) λc1 h1=>bnd (f ob (.dup (.fld (enc a) c1))) λb h=>Mc ⟨_,CT h0 ho h1 h⟩
 |_=>Mq
noncomputable def Dp(k:T):(ts:List ON)->C1 (co X ts k)
 |[]=>Mc ⟨_,G1⟩
 |t::ts=>bnd (Dp k ts) λc1 h1=>bnd (S t c1) λa h=>Mc ⟨_,FV h1 h⟩
noncomputable def Io(hg:ax X z v/\dw z)(hv:v=.type "range")(hy:Loc? X y)(yp gp pos fp:Qv)(body:List ON)(kb k:T)(hb:co X body .Wy kb):(as:List MX)->C1 (iH X (.For (.Name y yp) (.Call (.Name z gp) as [] fp) body [] pos) k)
 |[a]=>bnd (rE f (.Wz (.rng Mg) (.st (enc y) kb) k) [a]) λc H=>Mc ⟨_,De (hv▸hg) hy.1 hy.2 hb H⟩
 |[a,b]=>bnd (rE f (.Wz (.rng Mg) (.st (enc y) kb) k) [a,b]) λc H=>Mc ⟨_,CJ (hv▸hg) hy.1 hy.2 hb H⟩
 |[a,b,d]=>bnd (HU d) λu hu=>bnd (H7 u.2.1) λw hw=>c8 (u.1=.USub) λe1=>c8 (w.1=.int 1) λe2=>c8 (Xj a=Mg) λha=>c8 (Xj b=Mg) λhb'=>bnd (f b (.Wz (.rng Mh) (.st (enc y) kb) k)) λc1 h1=>bnd (f a c1) λc h=>Mc ⟨_,BJ (kd:=w.2.1) (cp:=w.2.2) (up:=u.2.2) (by rw[hu,e1,hw,e2]) (hv▸hg) hy.1 hy.2 hb ha hb' h1 h⟩
 |_=>Mq
noncomputable def H0(hg:ax X z v/\dw z)(hv:v=.type "zip")(gp pos fp:Qv)(body:List ON)(kb k:T)(hb:co X body .Wy kb)(as:List MX):(t:MX)->C1 (iH X (.For t (.Call (.Name z gp) as [] fp) body [] pos) k)
 |.Tuple es _ _=>c8 (as.length=2∨as.length=3) λh23=>c8 (es.length=as.length) λhl=>bnd (GL kb es) λkb' hA=>bnd (rE f (.Wz (.zip as.length) kb' k) as) λa hE=>Mc ⟨_,B9 (hv▸hg) h23 hl hA hb hE⟩
 |_=>Mq
noncomputable def HV(gp pos fp:Qv)(body:List ON)(kb k:T)(hb:co X body .Wy kb)(as:List MX)(t:MX)(v:Md)(hg:ax X z v/\dw z):C1 (iH X (.For t (.Call (.Name z gp) as [] fp) body [] pos) k):=
 if hv:v=.type "zip" then H0 f hg hv gp pos fp body kb k hb as t else if hv:v=.type "range" then match t with
  |.Name y yp=>c8 (Loc? X y) λhy=>Io f hg hv hy yp gp pos fp body kb k hb as
  |_=>Mq
 else Mq
noncomputable def Gs(t:MX)(body:List ON)(pos:Qv)(kb k:T)(hb:co X body .Wy kb):(i:MX)->C1 (iH X (.For t i body [] pos) k)
 |.Call (.Name z gp) as [] fp=>bnd (gl X z) λv hg=>HV f gp pos fp body kb k hb as t v hg
 |.Attribute o a ap=>if a="learnt" then bnd (gA f kb t) λkb' hA=>bnd (f (.Attribute o a ap) (.Wz .keys kb' k)) λb hi=>Mc ⟨_,B7 rfl hA hb hi⟩ else bnd (gA f kb t) λkb' hA=>bnd (f (.Attribute o a ap) (.Wz .seq kb' k)) λb hi=>Mc ⟨_,Az rfl hA hb hi⟩
 |i=>c8 (YD i=Mg) λhs=>bnd (gA f kb t) λkb' hA=>bnd (f i (.Wz .seq kb' k)) λb hi=>Mc ⟨_,Az hs hA hb hi⟩
noncomputable def gS(k:T):(t:ON)->C1 (iH X t k)
 |.Pass _=>Mc ⟨_,Dh⟩
 |.Break _=>Mc ⟨_,zQ⟩
 |.Continue _=>Mc ⟨_,r7⟩
 |.Return Mq _=>Mc ⟨_,CK⟩
 |.Return (Mc e) _=>bnd (f e .ret) λc h=>Mc ⟨_,Ef h⟩
 |.Expr e pos=>Hm (UM e Mq pos.line (Xr X)) λhs=>bnd (f e (.pop k)) λc h=>Mc ⟨_,BZ hs h⟩
 |.Assign [t] v pos=>G7 f t v pos k
 |.AugAssign t op v pos=>F9 f op v pos k t
 |.If t a b _=>bnd (Dp S .Wy a) λc1 h1=>bnd (Dp S .Wy b) λc2 h2=>bnd (g t c1 c2) λc h=>Mc ⟨_,Fh h h1 h2⟩
 |.While t b [] _=>bnd (Dp S .Wy b) λkb hb=>bnd (g t kb .brk) λc h=>Mc ⟨_,At hb h⟩
 |.For t i b [] pos=>bnd (Dp S .Wy b) λkb hb=>Gs f t b pos kb k hb i
 |.Raise _ _ _=>Mc ⟨_,zb⟩
 |_=>Mq
end
noncomputable def cs(X:CX)(n:Nat):Bn X:=Nat.rec (motive:=λa=>Bn X) (λa a=>Mq) (λa S t k=>gS ((cr 60).e X) ((cr 60).t X) S k t) n
noncomputable def cFn(X:CX)(body:List ON):C1 (co X body (.cst .none .ret)):=Dp (cs X 60) (.cst .none .ret) body
end Wc
variable{binds:List (Nn×Md)}
namespace Wc
section
variable{R:Ph->Ml->Prop}
set_option backward.match.sparseCases true in theorem Zz{body}(h:Wi (Mj prog w) (A.deeper env) (Qb body env) (λf s'=>R (.ok (.ret (match f with|.ret v=>v|_=>.none))) s') (λe s'=>Wi (Mj prog w) (A.deeper env) (UO env e) (λa s''=>R (.error e) s'') (λe' s''=>R (.error e') s'') s') s):Wv (Mj prog w) A (.func body env) R s:=by refine WB rfl ?_;show Wi _ (A.deeper env) (do point;match <-(Qb body env).onRaise (UO env) with|.ret v=>ret v|_=>ret .none) _ _ s;refine Wh (Xl (Wh (Xk (Wm h (λf s' h'=>?_) λa a h'=>h'))));cases f<;>exact wpAny_pure h'
set_option backward.match.sparseCases true in theorem Zy{args:Args}(hroom:A.depth<O4)(ho:s.heap.get? a=Mc o)(hdata:o.data=.func fd)(hcd:s.heap.CodeRec fd.code fd.qualname)(hbody:fd.body=.stmts body)(hbind:VZ s fd args binds)(hco:fd.scope.isCoroutine=Mg)(hgen:fd.scope.isGenerator=Mg)(h:Mx (Mj prog w) A.in1 (newFunctionEnv fd.scope fd.globals fd.closure binds (fd.qualname++OW ".<locals>.") (Mc a) fd.code Mq fd.builtins) (λenv s'=>s'.heap.NoLimit/\Wv (Mj prog w) A (.func body env) R s') (λe s'=>R (.error e) s') s):Wv (Mj prog w) A (.call (.ref a) args) R s:=by refine WB rfl ?_;show Wi _ A.in1 (load a>>=_) _ _ s;refine Wh (of (QF ho ?_));refine ae hcd λc z13=>?_;refine ae z13 λoc z14=>?_;refine ae z14 λvs z15=>?_;refine ae z15 λtq z16=>?_;have hc:=z16.1;have hoc:=z16.2.1;have hdc:=z16.2.2.1;have hq:=z16.2.2.2;rw[hdata];show Wi _ A.in1 (callFunction a fd args) _ _ s;unfold callFunction;rw[hc] at h ⊢;refine Wh (m:=field (.ref c) 1) (of (Te hoc hdc hq (Wh (wpAny_pure ?_))));refine Wh (of (hbind _ _ _ _ (Wh (of (NM h (λenv s' z=>Wh (of (wpAny_enterFrame z.1 hroom ?_))) λb b z=>z)))));rw[hgen,hco,hbody];exact wpAny_pure ⟨rfl,z.2⟩
set_option backward.match.sparseCases true in theorem Y1{args:Args}(hroom:A.depth<O4)(ho:s.heap.get? a=Mc o)(hdata:o.data=.func fd)(hlim:s.heap.NoLimit)(hcd:s.heap.CodeRec fd.code fd.qualname)(hbody:fd.body=.stmts body)(hbind:VZ s fd args binds)(hcell:∀x∈fd.scope.names,x.2≠.cell)(hloc:∀x∈binds,fd.scope.names.lookup x.1=Mc .local)(h:∀h₀,h₀.Ns s.heap.objs.size (λx=>binds.reverse.lookup x)->(∀b o,s.heap.get? b=Mc o->h₀.get? b=Mc o)-> Wi (Mj prog w) (A.deeper (Sk fd s.heap.objs.size a)) (Qb body (Sk fd s.heap.objs.size a)) (λf s'=>R (.ok (.ret (match f with|.ret v=>v|_=>.none))) s') (λe s'=>Wi (Mj prog w) (A.deeper (Sk fd s.heap.objs.size a)) (UO (Sk fd s.heap.objs.size a) e) (λc s''=>R (.error e) s'') (λe' s''=>R (.error e') s'') s') {s with heap:=h₀,toks:=s.toks+binds.length})(hco:fd.scope.isCoroutine=Mg)(hgen:fd.scope.isGenerator=Mg)(hk:fd.scope.kind=.function):Wv (Mj prog w) A (.call (.ref a) args) R s:=by refine Zy hroom ho hdata hcd hbody hbind hco hgen (wpAny_newFunctionEnv hcell hloc (λh₀ hns₀ hsb₀=>⟨hlim.fresh _ hsb₀,Zz ?_⟩) hk);exact h h₀ hns₀ λb o e=>hsb₀.extBut b o (Nd (Nz e)) (MD _ e)
end
end Wc
noncomputable def dl(Kg K:PO)(f:Mk):Option T:=(aL K f).bind λx=>(Wc.cFn ⟨Kg,x.1⟩ x.2).map Uz
inductive wN(Z:Sys)(Kg:PO)(f:Mk)(ns:List Nat)(ds:List Md)(c:T):Prop where
 |mk (ok:∃K,bF K Z.base/\kW K f ns ds=Mh/\dl Kg K f=Mc c)
noncomputable def bA.with(Φ:bA)(L:Mk):bA:=⟨Φ.o,λb=>b=L∨Φ.fr b⟩
theorem Inv.XK(I:Inv Φ J g h)(hf:g L=.free)(hL:∃o,h'.get? L=Mc o)(k:∀b o,h.get? b=Mc o->h'.get? b=Mc o):Inv (Φ.with L) J (ij g L .loc) h':=by
 refine I.tr (·=L) (λb q=>⟨c6 q,rfl,⟨λz=>z.resolve_left q,.inr⟩,rfl⟩) (λb o a=>k b o) (λb d q e=>by rw[q,hf] at e;cases e) (λb o q e=>?_) (λb q a=>.inr (by rw[q];exact bi)) (λb c q e=>?_) λb q a=>q▸hL;·exact cns ((I.nO (q▸hf)).symm.trans e)
 ·exact cns ((I.nC (q▸hf)).symm.trans e)
theorem Inv.leave(h0:Φ.o L=Mq)(I:Inv (Φ.with L) J g h):Inv Φ J g h:=
 I.tr (·=L) (λa q=>⟨rfl,rfl,⟨.inr,λz=>z.resolve_left q⟩,rfl⟩) (λa a a e=>e) (λb d q e=>by rcases I.2 b (.inl q) with z|z<;>rw[z] at e<;>cases e) (λb o q e=>by rw[q,h0] at e;cases e) (λb a e=>I.2 b (.inr e)) (λb c a e=>I.3 b c e) λb a e=>I.4 b e
theorem oU.XK(h:oU (n+1) A Φ)(hk:env.scope.kind=.function)(hL:env.frame=Mc L):cR n (A.deeper env) (Φ.with L) L:=by
 refine ae h.2.2.2 λl z12=>?_;refine⟨by show A.depth+1+20*n+10<=900;have:=h.1;exact af 0x1080004f8411423a022413b5a1f08285501122099eed7eb53 [] [_,_] this,by show A.units+3+60*n+30<=9000;have:=h.2.1;lia,h.2.2.1,env::l,by show A.frames.map _=_;rw[z12.1];rfl,λe he=>?_⟩;refine Pj (MS.mp he) (λzz=>?_) (λhe=>?_);rw[zz];·exact⟨hk,L,hL,.inl rfl,.inl rfl⟩
 ·obtain z10:=z12.2 e he;refine ae z10.2 λL z11=>?_;exact⟨z10.1,L,z11.1,.inr z11.2.1,z11.2.2.elim (λz=>z.elim) .inr⟩
variable{ns:List Nat}
section
variable{d:Md}
theorem BU(hK:K.In s.heap)(h:wG K d ds=Mh):∃dv:List Md,dv.map er=ds/\∀(M:RW)(A:O8)(E:Md->Ml->Prop)(Q:Option (Array Md)->Ml->Prop),(∀x:Option (Array Md),(x.getD #[]).toList=dv->Q x s)->Mx M A (seqItems? d) Q E s:=by
 unfold wG at h;induction d with
 |none=>exact⟨[],by rw[Qm] at h;rw[h];rfl,λM A E Q hq=>Mz (hq _ rfl)⟩
 |ref a=>refine ae (Qw h) λo z1=>?_;refine ae (Qw z1.2) λv z2=>?_;exact⟨v.1.toList,beq_iff_eq.mp z2.2,λM A E Q hq=>SO (hK _ _ z1.1) (tD z2.1) (hq _ rfl)⟩
 |_=>cases h
inductive Ir(p:VE)(ns:List Nat)(sc:O1)(names:List Nn):Prop where
 |mk(plain:aaQ p names)
  (enc:names.map enc=ns)
  (nd:ns.Nodup)
  (nz:∀x∈names,Internal.enc x≠0)
  (loc:∀x∈names,sc.names.lookup x=Mc .local)
theorem yV{p:VE}(h:Zq p ns sc=Mh):Ir p ns sc (p.args.map (·.arg)):=by
 unfold Zq at h;simp only[Oe,beq_iff_eq,decide_eq_true_eq,Qm,O9] at h;obtain⟨⟨⟨⟨⟨⟨⟨p1,p2⟩,p3⟩,p4⟩,p5⟩,p6⟩,p7⟩,p8⟩:=h;have e:(p.args.map (·.arg)).map enc=ns:=by rw[OX];exact p5
 refine⟨⟨p1,rfl,p2,p3,p4⟩,e,p6,λx hx=>?_,λx hx=>?_⟩;·have:=NT.mp p7 _ (e▸NA hx);exact bne_iff_ne.mp this
 ·refine ae (ND.mp hx) λa z9=>?_;obtain⟨ha,rfl⟩:=z9;exact beq_iff_eq.mp (NT.mp p8 a ha)
end
inductive Ent(Z:Sys)(K:PO)(Φ:bA)(J:Sg)(A:O8)(f:Mk)(vals:List Md)(ρ:Loc)(s:Ml):Prop
 |mk (o:P8) (fd:Ss) (body:List ON) (binds:List (Nn×Md)):s.heap.get? f=Mc o->o.data=.func fd->s.heap.NoLimit->s.heap.CodeRec fd.code fd.qualname->fd.body=.stmts body->VZ s fd ⟨vals,[]⟩ binds->
   (∀x∈fd.scope.names,x.2≠.cell)->(∀x∈binds,fd.scope.names.lookup x.1=Mc .local)->fd.scope.isCoroutine=Mg->fd.scope.isGenerator=Mg->fd.scope.kind=.function->aL K f=Mc (fd.scope,body)->Φ.o s.heap.objs.size=Mq->
   ky (Sk fd s.heap.objs.size f) fd.scope s.heap.objs.size->WI Z (Φ.with s.heap.objs.size)->
   (∀h₀:Ox,h₀.Ns s.heap.objs.size (λx=>binds.reverse.lookup x)->(∀b o,s.heap.get? b=Mc o->h₀.get? b=Mc o)->St Z (Φ.with s.heap.objs.size) J s.heap.objs.size ρ {s with heap:=h₀,toks:=s.toks+binds.length})->Ent Z K Φ J A f vals ρ s
variable{f:Mk}
theorem ent(hlim:∀h:Ox,(∀a o,Z.base a=Mc o->h.get? a=Mc o)->h.NoLimit)(hK:bF K Z.base)(F:kW K f ns ds=Mh){vals:List Md}(h1:args.length<=ns.length)(h2:ns.length<=args.length+ds.length)(I:Inv Φ J g s.heap)(hb:WI Z Φ)(hg:s.gens=#[])(ho:s.os=Z.os)(hv:vals.map er=args):Ent Z K Φ J A f vals (ns.zip (args++ds.drop (args.length+ds.length-ns.length))) s:=by
 have zqi:_:=xK F;induction zqi with
 |mk o fd body ho' hdat hbd hbi FH=>
 have N:=yV FH.1;have base:∀a o,Z.base a=Mc o->s.heap.get? a=Mc o:=λa o e=>(I.1 a o (hb a o e).1).1.at (hb a o e).2;have X:K.In s.heap:=λa o e=>base a o (hK a o e);generalize fd.params.args.map (·.arg)=names at N;have hlen:names.length=ns.length:=by rw[<-N.2,Mt]
 have hargs:vals.length=args.length:=by rw[<-hv,Mt]
 have hnd:names.Nodup:=jP (N.2▸N.3);refine ae (BU X FH.2.2.2.2.2.2.2.2.2.1) λdv z8=>?_;have hdl':dv.length=ds.length:=by rw[<-z8.1,Mt]
 have F0:=I.fresh (MC _);have hkind:(Sk fd s.heap.objs.size f).scope.kind=.function:=FH.2.2.2.2.2.2.1;have nc:∀x∈fd.scope.names,x.2≠.cell:=λx hx=>bne_iff_ne.mp (NT.mp FH.2.2.2.2.2.2.2.1 x hx);refine⟨o,fd,body,_,X _ _ ho',hdat,hlim _ base,codeRec_of X FH.2.2.2.2.2.2.2.2.1,hbd,qT (ns:=names) (vals:=vals) (ds:=dv) N.1 hnd z8.2 (aS 0x108e114200029941510d50944b521589d4130f [] [_,_,_,_] h1 hlen hargs) (aS 0x108e114200029941510d50944b521589d4130f [] [_,_,_,_] FH.2.2.2.2.2.2.2.2.2.2 hlen hdl') (iK 0x42684908610001a552168a4542513d41510aa219e856472a11c131d [] [_,_,_,_,_,_] h2 hlen hargs hdl'),nc,λx hx=>N.5 _ (Uj hx).1,FH.2.2.2.2.1,FH.2.2.2.2.2.1,FH.2.2.2.2.2.2.1,hbi,F0.2.1,⟨rfl,FH.2.2.2.2.2.2.1,rfl,FH.2.1,FH.2.2.1⟩,λa o e=>⟨(hb a o e).1,λq=>q.elim (λq=>by have:=(hb a o e).1;rw[q,F0.2.1] at this;cases this) (hb a o e).2⟩,λh₀ hns hk=>?_⟩;refine⟨ij g s.heap.objs.size .loc,_,I.XK F0.2.2 (by refine ae hns λo z5=>?_;refine ae z5 λb z6=>?_;refine ae z6 λb z7=>?_;obtain⟨q,_⟩:=z7;exact⟨o,q⟩) hk,bi,hns,λx=>?_,hg,ho⟩;rw[l6 (by rw[Rf (by rw[MH,Pn];exact Hq (by rw[hlen,hargs,hdl'];exact h2))];exact hnd),xf (N.2▸N.3) N.4,N.2,Oc,hv,Tw,z8.1,hargs,hdl',hlen]
set_option backward.match.sparseCases true in theorem XK(B:aN Z Kg){vals:List Md}(hr:oU (n+1) A Φ)(En:Ent Z K Φ J A f vals ρ s){R:Ph->Ml->Prop}(h:∀(sc:O1)(body:List ON)(W:Cn ⟨Kg,sc⟩)(s':Ml),aL K f=Mc (sc,body)->W.Z=Z->W.n=n->W.Φ=Φ.with W.L->W.A=A.deeper W.env->W.env.frame=Mc W.L->Φ.o W.L=Mq->W.St J ρ s'-> Wc.Wi (Mj Z.prog Z.w) W.A (Qb body W.env) (λfl s'=>R (.ok (.ret (match fl with|.ret v=>v|_=>.none))) s') (λe s'=>Wc.Wi (Mj Z.prog Z.w) W.A (UO W.env e) (λa s''=>R (.error e) s'') (λe' s''=>R (.error e') s'') s') s'):Wc.Wv (Mj Z.prog Z.w) A (.call (.ref f) ⟨vals,[]⟩) R s:=by
 induction En with
 |mk o fd body binds a1 a2 a3 a4 a5 a6 a7 a8 a9 b1 b2 b3 b4 b5 b6 b7=>
 exact Wc.Y1 (by have:=hr.1;unfold O4;exact af 0x142c61000117082284740448276b43fa041418 [] [_,_] this) a1 a2 a3 a4 a5 a6 a7 a8 (λh₀ hns hk=>h fd.scope body ⟨Z,Φ.with s.heap.objs.size,s.heap.objs.size,A.deeper (Sk fd s.heap.objs.size f),n,Sk fd s.heap.objs.size f,B,b6,b5,hr.XK b2 rfl,λx hx=>absurd rfl (a7 _ (Xh hx))⟩ _ b3 rfl rfl rfl rfl rfl b4 (b7 h₀ hns hk)) a9 b1 b2
variable{Q:Md->Sg->Prop}
set_option backward.match.sparseCases true in theorem aaY(B:aN Z Kg)(hlim:∀h:Ox,(∀a o,Z.base a=Mc o->h.get? a=Mc o)->h.NoLimit){c:T}(F:wN Z Kg f ns ds c)(h1:args.length<=ns.length)(h2:ns.length<=args.length+ds.length)(h:exec Z n c [] (ns.zip (args++ds.drop (args.length+ds.length-ns.length))) J (bY Q)):ac Z (n+1) (.ref f) args J Q:=λΦ g s A vals I hb hr hg ho hv=>by refine ae F.1 λK z4=>?_;have hc:=z4.2.2;refine XK B hr (ent hlim z4.1 z4.2.1 h1 h2 I hb hg ho hv) λsc body W s' hbi hZ hn hΦ b b h0 x=>?_;unfold dl at hc;rw[hbi,NH] at hc;refine ae (MP.mp hc) λz2 z3=>?_;have c':=z2.1;have ok:=z2.2;obtain rfl:=z3.2;subst hZ hn;refine Wc.Wm (ok W _ J s' (bY Q) x h) (λfl s' hfl=>?_) λb b y=>y.elim;exact qp (r:=λf=>.ok (.ret (match f with|.ret v=>v|_=>.none))) rfl (λI=>Inv.leave h0 (hΦ▸I)) hfl (λb=>rfl) rfl
variable{d:Drawn}{g:Array GenState}
namespace Wc
section
variable{M:RW}{Q:α->Ml->Prop}
theorem aaU{p:Option Md}{k:P8->RV α}(ho:s.heap.get? a=Mc o)(h:Wi M A (k o) Q E s):Wi M A (.load a p k) Q E s:=λΓ q hΓ b c=>⟨o,ho,h Γ q hΓ b c⟩
end
section
variable{R:Ph->Ml->Prop}{os:O5}
theorem Xv{args:Args}{b:Builtin}(hq:(Vn id args).quiet=Mh)(hb:P9 TA id=Mc b)(hd:Yl id=Mg)(h:Wi (Mj prog w) A.in1 (NP id args) (λa s₁=>Wi (Mj prog w) (A.under (.builtin id args)) (b args) (λfin s'=>match fin with|.done f=>R (.ok f) s'|.again c'=>c'.quiet=Mh/\Wv (Mj prog w) A c' R s') (λe s'=>R (.error e) s') s₁) (λe s'=>R (.error e) s') s):Wv (Mj prog w) A (.call (.builtin id) args) R s:=by refine WB rfl ?_;show Wi _ A.in1 (do NP id args;VR (.builtin id args)) _ _ s;refine Wh (Wm h (λa s₁ h₁=>wpAny_pure (An.intro hq (WB hd ?_))) λa a h'=>h');show Wi _ _ (match P9 TA id with|some b=>b args|none=>Uv ((withoutEnding? id "#data").getD id)) _ _ s₁;rw[hb];exact h₁
theorem aah{init:Md}(Y:Makes (Mj prog w) h C)(hi:V7 (Mj prog w) h (Qd (.ref C) "__init__") (Mc init))(hb:∀self,V7 (Mj prog w) h (bindSpecial init self) (init,[self]))(hne:(Mc init !=Mc (Value.builtin "object.__init__"))=Mh)(hq:Wv (Mj prog w) (A.under (.builtin "type.__call__" ⟨.ref C::rest,[]⟩)) (.call init ⟨.ref (h.objs.size+1)::rest,[]⟩) (InitBack (h.objs.size+1) R) ⟨(h.push Ro).push (Sl C h.objs.size),g,d,t,os⟩):Wv (Mj prog w) A (.call (.ref C) ⟨rest,[]⟩) R ⟨h,g,d,t,os⟩:=by
 have Y':=Y;obtain⟨⟨oc,od,cd,sl,hC,e1,e2,e4⟩,made,base,self,top,call,typ⟩:=Y;refine WB rfl ?_;show Wi _ _ (callAny (.ref C) _) _ _ _;refine aaU hC ?_;show Wi _ _ (Vu (.ref C) _) _ _ _;unfold Vu;refine Wh (of (call.at ?_));dsimp only;rw[tc_bind];refine Wh (wpAny_pure (Wh (wpAny_pure ?_)));refine wpAny_pure (a:=Fin.again (.call (.builtin "type.__call__") ⟨.ref C::rest,[]⟩)) (An.intro rfl ?_);refine Xv (QG _ (by decide +kernel)) entry_typeCall (by decide +kernel) (of (check_slot tc_kind tc_split typ (tc_args _ _ _) ?_));have hm:V7 (Mj prog w) h (mroOf (.ref C)) cd.mro:=((Looks.ld (part:=Mq) hC).andThen .now).andThen .now;have hcmp:((MJ C)==TX "type")=false:=rfl;show Wi _ _ (mroOf (.ref C)>>=_) _ _ _;refine Wh (of (hm.at ?_));simp only[e4,QH,if_false];refine Wh (of (made.at ?_));refine Wh (wpAny_pure (Wh (Wn (WN (aag (new_K Y' hi (.inl hne) ?_))))));have k:∀b o,h.get? b=Mc o->((h.push Ro).push (Sl C h.objs.size)).get? b=Mc o:=λb o e=>MD _ (MD _ e);have hx:((h.push Ro).push (Sl C h.objs.size)).get? (h.objs.size+1)=Mc (Sl C h.objs.size):=by heap_get
 have t1:V7 (Mj prog w) ((h.push Ro).push (Sl C h.objs.size)) (Vd (.ref (h.objs.size+1))) (.ref C):=(Looks.ld hx).andThen .now;have s1:=self.keeps k;have i1:=hi.keeps k;have b1:=(hb (.ref (h.objs.size+1))).keeps k;refine Wh (of (Mf (t1.at (s1.at ?_))));refine Wh (Wn (Wh (of (Mf (t1.at (i1.at ?_))))));refine Wn (Wh (of (b1.at ?_)));refine Wh (WN (WO hq λr s' z=>?_));rcases r with e|(v|_|_|_)<;>first|exact z|exact z.elim|skip
 obtain rfl:=z.1;have z:=z.2;exact wpAny_pure (wpAny_pure z)
end
end Wc
theorem HO(a:Args):(Vn "type.__call__" a).cUnits=1:=by kernel_rfl
theorem Inv.Wu{Φ:bA}{J:Sg}{g:Mk->Own}{h:Ox}{C:Mk}(I:Inv Φ J g h):Inv Φ (upd J (h.objs.size+1) (.Wu C [])) (ij (ij g h.objs.size (.part (h.objs.size+1))) (h.objs.size+1) .obj) ((h.push Ro).push (Sl C h.objs.size)):=by
 have F:=I.fresh (MC _);have F1:=I.fresh (Qe h.objs.size);have hd:((h.push Ro).push (Sl C h.objs.size)).get? h.objs.size=Mc emptyDict:=by heap_get
 have hx:((h.push Ro).push (Sl C h.objs.size)).get? (h.objs.size+1)=Mc (Sl C h.objs.size):=by heap_get
 have hne:h.objs.size≠h.objs.size+1:=Nd (M9 _);have I1:=((I.Wx Ro).Wx (Sl C h.objs.size)).Y6 (x:=.part (h.objs.size+1)) F.2.2 ⟨_,hd⟩;have I2:=I1.Y6 (a:=h.objs.size+1) (x:=.obj) ((c6 hne.symm).trans F1.2.2) ⟨_,hx⟩;exact I2.cell bi F1.1 ⟨h.objs.size,λb=>Mq,#[],0,hx,(c6 hne).trans bi,(Heap.Ns.new h (.type "dict")).keeps λb o e=>MD _ e,hd,λx=>rfl,(λx v e=>nomatch e),MC _,Nb _,(λc e=>nomatch e)⟩
theorem aaE(B:aN Z Kg)(hf:mt C (enc ("__init__":Nn))=Mc f)(h:∀x,J x=Mq->ac Z n (.ref f) (.ref x::args) (upd J x (.Wu C [])) (λv J'=>v=.none/\Q (.ref x) J')):ac Z (n+1) (.ref C) args J Q:=by
 intro Φ g s A vals I hb hr hg ho hv;have zqi:_:=(B.3 C (jd hf)).Yj;induction zqi with
 |mk K hK F=>
 have X:K.In s.heap:=λa o e=>(I.1 a o (hb a o (hK a o e)).1).1.at (hb a o (hK a o e)).2;have m:=F.10 _ f (by decide) hf;obtain⟨hh,gg,d,t,os⟩:=s;refine Wc.aah (makes_of X F.5) (PG X m.1) (λself=>bind_fn X self (beq_iff_eq.mp m.2.1)) rfl ?_;have hx:=(I.fresh (Qe hh.objs.size)).1;refine Wc.WO (h _ hx Φ _ _ _ (.ref (hh.objs.size+1)::vals) I.Wu hb ⟨by have:=hr.1;show A.depth+1+_<=_;exact af 0x1080004f8411423a022413b5a1f082a8089104cf76b43 [] [_,_] this,?_,hr.2.2⟩ hg ho (by rw[Nm,hv];rfl)) λr s' z=>?_;·show A.units+(Vn "type.__call__" ⟨.ref C::vals,[]⟩).cUnits+60*n<=9000;rw[HO];have:=hr.2.1;exact af 0x42000138ca04508fc04c82773488ca0578099104cf77348 [] [_,_] this
 ·refine ga z λv J' g' z1=>?_;rw[z1.1];rw[pT z1.2.2.2.2.1];exact⟨rfl,.ref (hh.objs.size+1),J',g',rfl,z1.2.1,z1.2.2.1,z1.2.2.2.1,z1.2.2.2.2.2⟩
section
open T renaming ld→F,fld→k',meth→l',XM→d',ite→f',call→i',XF→A',pop→j',seq→n',ret→a',Wy→e',idx→p',eqv→q',cmp→s',cst→U,W9→v',Xy→y',bin→C',yld→w',rai→x'
open T
noncomputable abbrev G(z:Int):=T.cst (.int z 0)
noncomputable abbrev Y(z:Nat):=T.cst (.ref z)
noncomputable abbrev O(z:Nat)(y:T):T:=.ld JL (.fld z y)
noncomputable abbrev m'(z:Nat)(y:T):T:=.ld JL (.XF z y)
noncomputable abbrev r'(z:Nat)(y:T):T:=.ld JL (.meth z y)
noncomputable abbrev o':=T.bin .add
noncomputable abbrev u':=T.bin .sub
noncomputable abbrev z':=T.bin .mul
noncomputable abbrev B':=T.bin .shl
noncomputable abbrev D':=T.bin .Zc
noncomputable abbrev E':=T.bin .shr
noncomputable abbrev jx:T:=F I8<|m' I8<|YO<|m' I9<|U .none<|a'
noncomputable abbrev j3:T:=O I8<|a'
noncomputable abbrev gy:T:=n' (G 0<|F JM<|XJ .le<|f' (O I8<|s' .lt<|f' (e')<|x')<|j'<|x')<|O I9<|bm 6776180<|F JM<|G 1024<|cb 2<|a'
noncomputable abbrev gv:T:=n' (G 0<|F JM<|XJ .le<|f' (O I8<|s' .lt<|f' (e')<|x')<|j'<|x')<|F JN<|O I9<|F JM<|XD<|U .none<|a'
noncomputable abbrev wq:T:=blk (F I8<|G 64<|s' .le<|f' (G 1024<|v' 1<|F I8<|z'<|w')<|Y 159<|F I8<|i' 1<|w')<|a'
noncomputable abbrev jq:T:=F 27747<|G 8<|y' 2<|F 27760<|G 4<|y' 2<|F 28770<|G 4<|y' 2<|y' 3<|Wz .seq (unp 2<|st JO<|st Jt<|n' (F JO<|isi (.type "int")<|f' (G 0<|F JO<|XJ .le<|f' (F Jt<|s' .le<|f' (e')<|x')<|j'<|x')<|x')<|e')<|F 27747<|m' 27747<|F 27760<|m' 27760<|F 28770<|m' 28770<|U .none<|a'
noncomputable abbrev iY:T:=G 768<|O 27747<|O 27760<|o'<|B'<|a'
noncomputable abbrev jF:T:=F Ju<|G 1<|O 28770<|B'<|G 1<|u'<|D'<|a'
noncomputable abbrev jZ:T:=n' (F Jw<|G 4<|s' .lt<|f' (G 0<|a')<|e')<|blk (F Jw<|G 10<|s' .lt<|f' (F Jw<|G 3<|u'<|w')<|F Jw<|G 6<|u'<|w')<|a'
noncomputable abbrev ma:T:=blk (F Jw<|G 7<|s' .lt<|f' (G 7<|w')<|G 10<|w')<|a'
noncomputable abbrev oY:T:=blk (F Jw<|G 7<|s' .lt<|f' (G 8<|w')<|G 11<|w')<|a'
noncomputable abbrev lP:T:=blk (F Jw<|G 7<|s' .lt<|f' (G 9<|w')<|G 11<|w')<|a'
noncomputable abbrev ib:T:=F Jw<|G 7<|s' .lt<|a'
noncomputable abbrev kL:T:=F JP<|G 2<|u'<|G 4<|G 1<|u'<|YU<|a'
noncomputable abbrev o8:T:=n' (F JQ<|G 4<|s' .lt<|f' (G 0<|F JQ<|y' 2<|a')<|e')<|F JQ<|G 1<|E'<|G 1<|u'<|st JR<|F JR<|G 2<|F JQ<|G 1<|D'<|C' .bor<|F JR<|B'<|y' 2<|a'
noncomputable abbrev sH:T:=F JS<|G 1<|u'<|st JO<|n' (F JO<|G 4<|s' .lt<|f' (F JO<|G 0<|F JO<|y' 3<|a')<|e')<|F JO<|bm JK<|cb 0<|G 1<|u'<|st Lg<|G 2<|F Lg<|z'<|F JO<|F Lg<|G 1<|u'<|E'<|G 1<|D'<|o'<|st JQ<|Y 262<|F JQ<|i' 1<|unp 2<|st JR<|st JT<|F JQ<|F JR<|F JT<|y' 3<|a'
noncomputable abbrev ei:T:=F LY<|m' LY<|v' 0<|m' LC<|v' 0<|m' LO<|v' 0<|m' 7170404<|v' 0<|m' Lg<|r' IF<|d' 0<|j'<|U .none<|a'
noncomputable abbrev f8:T:=Y 170<|G 2<|i' 1<|m' LC<|Y 170<|G 8<|O LY<|z'<|i' 1<|m' LO<|Y 170<|G 8<|O LY<|z'<|i' 1<|m' 7170404<|Y 170<|G 256<|i' 1<|m' Lg<|U .none<|a'
noncomputable abbrev iW:T:=F Jm<|m' Jm<|v' 0<|m' LL<|v' 0<|m' LT<|v' 0<|m' Jh<|v' 0<|m' Jj<|v' 0<|m' Jk<|v' 0<|m' Ji<|v' 0<|m' Jo<|v' 0<|m' Jp<|v' 0<|m' Mb<|v' 0<|m' IC<|Y 293<|G 1<|F Jm<|k' 28770<|B'<|i' 1<|m' Jl<|Y 293<|G 1<|F Jm<|k' 28770<|B'<|i' 1<|m' Jn<|r' IF<|d' 0<|j'<|U .none<|a'
noncomputable abbrev kR:T:=Y 170<|G 12<|G 16<|z'<|i' 1<|m' LL<|Y 170<|G 12<|i' 1<|m' LT<|Y 170<|G 12<|i' 1<|m' Jh<|Y 170<|G 12<|i' 1<|m' Jj<|Y 170<|G 12<|i' 1<|m' Jk<|Y 170<|G 12<|G 16<|z'<|i' 1<|m' Ji<|Y 170<|G 4<|G 64<|z'<|i' 1<|m' Jo<|Y 170<|G 1<|G 128<|o'<|G 14<|u'<|i' 1<|m' Jp<|Y 170<|G 1<|G 4<|B'<|i' 1<|m' Mb<|Y 170<|O Jm<|l' IC<|d' 0<|i' 1<|m' IC<|O Jl<|l' IF<|d' 0<|j'<|O Jn<|l' IF<|d' 0<|j'<|U .none<|a'
noncomputable abbrev mK:T:=F Jw<|G 16<|z'<|O Jm<|l' ID<|F Ju<|d' 1<|o'<|a'
noncomputable abbrev gD:T:=G 64<|Y 255<|F JP<|i' 1<|z'<|a'
noncomputable abbrev eD:T:=Y 262<|F JQ<|i' 1<|unp 2<|st JR<|st JT<|F JT<|F JQ<|u'<|a'
noncomputable abbrev eY:T:=F Ju<|G 1<|O Jm<|k' 27760<|B'<|G 1<|u'<|D'<|O Jm<|k' 27747<|B'<|st Lg<|G 768<|F Lg<|F JU<|G 8<|O Jm<|k' 27747<|u'<|E'<|o'<|z'<|a'
noncomputable abbrev jW:T:=F Jq<|Yh<|m' Jq<|U .none<|a'
noncomputable abbrev nJ:T:=O Jq<|G 0<|p'<|a'
noncomputable abbrev ql:T:=O Jq<|F JM<|p'<|st JS<|F JS<|v' 1<|O Jq<|U .none<|F JM<|sli<|o'<|O Jq<|F JM<|G 1<|o'<|U .none<|sli<|o'<|m' Jq<|F JS<|a'
noncomputable abbrev qi:T:=F JS<|v' 1<|O Jq<|U .none<|G 3<|sli<|o'<|m' Jq<|U .none<|a'
noncomputable abbrev m6:T:=n' (F JV<|l' IZ<|F Js<|k' LC<|G 0<|d' 2<|G 0<|q' Mg<|f' (G 2<|F JV<|l' I4<|F Js<|k' LO<|G 8<|F 7368563<|z'<|G 3<|d' 3<|o'<|a')<|e')<|n' (F JV<|l' IZ<|F Js<|k' LC<|G 1<|d' 2<|G 0<|q' Mg<|f' (G 2<|G 8<|o'<|F JV<|l' I4<|F Js<|k' 7170404<|G 8<|F 7368563<|z'<|G 3<|d' 3<|o'<|a')<|e')<|G 2<|G 2<|G 8<|z'<|o'<|F JV<|l' I4<|F Js<|k' Lg<|G 0<|G 8<|d' 3<|o'<|a'
noncomputable abbrev j2:T:=F JV<|l' I4<|F Js<|k' Jo<|F Js<|l' II<|F JP<|d' 1<|G 6<|d' 3<|st JQ<|n' (F JQ<|G 4<|s' .lt<|f' (F JQ<|G 1<|o'<|a')<|e')<|Y 262<|F JQ<|i' 1<|unp 2<|st JR<|st JT<|n' (F JQ<|G 14<|s' .lt<|f' (F JT<|F JV<|l' I5<|F Js<|k' Jp<|F Js<|l' IJ<|F JQ<|d' 1<|F JR<|d' 3<|o'<|G 1<|o'<|a')<|e')<|F JV<|l' 110404053590900<|F JR<|G 4<|u'<|d' 1<|st Lg<|F JT<|F Lg<|G 4<|B'<|o'<|F JV<|l' I5<|F Js<|k' Mb<|G 0<|G 4<|d' 3<|o'<|G 1<|o'<|a'
noncomputable abbrev kN:T:=G 1<|st JW<|whl (F JW<|G 256<|s' .lt<|f' (F JW<|G 1<|B'<|F JV<|l' IZ<|F IC<|F JE<|F JW<|o'<|d' 2<|C' .bor<|st JW<|e')<|brk)<|F JW<|G 256<|u'<|a'
noncomputable abbrev kP:T:=G 1<|F 108187867505765<|y' 2<|unp 2<|st JW<|st JX<|whl (F JW<|G 256<|s' .lt<|f' (F JX<|G 7<|E'<|G 1<|D'<|st JY<|F JX<|G 1<|B'<|st JX<|F JV<|l' IZ<|F IC<|F JE<|G 1<|F JY<|o'<|G 8<|B'<|o'<|F JW<|o'<|d' 2<|st IZ<|F JW<|G 1<|B'<|F IZ<|C' .bor<|st JW<|n' (F IZ<|F JY<|q' Mh<|f' (brk)<|e')<|e')<|brk)<|whl (F JW<|G 256<|s' .lt<|f' (F JW<|G 1<|B'<|F JV<|l' IZ<|F IC<|F JE<|F JW<|o'<|d' 2<|C' .bor<|st JW<|e')<|brk)<|F JW<|G 256<|u'<|a'
noncomputable abbrev pC:T:=n' (F JZ<|G 0<|p'<|inn Mg [(.str "match" 0),(.str "rep" 0)]<|f' (F JZ<|G 2<|p'<|a')<|e')<|blk (F JZ<|G 0<|p'<|U (.str "end" 0)<|q' Mg<|f' (G 0<|w')<|G 1<|w')<|a'
noncomputable abbrev d9:T:=F Js<|m' Js<|F Jx<|m' Jx<|F Jt<|m' Jt<|G 0<|m' Ju<|G 0<|m' Jw<|Y 407<|i' 0<|m' Jv<|U (.bool Mg)<|m' Jr<|U .none<|a'
noncomputable abbrev dA:T:=n' (F JS<|O Jx<|prop 1751217765<|s' .gt<|f' (x')<|e')<|U .none<|a'
noncomputable abbrev d4:T:=n' (O Jt<|isn Mh<|f' (O Ju<|F JP<|o'<|O Jt<|s' .gt<|f' (x')<|e')<|e')<|U .none<|a'
noncomputable abbrev cQ:T:=blk (O Ju<|G 0<|s' .gt<|f' (O Jx<|prop 1751217765<|G 0<|s' .gt<|f' (O Jx<|l' IW<|G 1<|d' 1<|w')<|G 0<|w')<|G 0<|w')<|st JU<|O Js<|l' IK<|O Ju<|F JU<|d' 2<|st JE<|n' (Y 248<|O Jw<|i' 1<|f' (Y 432<|F JV<|O Js<|k' IC<|F JE<|i' 3<|st IB<|e')<|r' IM<|O Jv<|l' IL<|d' 0<|d' 1<|j'<|Y 439<|F JV<|O Js<|k' IC<|F JE<|O Jx<|l' IW<|O Jv<|l' IL<|d' 0<|d' 1<|i' 4<|st IB<|e')<|Y 220<|O Jw<|i' 1<|m' Jw<|U (.str "lit" 0)<|F IB<|y' 2<|a'
noncomputable abbrev dn:T:=Y 418<|F JV<|O Js<|k' Jl<|O Js<|k' Jm<|l' ID<|O Ju<|d' 1<|i' 3<|st JP<|Y 425<|F JV<|O Js<|F JP<|i' 3<|st JS<|Y 227<|O Jw<|i' 1<|m' Jw<|n' (F JS<|G 4294967296<|q' Mg<|f' (U (.str "end" 0)<|y' 1<|a')<|e')<|r' IM<|F JS<|d' 1<|j'<|O Jv<|l' 7370100<|F JS<|d' 1<|j'<|U (.str "match" 0)<|F JS<|F JP<|y' 3<|a'
noncomputable abbrev dC:T:=n' (F JV<|l' IZ<|O Js<|k' Jj<|O Jw<|d' 2<|G 0<|q' Mg<|f' (G 1<|a')<|e')<|G 2<|F JV<|l' IZ<|O Js<|k' Jk<|O Jw<|d' 2<|o'<|a'
noncomputable abbrev d8:T:=G 0<|st JM<|n' (F JV<|l' IZ<|O Js<|k' Jh<|O Jw<|d' 2<|G 1<|q' Mg<|f' (r' 2110238271504539477368<|F JV<|d' 1<|st JM<|e')<|n' (F JV<|l' IZ<|O Js<|k' Ji<|O Js<|l' IG<|O Jw<|O Ju<|d' 2<|d' 2<|G 0<|q' Mg<|f' (r' IM<|O Jv<|l' IL<|d' 0<|d' 1<|j'<|Y 241<|O Jw<|i' 1<|m' Jw<|U (.str "short" 0)<|y' 1<|a')<|e')<|e')<|r' IM<|O Jv<|l' 7697253<|F JM<|d' 1<|d' 1<|j'<|Y 418<|F JV<|O Js<|k' Jn<|O Js<|k' Jm<|l' ID<|O Ju<|d' 1<|i' 3<|st JP<|Y 234<|O Jw<|i' 1<|m' Jw<|U (.str "rep" 0)<|F JM<|F JP<|y' 3<|a'
noncomputable abbrev dI:T:=n' (F JV<|l' IZ<|O Js<|k' LL<|O Js<|l' IG<|O Jw<|O Ju<|d' 2<|d' 2<|G 0<|q' Mg<|f' (r' 33551867937639955759409423728<|F JV<|d' 1<|a')<|e')<|n' (F JV<|l' IZ<|O Js<|k' LT<|O Jw<|d' 2<|G 0<|q' Mg<|f' (r' 516535667469631416984944<|F JV<|d' 1<|a')<|e')<|r' 8243118248232772976<|F JV<|d' 1<|a'
noncomputable abbrev gw:T:=n' (F JZ<|G 0<|p'<|U (.str "end" 0)<|q' Mg<|f' (U (.bytes #[] 0)<|a')<|e')<|Y 446<|F JZ<|i' 1<|st JP<|r' 7887337266063239540<|F JP<|d' 1<|j'<|O Ju<|F JP<|o'<|m' Ju<|n' (F JZ<|G 0<|p'<|U (.str "lit" 0)<|q' Mg<|f' (O Jx<|l' 7370100<|F JZ<|G 1<|p'<|d' 1<|j'<|F JZ<|G 1<|p'<|v' 1<|Xa<|a')<|e')<|O Jx<|l' 1668247673<|O Jv<|l' IL<|d' 0<|F JP<|d' 2<|a'
noncomputable abbrev nS:T:=n' (F JO<|isi (.type "int")<|f' (F JO<|isi (.type "bool")<|f' (x')<|e')<|x')<|U .none<|a'
noncomputable abbrev mT:T:=Y 588<|F JO<|F 2003792484<|i' 2<|j'<|n' (F JO<|F 465557353332<|s' .lt<|f' (x')<|F Jt<|isn Mh<|f' (F JO<|F Jt<|s' .gt<|f' (x')<|e')<|e')<|U .none<|a'
noncomputable abbrev mx:T:=n' (F JZ<|isi (.type "tuple")<|f' (F JZ<|len<|G 0<|q' Mg<|f' (x')<|F JZ<|G 0<|p'<|inn Mh [(.str "lit" 0),(.str "match" 0),(.str "rep" 0),(.str "short" 0)]<|f' (x')<|e')<|x')<|n' (F JZ<|G 0<|p'<|inn Mg [(.str "lit" 0),(.str "short" 0)]<|f' (n' (F JZ<|len<|G 1<|q' Mh<|f' (x')<|e')<|G 1<|a')<|e')<|n' (F JZ<|len<|G 3<|q' Mh<|f' (x')<|e')<|Y 588<|F JZ<|G 1<|p'<|U (.str "step" 0)<|i' 2<|j'<|Y 595<|F JZ<|G 2<|p'<|G 2<|G 273<|U (.str "step" 0)<|i' 4<|j'<|F JZ<|G 2<|p'<|a'
noncomputable abbrev si:T:=n' (G 1<|F JS<|XJ .le<|f' (F IW<|s' .le<|f' (F IW<|F JP<|o'<|F IX<|len<|s' .gt<|f' (U (.bool Mg)<|a')<|e')<|U (.bool Mg)<|a')<|j'<|U (.bool Mg)<|a')<|F IW<|F IW<|F JP<|o'<|Wz (.rng Mg) (st 1751478885<|n' (F IX<|F 1751478885<|p'<|F IX<|F 1751478885<|F JS<|u'<|p'<|q' Mh<|f' (U (.bool Mg)<|a')<|e')<|e')<|U (.bool Mh)<|a'
noncomputable abbrev kM:T:=n' (F JS<|F IW<|s' .gt<|f' (x')<|e')<|F IX<|F IW<|F JS<|u'<|p'<|a'
noncomputable abbrev f6:T:=F Js<|m' Js<|F Jy<|m' Jy<|U .none<|a'
noncomputable abbrev dX:T:=O Jy<|l' IZ<|O Js<|k' LL<|O Js<|l' IG<|F Jw<|F Ju<|d' 2<|G 0<|d' 3<|j'<|O Js<|l' IK<|F Ju<|F JU<|d' 2<|st JE<|n' (Y 248<|F Jw<|i' 1<|f' (r' IO<|F JE<|G 1<|F IB<|G 8<|d' 4<|j'<|e')<|r' IP<|F JE<|F IB<|F L9<|d' 3<|j'<|e')<|U .none<|a'
noncomputable abbrev fE:T:=F I8<|G 1<|u'<|G 1<|neg<|Wz (.rng Mh) (st I6<|F IB<|F I6<|E'<|G 1<|D'<|st IZ<|O Jy<|l' IZ<|O Js<|k' IC<|F JE<|F Ka<|o'<|F IZ<|d' 3<|j'<|G 2<|F Ka<|z'<|F IZ<|o'<|st Ka<|e')<|U .none<|a'
noncomputable abbrev eN:T:=G 1<|st Ka<|G 7<|G 1<|neg<|Wz (.rng Mh) (st I6<|F L9<|F I6<|E'<|G 1<|D'<|st 7381244094354254948<|F IB<|F I6<|E'<|G 1<|D'<|st IZ<|O Jy<|l' IZ<|O Js<|k' IC<|F JE<|G 1<|F 7381244094354254948<|o'<|G 8<|B'<|o'<|F Ka<|o'<|F IZ<|d' 3<|j'<|G 2<|F Ka<|z'<|F IZ<|o'<|st Ka<|n' (F IZ<|F 7381244094354254948<|q' Mh<|f' (r' IO<|F JE<|F Ka<|F IB<|F I6<|d' 4<|j'<|U .none<|a')<|e')<|e')<|U .none<|a'
noncomputable abbrev eR:T:=F JP<|G 2<|u'<|st JO<|G 8<|O Js<|k' Jm<|l' ID<|F Ju<|d' 1<|z'<|st Jq<|n' (F JO<|G 8<|s' .lt<|f' (O Jy<|l' IZ<|F Jl<|k' LC<|G 0<|G 0<|d' 3<|j'<|O Jy<|l' I4<|F Jl<|k' LO<|F Jq<|G 3<|F JO<|d' 4<|j'<|U .none<|a')<|e')<|O Jy<|l' IZ<|F Jl<|k' LC<|G 0<|G 1<|d' 3<|j'<|n' (F JO<|G 16<|s' .lt<|f' (O Jy<|l' IZ<|F Jl<|k' LC<|G 1<|G 0<|d' 3<|j'<|O Jy<|l' I4<|F Jl<|k' 7170404<|F Jq<|G 3<|F JO<|G 8<|u'<|d' 4<|j'<|U .none<|a')<|e')<|O Jy<|l' IZ<|F Jl<|k' LC<|G 1<|G 1<|d' 3<|j'<|O Jy<|l' I4<|F Jl<|k' Lg<|G 0<|G 8<|F JO<|G 16<|u'<|d' 4<|j'<|U .none<|a'
noncomputable abbrev dF:T:=Y 269<|F JS<|i' 1<|unp 3<|st JQ<|st JR<|st JT<|O Jy<|l' I4<|O Js<|k' Jo<|O Js<|l' II<|F JP<|d' 1<|G 6<|F JQ<|d' 4<|j'<|n' (F JR<|G 0<|q' Mg<|f' (U .none<|a')<|e')<|F JS<|G 1<|u'<|F JT<|u'<|st JX<|n' (F JQ<|G 14<|s' .lt<|f' (O Jy<|l' I5<|O Js<|k' Jp<|O Js<|l' IJ<|F JQ<|d' 1<|F JR<|F JX<|d' 4<|j'<|U .none<|a')<|e')<|O Jy<|l' 110404053590900<|F JR<|G 4<|u'<|F JX<|G 4<|E'<|d' 2<|j'<|O Jy<|l' I5<|O Js<|k' Mb<|G 0<|G 4<|F JX<|G 1<|G 4<|B'<|G 1<|u'<|D'<|d' 4<|j'<|U .none<|a'
noncomputable abbrev fC:T:=O Jy<|l' IZ<|O Js<|k' LL<|O Js<|l' IG<|F Jw<|F Ju<|d' 2<|G 1<|d' 3<|j'<|O Jy<|l' IZ<|O Js<|k' LT<|F Jw<|G 0<|d' 3<|j'<|r' IQ<|O Js<|k' Jl<|F Ju<|F JP<|d' 3<|j'<|r' IR<|F JS<|F JP<|d' 2<|j'<|U .none<|a'
noncomputable abbrev fh:T:=n' (F JM<|G 0<|q' Mg<|f' (O Jy<|l' IZ<|O Js<|k' Jh<|F Jw<|G 0<|d' 3<|j'<|O Jy<|l' IZ<|O Js<|k' Ji<|O Js<|l' IG<|F Jw<|F Ju<|d' 2<|G 1<|d' 3<|j'<|U .none<|a')<|e')<|O Jy<|l' IZ<|O Js<|k' Jh<|F Jw<|G 1<|d' 3<|j'<|n' (F JM<|G 1<|q' Mg<|f' (O Jy<|l' IZ<|O Js<|k' Jj<|F Jw<|G 0<|d' 3<|j'<|U .none<|a')<|e')<|O Jy<|l' IZ<|O Js<|k' Jj<|F Jw<|G 1<|d' 3<|j'<|O Jy<|l' IZ<|O Js<|k' Jk<|F Jw<|F JM<|G 2<|u'<|d' 3<|j'<|U .none<|a'
noncomputable abbrev gx:T:=Y 595<|F JM<|G 0<|G 3<|U (.str "index" 0)<|i' 4<|j'<|O Jy<|l' IZ<|O Js<|k' LL<|O Js<|l' IG<|F Jw<|F Ju<|d' 2<|G 1<|d' 3<|j'<|O Jy<|l' IZ<|O Js<|k' LT<|F Jw<|G 1<|d' 3<|j'<|r' 2074498830761634063736<|F Jw<|F Ju<|F JM<|d' 3<|j'<|r' IQ<|O Js<|k' Jn<|F Ju<|F JP<|d' 3<|j'<|U .none<|a'
noncomputable abbrev ft:T:=O Jy<|l' IZ<|O Js<|k' LL<|O Js<|l' IG<|F Jw<|F Ju<|d' 2<|G 1<|d' 3<|j'<|O Jy<|l' IZ<|O Js<|k' LT<|F Jw<|G 1<|d' 3<|j'<|O Jy<|l' IZ<|O Js<|k' Jh<|F Jw<|G 0<|d' 3<|j'<|O Jy<|l' IZ<|O Js<|k' Ji<|O Js<|l' IG<|F Jw<|F Ju<|d' 2<|G 0<|d' 3<|j'<|U .none<|a'
noncomputable abbrev fJ:T:=Y 630<|F JL<|F Js<|F Jy<|i' 3<|j'<|G 0<|m' Ju<|G 0<|m' Jw<|Y 407<|i' 0<|m' Jv<|U .none<|a'
noncomputable abbrev dV:T:=Y 588<|F JS<|U (.str "distance" 0)<|i' 2<|j'<|n' (G 1<|F JS<|XJ .le<|f' (O Ju<|s' .le<|f' (e')<|x')<|j'<|x')<|U .none<|a'
noncomputable abbrev di:T:=Y 595<|F JP<|G 2<|G 273<|U (.str "length" 0)<|i' 4<|j'<|U .none<|a'
noncomputable abbrev fY:T:=F IB<|F JU<|F L9<|y' 3<|Wz .seq (st JO<|Y 595<|F JO<|G 0<|G 255<|U (.str "octet" 0)<|i' 4<|j'<|e')<|r' IN<|O Jw<|O Ju<|F JU<|F IB<|F L9<|d' 5<|j'<|Y 220<|O Jw<|i' 1<|m' Jw<|F JL<|dup<|k' Ju<|G 1<|iop .add<|W7<|A' Ju<|U .none<|a'
noncomputable abbrev ii:T:=r' IT<|F JS<|d' 1<|j'<|r' IU<|F JP<|d' 1<|j'<|r' IS<|O Jw<|O Ju<|F JS<|F JP<|d' 4<|j'<|O Jv<|l' 7370100<|F JS<|d' 1<|j'<|Y 227<|O Jw<|i' 1<|m' Jw<|F JL<|dup<|k' Ju<|F JP<|iop .add<|W7<|A' Ju<|U .none<|a'
noncomputable abbrev jn:T:=Y 595<|F JM<|G 0<|G 3<|U (.str "index" 0)<|i' 4<|j'<|r' IT<|O Jv<|k' Jq<|F JM<|p'<|d' 1<|j'<|r' IU<|F JP<|d' 1<|j'<|r' 31654340069582192<|O Jw<|O Ju<|F JM<|F JP<|d' 4<|j'<|O Jv<|l' 7697253<|F JM<|d' 1<|j'<|Y 234<|O Jw<|i' 1<|m' Jw<|F JL<|dup<|k' Ju<|F JP<|iop .add<|W7<|A' Ju<|U .none<|a'
noncomputable abbrev il:T:=r' IT<|O Jv<|l' IL<|d' 0<|d' 1<|j'<|r' 2074498830804483797620<|O Jw<|O Ju<|d' 2<|j'<|Y 241<|O Jw<|i' 1<|m' Jw<|F JL<|dup<|k' Ju<|G 1<|iop .add<|W7<|A' Ju<|U .none<|a'
noncomputable abbrev fv:T:=r' IS<|O Jw<|O Ju<|G 4294967296<|G 2<|d' 4<|j'<|Y 227<|O Jw<|i' 1<|m' Jw<|U .none<|a'
noncomputable abbrev cY:T:=blk (Y 248<|O Jw<|i' 1<|f' (G 0<|w')<|Y 616<|F IX<|F IW<|O Jv<|l' IL<|d' 0<|i' 3<|w')<|a'
noncomputable abbrev dG:T:=n' (F JZ<|G 0<|p'<|U (.str "match" 0)<|q' Mg<|f' (F JZ<|G 1<|p'<|a')<|e')<|n' (F JZ<|G 0<|p'<|U (.str "rep" 0)<|q' Mg<|f' (Y 595<|F JZ<|G 1<|p'<|G 0<|G 3<|U (.str "index" 0)<|i' 4<|j'<|O Jv<|k' Jq<|F JZ<|G 1<|p'<|p'<|a')<|e')<|O Jv<|l' IL<|d' 0<|a'
noncomputable abbrev d6:T:=Y 602<|F JZ<|i' 1<|st JP<|n' (F IW<|F JP<|o'<|F IX<|len<|s' .gt<|f' (x')<|e')<|n' (F JZ<|G 0<|p'<|U (.str "lit" 0)<|q' Mg<|f' (blk (O Ju<|G 0<|s' .gt<|f' (Y 616<|F IX<|F IW<|G 1<|i' 3<|w')<|G 0<|w')<|st JU<|r' 30515246123868524<|F IX<|F IW<|p'<|F JU<|r' IV<|F IX<|F IW<|d' 2<|d' 3<|j'<|F IW<|G 1<|o'<|a')<|e')<|r' 121390560203838061138636646<|F JZ<|d' 1<|st JS<|r' IT<|F JS<|d' 1<|j'<|n' (Y 609<|F IX<|F IW<|F JS<|F JP<|i' 4<|f' (e')<|x')<|n' (F JZ<|G 0<|p'<|U (.str "match" 0)<|q' Mg<|f' (r' 469786452840<|F JS<|F JP<|d' 2<|j'<|e')<|n' (F JZ<|G 0<|p'<|U (.str "rep" 0)<|q' Mg<|f' (r' 7497072<|F JZ<|G 1<|p'<|F JP<|d' 2<|j'<|e')<|r' 495673373300<|d' 0<|j'<|e')<|e')<|F IW<|F JP<|o'<|a'
noncomputable abbrev dD:T:=F JE<|st IW<|F Kb<|Wz .seq (st JZ<|r' 564072139095822583489904<|F JZ<|F IX<|F IW<|d' 3<|st IW<|e')<|F IW<|a'
noncomputable abbrev iQ:T:=n' (F I7<|G 1<|s' .lt<|f' (x')<|e')<|F I7<|m' I7<|G 0<|m' 500086104428<|r' 427020345714<|d' 0<|j'<|U .none<|a'
noncomputable abbrev kK:T:=YC<|m' Jz<|G 0<|m' JA<|U .none<|a'
noncomputable abbrev mR:T:=O Jz<|len<|a'
noncomputable abbrev nu:T:=n' (O Jz<|len<|O I7<|s' .lt<|f' (O Jz<|bm JJ<|F IB<|cb 1<|j'<|e')<|F IB<|O Jz<|O JA<|XD<|e')<|F JL<|dup<|k' JA<|G 1<|iop .add<|W7<|A' JA<|n' (O JA<|O I7<|q' Mg<|f' (G 0<|m' JA<|e')<|e')<|F JL<|dup<|k' 500086104428<|G 1<|iop .add<|W7<|A' 500086104428<|U .none<|a'
noncomputable abbrev mG:T:=n' (F JS<|G 1<|s' .lt<|f' (x')<|F JS<|F JL<|prop 1751217765<|s' .gt<|f' (x')<|e')<|U .none<|a'
noncomputable abbrev pZ:T:=r' 1852138852<|F JS<|d' 1<|j'<|O JA<|F JS<|u'<|st Ju<|O Jz<|blk (F Ju<|G 0<|s' .ge<|f' (F Ju<|w')<|F Ju<|O Jz<|len<|o'<|w')<|p'<|a'
noncomputable abbrev l8:T:=r' 1852138852<|F JS<|d' 1<|j'<|YC<|st 1953459300<|G 0<|F JP<|Wz (.rng Mg) (st 1953854062<|r' IW<|F JS<|d' 1<|st IB<|r' 7370100<|F IB<|d' 1<|j'<|F 1953459300<|bm JJ<|F IB<|cb 1<|j'<|e')<|F 1953459300<|Xa<|a'
noncomputable abbrev nP:T:=n' (F IZ<|G 0<|q' Mg<|f' (F JN<|G 2048<|F JN<|u'<|G 5<|E'<|o'<|a')<|e')<|F JN<|F JN<|G 5<|E'<|u'<|a'
noncomputable abbrev qr:T:=n' (F IZ<|inn Mh [(.int 0 0),(.int 1 0)]<|f' (x')<|e')<|U .none<|a'
noncomputable abbrev nK:T:=n' (F I8<|G 0<|s' .lt<|f' (x')<|G 0<|F Kc<|XJ .le<|f' (G 1<|F I8<|B'<|s' .lt<|f' (e')<|x')<|j'<|x')<|U .none<|a'
noncomputable abbrev e9:T:=F IX<|Xa<|m' JC<|blk (F 6647396<|isn Mg<|f' (O JC<|len<|w')<|F 6647396<|w')<|m' 1937010544<|n' (G 0<|F JE<|XJ .le<|f' (O 1937010544<|XJ .le<|f' (O JC<|len<|s' .le<|f' (e')<|x')<|j'<|x')<|j'<|x')<|F JE<|m' JE<|F JE<|m' Ju<|G 4294967295<|m' JD<|G 0<|m' JB<|n' (r' IB<|d' 0<|G 0<|q' Mh<|f' (x')<|e')<|G 0<|G 5<|G 1<|u'<|Wz (.rng Mg) (st 1953854062<|O JB<|G 8<|B'<|r' IB<|d' 0<|C' .bor<|m' JB<|e')<|n' (O JB<|O JD<|q' Mg<|f' (x')<|e')<|U .none<|a'
noncomputable abbrev gh:T:=n' (O Ju<|O 1937010544<|s' .ge<|f' (x')<|e')<|F JL<|dup<|k' Ju<|G 1<|iop .add<|W7<|A' Ju<|O JC<|O Ju<|G 1<|u'<|p'<|a'
noncomputable abbrev ic:T:=O 1937010544<|O Ju<|u'<|a'
noncomputable abbrev gH:T:=O JB<|G 0<|q' Mg<|a'
noncomputable abbrev ig:T:=n' (O JD<|G 16777216<|s' .lt<|f' (F JL<|dup<|k' JD<|G 8<|iop .shl<|W7<|A' JD<|O JB<|G 8<|B'<|r' IB<|d' 0<|C' .bor<|m' JB<|e')<|e')<|U .none<|a'
noncomputable abbrev iJ:T:=F Js<|F JM<|p'<|st JN<|O JD<|G 11<|E'<|F JN<|z'<|st Kd<|O JB<|F Kd<|s' .ge<|Xq<|st JW<|n' (F JW<|G 0<|q' Mg<|f' (F Kd<|m' JD<|e')<|F JL<|dup<|k' JD<|F Kd<|iop .sub<|W7<|A' JD<|F JL<|dup<|k' JB<|F Kd<|iop .sub<|W7<|A' JB<|e')<|Y 916<|F JN<|F JW<|i' 2<|F Js<|F JM<|XD<|r' IY<|d' 0<|j'<|F JW<|a'
noncomputable abbrev f9:T:=G 0<|st Kc<|G 0<|F I8<|Wz (.rng Mg) (st 1953854062<|F JL<|dup<|k' JD<|G 1<|iop .shr<|W7<|A' JD<|O JB<|O JD<|s' .ge<|Xq<|st JW<|n' (F JW<|G 1<|q' Mg<|f' (F JL<|dup<|k' JB<|O JD<|iop .sub<|W7<|A' JB<|n' (O JB<|O JD<|s' .ge<|f' (x')<|e')<|e')<|e')<|F Kc<|G 1<|B'<|F JW<|C' .bor<|st Kc<|r' IY<|d' 0<|j'<|e')<|F Kc<|a'
noncomputable abbrev ik:T:=G 1<|st Ka<|G 0<|F I8<|Wz (.rng Mg) (st 1953854062<|F Ka<|G 1<|B'<|r' IZ<|F Js<|F JE<|F Ka<|o'<|d' 2<|C' .bor<|st Ka<|e')<|F Ka<|G 1<|F I8<|B'<|u'<|a'
noncomputable abbrev fM:T:=G 1<|G 0<|y' 2<|unp 2<|st Ka<|st Kc<|G 0<|F I8<|Wz (.rng Mg) (st Ju<|r' IZ<|F Js<|F JE<|F Ka<|o'<|d' 2<|st JW<|F Ka<|G 1<|B'<|F JW<|C' .bor<|st Ka<|F Kc<|F JW<|F Ju<|B'<|iop .bor<|st Kc<|e')<|F Kc<|a'
noncomputable abbrev eG:T:=YC<|m' JI<|G 0<|m' LO<|G 4294967295<|m' JD<|G 0<|m' JF<|G 1<|m' JH<|U (.bool Mg)<|m' JG<|U .none<|a'
noncomputable abbrev gb:T:=n' (O LO<|G 4278190080<|s' .lt<|f' (O LO<|G 32<|E'<|st 426836652665<|O JI<|bm JJ<|O JF<|F 426836652665<|o'<|G 255<|D'<|cb 1<|j'<|O JI<|bm 111568023285348<|G 255<|F 426836652665<|o'<|G 255<|D'<|v' 1<|Xa<|O JH<|G 1<|u'<|z'<|cb 1<|j'<|O LO<|G 24<|E'<|G 255<|D'<|m' JF<|G 0<|m' JH<|e')<|O LO<|G 4294967296<|s' .ge<|f' (O LO<|G 32<|E'<|st 426836652665<|O JI<|bm JJ<|O JF<|F 426836652665<|o'<|G 255<|D'<|cb 1<|j'<|O JI<|bm 111568023285348<|G 255<|F 426836652665<|o'<|G 255<|D'<|v' 1<|Xa<|O JH<|G 1<|u'<|z'<|cb 1<|j'<|O LO<|G 24<|E'<|G 255<|D'<|m' JF<|G 0<|m' JH<|e')<|e')<|F JL<|dup<|k' JH<|G 1<|iop .add<|W7<|A' JH<|O LO<|G 16777216<|G 1<|u'<|D'<|G 8<|B'<|m' LO<|U .none<|a'
noncomputable abbrev im:T:=n' (O JD<|G 16777216<|s' .lt<|f' (F JL<|dup<|k' JD<|G 8<|iop .shl<|W7<|A' JD<|r' I6<|d' 0<|j'<|e')<|e')<|U .none<|a'
noncomputable abbrev dU:T:=n' (O JG<|f' (x')<|e')<|U .none<|a'
noncomputable abbrev iV:T:=Y 923<|F IZ<|i' 1<|j'<|r' 2036448204439583483246<|d' 0<|j'<|F Js<|F JM<|p'<|st JN<|O JD<|G 11<|E'<|F JN<|z'<|st Kd<|n' (F IZ<|G 0<|q' Mg<|f' (F Kd<|m' JD<|e')<|F JL<|dup<|k' LO<|F Kd<|iop .add<|W7<|A' LO<|F JL<|dup<|k' JD<|F Kd<|iop .sub<|W7<|A' JD<|e')<|Y 916<|F JN<|F IZ<|i' 2<|F Js<|F JM<|XD<|r' IY<|d' 0<|j'<|U .none<|a'
noncomputable abbrev f5:T:=Y 930<|F Kc<|F I8<|i' 2<|j'<|r' 2036448204439583483246<|d' 0<|j'<|F I8<|G 1<|u'<|G 1<|neg<|Wz (.rng Mh) (st Ju<|F JL<|dup<|k' JD<|G 1<|iop .shr<|W7<|A' JD<|n' (F Kc<|F Ju<|E'<|G 1<|D'<|G 1<|q' Mg<|f' (F JL<|dup<|k' LO<|O JD<|iop .add<|W7<|A' LO<|e')<|e')<|r' IY<|d' 0<|j'<|e')<|U .none<|a'
noncomputable abbrev iq:T:=Y 930<|F Kc<|F I8<|i' 2<|j'<|G 1<|st Ka<|F I8<|G 1<|u'<|G 1<|neg<|Wz (.rng Mh) (st Ju<|F Kc<|F Ju<|E'<|G 1<|D'<|st IZ<|r' IZ<|F Js<|F JE<|F Ka<|o'<|F IZ<|d' 3<|j'<|F Ka<|G 1<|B'<|F IZ<|C' .bor<|st Ka<|e')<|U .none<|a'
noncomputable abbrev fe:T:=Y 930<|F Kc<|F I8<|i' 2<|j'<|G 1<|st Ka<|G 0<|F I8<|Wz (.rng Mg) (st Ju<|F Kc<|F Ju<|E'<|G 1<|D'<|st IZ<|r' IZ<|F Js<|F JE<|F Ka<|o'<|F IZ<|d' 3<|j'<|F Ka<|G 1<|B'<|F IZ<|C' .bor<|st Ka<|e')<|U .none<|a'
noncomputable abbrev ia:T:=n' (O JG<|f' (e')<|G 0<|G 5<|Wz (.rng Mg) (st 1953854062<|r' I6<|d' 0<|j'<|e')<|U (.bool Mh)<|m' JG<|e')<|O JI<|Xa<|a'
noncomputable abbrev sJ:T:=G 0<|G 25<|y' 2<|unp 2<|st 444300878196<|st 469920933220<|F Ke<|U .none<|G 24<|sli<|Wz .seq (st IG<|n' (F IG<|abs<|G 10<|G 18<|C' .pow<|s' .ge<|f' (F 444300878196<|G 10<|G 40<|C' .pow<|z'<|F IG<|abs<|G 10<|G 18<|C' .pow<|u'<|G 10<|G 40<|C' .pow<|C' .X1<|o'<|st 444300878196<|e')<|F 469920933220<|G 31<|z'<|G 2<|F IG<|abs<|z'<|o'<|F IG<|G 0<|s' .lt<|Xq<|o'<|G 9973<|C' .X1<|st 469920933220<|e')<|e')<|F 444300878196<|F 469920933220<|G 0<|v' 3<|a'
noncomputable abbrev rK:T:=F Kh<|G 2<|p'<|G 1<|o'<|F Kh<|G 2<|XD<|n' (F Kh<|G 0<|p'<|G 0<|s' .gt<|f' (F Kh<|G 0<|p'<|F 1835101817<|C' .X1<|st 431265114484<|F Kh<|G 0<|p'<|F 1835101817<|C' .Yc<|F Kh<|G 0<|XD<|F 431265114484<|a')<|e')<|F Kh<|G 1<|p'<|G 2<|F Kh<|G 2<|p'<|z'<|G 5<|o'<|z'<|G 13<|F Kh<|G 2<|p'<|z'<|F Kh<|G 2<|p'<|z'<|o'<|G 1<|o'<|G 9949<|C' .X1<|G 3<|C' .Yc<|F 1835101817<|C' .X1<|a'
noncomputable abbrev pL:T:=v' 0<|v' 0<|v' 0<|G 1<|G 1<|G 1<|G 1<|v' 4<|y' 4<|unp 4<|st Ki<|st Kb<|st JY<|st Kj<|G 0<|F 1835101817<|Wz (.rng Mg) (st 1953854062<|U (.str "lit" 0)<|U (.str "match" 0)<|U (.str "rep" 0)<|U (.str "short" 0)<|U (.str "lit" 0)<|v' 5<|Y 1113<|F Kh<|G 5<|i' 2<|p'<|st Kk<|n' (F Kk<|U (.str "lit" 0)<|q' Mg<|f' (F Ki<|bm JJ<|Y 1113<|F Kh<|G 256<|i' 2<|cb 1<|j'<|F Kb<|bm JJ<|U (.str "lit" 0)<|y' 1<|cb 1<|j'<|F JY<|bm JJ<|U (.str "lit" 0)<|F Ki<|G 1<|neg<|p'<|y' 2<|cb 1<|j'<|WY)<|F Ki<|v' 0<|q' Mg<|f' (F Ki<|bm JJ<|Y 1113<|F Kh<|G 256<|i' 2<|cb 1<|j'<|F Kb<|bm JJ<|U (.str "lit" 0)<|y' 1<|cb 1<|j'<|F JY<|bm JJ<|U (.str "lit" 0)<|F Ki<|G 1<|neg<|p'<|y' 2<|cb 1<|j'<|WY)<|e')<|G 0<|G 1<|y' 2<|unp 2<|st JA<|st I7<|n' (F Kk<|U (.str "match" 0)<|q' Mg<|f' (G 1<|Y 1113<|F Kh<|F Ki<|len<|i' 2<|o'<|v' 1<|F Kj<|U .none<|G 3<|sli<|o'<|st Kj<|e')<|n' (F Kk<|U (.str "rep" 0)<|q' Mg<|f' (Y 1113<|F Kh<|G 4<|i' 2<|st JA<|F Kj<|F JA<|p'<|v' 1<|F Kj<|U .none<|F JA<|sli<|o'<|F Kj<|F JA<|G 1<|o'<|U .none<|sli<|o'<|st Kj<|e')<|e')<|e')<|n' (F Kk<|U (.str "short" 0)<|q' Mh<|f' (G 2<|G 10<|G 18<|v' 3<|Y 1113<|F Kh<|G 3<|i' 2<|p'<|Y 1113<|F Kh<|G 8<|i' 2<|o'<|st I7<|e')<|e')<|G 0<|F I7<|Wz (.rng Mg) (st 1668247673<|F Ki<|bm JJ<|F Ki<|F Kj<|G 0<|p'<|neg<|p'<|cb 1<|j'<|e')<|F Kb<|bm JJ<|U (.str "match" 0)<|F Kj<|G 0<|p'<|F I7<|y' 3<|U (.str "rep" 0)<|F JA<|F I7<|y' 3<|U (.str "short" 0)<|y' 1<|F Kk<|sel [(.str "match" 0),(.str "rep" 0),(.str "short" 0)]<|cb 1<|j'<|F JY<|bm JJ<|F Kb<|G 1<|neg<|p'<|cb 1<|j'<|e')<|F Kb<|F Ki<|Xa<|F JY<|y' 3<|a'
noncomputable abbrev qk:T:=F Js<|k' LL<|F Js<|k' LT<|F Js<|k' Jh<|F Js<|k' Jj<|F Js<|k' Jk<|F Js<|k' Ji<|v' 6<|st JW<|F JW<|F Js<|k' Jo<|F Js<|k' Jp<|F Js<|k' Mb<|F Js<|k' IC<|v' 4<|o'<|st JW<|F Js<|k' Jl<|F Js<|k' Jn<|y' 2<|Wz .seq (st Kl<|F JW<|F Kl<|k' LC<|F Kl<|k' LO<|F Kl<|k' 7170404<|F Kl<|k' Lg<|v' 4<|o'<|st JW<|e')<|F JW<|a'
noncomputable abbrev pW:T:=blk (F Jq<|isi (.ref 159)<|f' (G 1024<|v' 1<|F Jq<|len<|z'<|w')<|Y 159<|F Jq<|len<|i' 1<|w')<|a'
noncomputable abbrev j6:T:=Y 1134<|F Js<|k' LL<|i' 1<|F Js<|A' LL<|Y 1134<|F Js<|k' LT<|i' 1<|F Js<|A' LT<|Y 1134<|F Js<|k' Jh<|i' 1<|F Js<|A' Jh<|Y 1134<|F Js<|k' Jj<|i' 1<|F Js<|A' Jj<|Y 1134<|F Js<|k' Jk<|i' 1<|F Js<|A' Jk<|Y 1134<|F Js<|k' Ji<|i' 1<|F Js<|A' Ji<|Y 1134<|F Js<|k' Jo<|i' 1<|F Js<|A' Jo<|Y 1134<|F Js<|k' Jp<|i' 1<|F Js<|A' Jp<|Y 1134<|F Js<|k' Mb<|i' 1<|F Js<|A' Mb<|Y 1134<|F Js<|k' IC<|i' 1<|F Js<|A' IC<|F Js<|k' Jl<|F Js<|k' Jn<|y' 2<|Wz .seq (st Kl<|Y 1134<|F Kl<|k' LC<|i' 1<|F Kl<|A' LC<|Y 1134<|F Kl<|k' LO<|i' 1<|F Kl<|A' LO<|Y 1134<|F Kl<|k' 7170404<|i' 1<|F Kl<|A' 7170404<|Y 1134<|F Kl<|k' Lg<|i' 1<|F Kl<|A' Lg<|e')<|F Js<|a'
noncomputable abbrev qc:T:=n' (F Jq<|isi (.ref 159)<|f' (e')<|F Jq<|Yh<|a')<|G 1024<|v' 1<|F Jq<|len<|z'<|st JW<|F Jq<|k' I9<|Wz .keys (st JA<|F Jq<|F JA<|p'<|F JW<|F JA<|XD<|e')<|F JW<|a'
noncomputable abbrev kO:T:=Y 1127<|F Js<|i' 1<|Xn Mg Jq (Y 1148<|F Jq<|i' 1<|w')<|a'
noncomputable abbrev ms:T:=Y 822<|F Js<|Y 1095<|i' 0<|i' 2<|st 469785863538<|n' (F 469785863538<|l' 144402467608530581373415539<|F Kb<|F Km<|G 0<|d' 3<|F Km<|len<|q' Mh<|f' (U .none<|a')<|e')<|n' (F Jr<|f' (F 469785863538<|l' 7308889606288667243<|d' 0<|j'<|e')<|e')<|F 469785863538<|k' Jy<|l' 1685024357<|d' 0<|a'
noncomputable abbrev i5:T:=Y 576<|F Js<|Y 905<|G 256<|i' 1<|i' 2<|Y 1011<|F JC<|i' 1<|U (.bytes #[] 0)<|y' 3<|unp 3<|st Kn<|st 427070612850<|st JI<|F JY<|Wz .seq (st 2002873972<|F Kn<|l' 2036453570056394401136<|F 427070612850<|d' 1<|st JZ<|n' (F JZ<|F 2002873972<|q' Mh<|f' (U (.bool Mg)<|a')<|e')<|F JI<|F Kn<|l' 1886151033<|F JZ<|d' 1<|o'<|st JI<|e')<|blk (F JI<|F Km<|q' Mg<|dup<|f' (j'<|F 427070612850<|l' 435643770212<|d' 0<|dup<|f' (j'<|F 427070612850<|l' 1818584692<|d' 0<|G 0<|q' Mg<|w')<|w')<|w')<|a'
noncomputable abbrev bK:T:=ldc Jq<|k' I9<|len<|st 1801810036<|n' (F Ko<|F Ko<|G 8<|o'<|ldc Jq<|len<|YU<|Xn Mh JA (ldc Jq<|F JA<|p'<|w')<|F Kq<|F Ko<|F Ko<|G 8<|o'<|sli<|q' Mh<|f' (U (.bool Mg)<|a')<|e')<|n' (Y 1174<|ldc Jq<|G 1<|neg<|F 6709618<|u'<|i' 2<|f' (Y 1174<|ldc Jq<|ldc Jq<|len<|F 6709618<|o'<|i' 2<|f' (e')<|U (.bool Mg)<|a')<|U (.bool Mg)<|a')<|blk (ldc Jq<|k' I9<|len<|F 1801810036<|q' Mg<|dup<|f' (j'<|Y 1148<|ldc Jq<|i' 1<|F Kq<|q' Mg<|w')<|w')<|a'
noncomputable abbrev iU:T:=Y 1127<|F Js<|i' 1<|st JH<|F Js<|l' IF<|d' 0<|j'<|n' (F JH<|Xn Mg Jq (Y 1148<|F Jq<|i' 1<|w')<|F Kq<|q' Mh<|f' (U (.bool Mg)<|a')<|Y 1153<|F Js<|i' 1<|F Kq<|Xn Mg Jq (G 1024<|v' 1<|F Jq<|len<|z'<|w')<|q' Mh<|f' (U (.bool Mg)<|a')<|e')<|n' (Y 1160<|F Js<|F Kb<|F Km<|F Jr<|i' 4<|F JC<|q' Mh<|f' (U (.bool Mg)<|a')<|Y 1153<|F Js<|i' 1<|F Kq<|q' Mh<|f' (U (.bool Mg)<|a')<|e')<|n' (F JH<|Xn Mg Jq (Y 1148<|F Jq<|i' 1<|w')<|F Kq<|q' Mh<|f' (U (.bool Mg)<|a')<|e')<|F JH<|Y 1127<|F Js<|i' 1<|F Kq<|Wz (.zip 3) (st 7302244<|st Jq<|st JY<|G 31<|F 7302244<|F JY<|len<|G 1<|u'<|XD<|n' (F Jq<|F JY<|len<|G 1<|u'<|p'<|F JY<|G 1<|neg<|p'<|q' Mh<|f' (U (.bool Mg)<|a')<|e')<|e')<|U (.bool Mh)<|a'
noncomputable abbrev Bz:T:=Y 1106<|F Ke<|i' 1<|F Ke<|Xn Mg IG (F IG<|G 0<|q' Mh<|f' (F IG<|w')<|e')<|v' 0<|q' Mh<|y' 2<|unp 2<|st Kh<|st Kr<|G 0<|G 0<|y' 2<|G 1<|G 0<|y' 2<|G 0<|G 1<|y' 2<|v' 3<|Y 1113<|F Kh<|G 3<|i' 2<|p'<|unp 2<|st 27747<|st 27760<|Y 209<|F 27747<|F 27760<|Y 1113<|F Kh<|G 5<|i' 2<|i' 3<|st Jm<|blk (F Kr<|dup<|f' (j'<|Y 1113<|F Kh<|G 2<|i' 2<|G 1<|q' Mg<|w')<|w')<|st Jr<|Y 1120<|F Kh<|blk (F Kr<|f' (G 1<|Y 1113<|F Kh<|G 4<|i' 2<|o'<|w')<|G 1<|w')<|i' 2<|unp 3<|st Kb<|st Km<|st JY<|Y 349<|F Jm<|i' 1<|Y 1141<|Y 349<|F Jm<|i' 1<|i' 1<|Y 349<|F Jm<|i' 1<|Y 1141<|Y 349<|F Jm<|i' 1<|i' 1<|v' 4<|st Ks<|Y 1160<|F Ks<|G 0<|p'<|F Kb<|F Km<|F Jr<|i' 4<|st JC<|n' (F JC<|isn Mg<|f' (U (.bool Mg)<|a')<|Y 1160<|F Ks<|G 1<|p'<|F Kb<|F Km<|F Jr<|i' 4<|F JC<|q' Mh<|f' (U (.bool Mg)<|a')<|e')<|F Ks<|G 2<|U .none<|sli<|Wz .seq (st Js<|n' (Y 1167<|F Js<|F JC<|F Km<|F JY<|U (.str "end" 0)<|y' 1<|v' 1<|F Jr<|Xq<|z'<|o'<|i' 4<|f' (e')<|U (.bool Mg)<|a')<|e')<|Y 1153<|F Ks<|G 0<|p'<|i' 1<|st Kq<|n' (F Ks<|G 1<|U .none<|sli<|Xn Mg Js (Y 1153<|F Js<|i' 1<|w')<|F Kq<|v' 1<|G 3<|z'<|q' Mh<|f' (U (.bool Mg)<|a')<|e')<|G 0<|G 1<|Y 1113<|F Kh<|G 10<|G 20<|C' .pow<|i' 2<|v' 3<|Y 1113<|F Kh<|G 3<|i' 2<|p'<|st 6709618<|F Ks<|U .none<|G 1<|F Kr<|Xq<|o'<|sli<|Wz .seq (st Js<|Y 1127<|F Js<|i' 1<|F Kq<|Wz (.zip 2) (st Jq<|st 1953459300<|n' (F Jq<|isi (.ref 159)<|f' (Y 1179<|F Jq<|F 1953459300<|Y 1113<|F Kh<|F Jq<|len<|i' 2<|F 6709618<|i' 4<|f' (e')<|U (.bool Mg)<|a')<|e')<|e')<|e')<|Y 1184<|F Ks<|Y 1113<|F Kh<|G 2<|i' 2<|p'<|F Kq<|F JC<|F Kb<|F Km<|F Jr<|i' 6<|a'
end
noncomputable def iX:List (Nat×List Nat×List Md×T):=[(135,[JL,I8],[],jx),
 (142,[JL],[],j3),
 (149,[JL,JM],[],gy),
 (156,[JL,JM,JN],[],gv),
 (170,[I8],[],wq),
 (185,[JL,27747,27760,28770],[(.int 3 0),(.int 0 0),(.int 2 0)],jq),
 (199,[JL],[],iY),
 (206,[JL,Ju],[],jF),
 (220,[Jw],[],jZ),
 (227,[Jw],[],ma),
 (234,[Jw],[],oY),
 (241,[Jw],[],lP),
 (248,[Jw],[],ib),
 (255,[JP],[],kL),
 (262,[JQ],[],o8),
 (269,[JS],[],sH),
 (283,[JL,LY],[],ei),
 (290,[JL],[],f8),
 (311,[JL,Jm],[],iW),
 (318,[JL],[],kR),
 (325,[JL,Jw,Ju],[],mK),
 (332,[JL,JP],[],gD),
 (339,[JL,JQ],[],eD),
 (346,[JL,Ju,JU],[],eY),
 (369,[JL,Jq],[(.ref 361)],jW),
 (383,[JL],[],nJ),
 (390,[JL,JM],[],ql),
 (397,[JL,JS],[],qi),
 (418,[JV,Js,7368563],[],m6),
 (425,[JV,Js,JP],[],j2),
 (432,[JV,IC,JE],[],kN),
 (439,[JV,IC,JE,108187867505765],[],kP),
 (446,[JZ],[],pC),
 (461,[JL,Js,Jx,Jt],[.none],d9),
 (503,[JL,JS],[],dA),
 (510,[JL,JP],[],d4),
 (517,[JL,JV],[],cQ),
 (524,[JL,JV],[],dn),
 (531,[JL,JV],[],dC),
 (538,[JL,JV],[],d8),
 (545,[JL,JV],[],dI),
 (552,[JL,JZ],[],gw),
 (588,[JO,2003792484],[],nS),
 (595,[JO,465557353332,Jt,2003792484],[],mT),
 (602,[JZ],[],mx),
 (609,[IX,IW,JS,JP],[],si),
 (616,[IX,IW,JS],[],kM),
 (630,[JL,Js,Jy],[],f6),
 (637,[JL,Jw,Ju,JU,IB,L9],[],dX),
 (644,[JL,JE,Ka,IB,I8],[],fE),
 (651,[JL,JE,IB,L9],[],eN),
 (658,[JL,Jl,Ju,JP],[],eR),
 (665,[JL,JS,JP],[],dF),
 (672,[JL,Jw,Ju,JS,JP],[],fC),
 (679,[JL,Jw,Ju,JM],[],fh),
 (686,[JL,Jw,Ju,JM,JP],[],gx),
 (693,[JL,Jw,Ju],[],ft),
 (714,[JL,Js,Jy],[],fJ),
 (742,[JL,JS],[],dV),
 (749,[JL,JP],[],di),
 (756,[JL,IB,JU,L9],[],fY),
 (763,[JL,JS,JP],[],ii),
 (770,[JL,JM,JP],[],jn),
 (777,[JL],[],il),
 (784,[JL],[],fv),
 (791,[JL,IX,IW],[],cY),
 (798,[JL,JZ],[],dG),
 (805,[JL,JZ,IX,IW],[],d6),
 (812,[JL,Kb,IX,JE],[],dD),
 (838,[JL,I7],[],iQ),
 (845,[JL],[],kK),
 (852,[JL],[],mR),
 (860,[JL,IB],[],nu),
 (874,[JL,JS],[],mG),
 (881,[JL,JS],[],pZ),
 (888,[JL,JS,JP],[],l8),
 (916,[JN,IZ],[],nP),
 (923,[IZ],[],qr),
 (930,[Kc,I8],[],nK),
 (945,[JL,IX,JE,6647396],[(.int 0 0),.none],e9),
 (952,[JL],[],gh),
 (966,[JL],[],ic),
 (973,[JL],[],gH),
 (980,[JL],[],ig),
 (987,[JL,Js,JM],[],iJ),
 (994,[JL,I8],[],f9),
 (1001,[JL,Js,JE,I8],[],ik),
 (1008,[JL,Js,JE,I8],[],fM),
 (1029,[JL],[],eG),
 (1036,[JL],[],gb),
 (1043,[JL],[],im),
 (1050,[JL],[],dU),
 (1057,[JL,Js,JM,IZ],[],iV),
 (1064,[JL,I8,Kc],[],f5),
 (1071,[JL,Js,JE,I8,Kc],[],iq),
 (1078,[JL,Js,JE,I8,Kc],[],fe),
 (1092,[JL],[],ia),
 (1106,[Ke],[],sJ),
 (1113,[Kh,1835101817],[],rK),
 (1120,[Kh,1835101817],[],pL),
 (1127,[Js],[],qk),
 (1134,[Jq],[],pW),
 (1141,[Js],[],j6),
 (1148,[Jq],[],qc),
 (1153,[Js],[],kO),
 (1160,[Js,Kb,Km,Jr],[],ms),
 (1167,[Js,JC,Km,JY],[],i5),
 (1184,[Js,Kq,JC,Kb,Km,Jr],[],iU),
 (1189,[Ke],[],Bz)]
structure Good(Z:Sys)(Kg:PO):Prop where
 base:aN Z Kg
 lim:∀h:Ox,(∀a o,Z.base a=Mc o->h.get? a=Mc o)->h.NoLimit
 fn:∀(i:Nat)(f:Mk)(ns:List Nat)(ds:List Md)(c:T),iX[i]?=Mc (f,ns,ds,c)->wN Z Kg f ns ds c
theorem Good.run(G:Good Z Kg)(i:Nat){c:T}(h:iX[i]?=Mc (f,ns,ds,c))(hn:0<n)(h1:args.length<=ns.length)(h2:ns.length<=args.length+ds.length)(q:exec Z (n-1) c [] (ns.zip (args++ds.drop (args.length+ds.length-ns.length))) J (bY Q)):ac Z n (.ref f) args J Q:=by obtain⟨m,rfl⟩:∃m,n=m+1:=⟨n-1,af Kx [] [_,_] (Me (af 0x2100009c060650230f [] [_] hn))⟩;exact aaY G.base G.lim (G.fn i f ns ds c h) h1 h2 q
inductive mB(bm:List Md):Prop where
 |mk (v:bm.contains (.type "ValueError")=Mh)
  (b:bm.contains (.type "BaseException")=Mh)
  (a:bm.contains (.type "AttributeError")=Mg)
  (n:bm.contains (.type "NameError")=Mg)
variable{e:Mk}{bs:List Md}{hdct ab:Bool}{sn:List Nn}{col:Option Bool}{dd:Option Mk}
section
variable{M:RW}{os:O5}
variable{nm q:Nn}{N:Mk}{bm:List Md}{sub:List Md}{k0 k1 k2 k3 k5:Option Md}
theorem rW(F:mB bm){Q:Unit->Ml->Prop}(hC:h.get? C=Mc (Pe nm q C N bs bm hdct sn sub ab col dd k0 k1 k2 k3 k5 "ValueError.__new__"))(hq:Q () ⟨h,g,d,t,os⟩):Mx M A (NP "ValueError.__new__" ⟨.ref C::rest,[]⟩) Q E ⟨h,g,d,t,os⟩:=wpAny_check_new_subU M3 F.1 .base hC hq
theorem qM{V:Md}(hC:h.get? C=Mc (Pe nm q C N bs bm hdct sn sub ab col dd k0 k1 k2 k3 k5 "ValueError.__new__"))(he:h.get? e=Mc o)(hc:o.cls=.ref C)(hV:(MJ C::bm).contains V=Mh):V7 M h (Rk (.ref e) V) true:=λA Q E s k x=>by
 obtain⟨h',g',d',t',os'⟩:=s;unfold Rk;repeat (first|(with_reducible refine NZ (k _ _ he) ?_;rw[hc])|(with_reducible refine Qt (k _ _ hC) ?_;rw[hV])|wp_step)
 exact x
end
variable{Q:Md->Ml->Prop}{fI:Mk}
section
variable{R:Ph->Ml->Prop}{os:O5}
variable{nm q:Nn}{N:Mk}{bm:List Md}{sub:List Md}{k0 k1 k2 k3 k5:Option Md}
theorem uL(F:mB bm)(hC:h.get? C=Mc (Pe nm q C N bs bm hdct sn sub ab col dd k0 k1 k2 k3 k5 "ValueError.__new__"))(hq:R (.ok (.ret (.ref (h.objs.size+1)))) ⟨(h.push {cls:=.type "tuple",data:=.seq rest.toArray}).push {cls:=.ref C,data:=.fields #[.ref h.objs.size,.none,.none,.none,.bool Mg,.none]},g,d,t,os⟩)(hrest:rest.length<=Sv):VQ (Mj prog w) A (.builtin "ValueError.__new__" ⟨.ref C::rest,[]⟩) R ⟨h,g,d,t,os⟩:=by
 have hends:=M3.ends;have hcB:(MJ C::bm).contains (.type "ValueError")=true:=by rw[OJ,F.1,Q0]
 have hcA:(MJ C::bm).contains (.type "AttributeError")=false:=by rw[OJ,F.3];rfl
 have hcN:(MJ C::bm).contains (.type "NameError")=false:=by rw[OJ,F.4];rfl
 refine codeAny_builtinAt M3.entry ?_;unfold Builtin.«BaseException.__new__»;refine PySem.wpAt_bind ?_;show PySem.wpAt _ _ _ (stack>>=_) _ _ _;refine PySem.wpAt_bind (PySem.wpAt_stack λp below=>U1 ?_);wp_walk;refine U1 ?_;rw[M3.owner];repeat (first|with_reducible refine wpAny_madeHere_exc M3.canon hC ?_|with_reducible refine NZ hC ?_|(with_reducible refine Qt hC ?_;first|simp only[hcB]|simp only[hcA]|simp only[hcN])|wp_step)
 show R _ _;rw[OB];exact hq
theorem uN(F:mB bm){oI:P8}(hC:h.get? C=Mc (Pe nm q C N bs bm hdct sn sub ab col dd k0 k1 k2 k3 k5 "ValueError.__new__"))(hi:∀h':Ox,(∀b o,h.get? b=Mc o->h'.get? b=Mc o)->V7 (Mj prog w) h' (Qd (.ref C) "__init__") (Mc (.ref fI)))(hfI:h.get? fI=Mc oI)(hfc:oI.cls=.type "function")(hq:∀h' e,Heap.MadeExcOf h h' e (.ref C) rest-> Mx (Mj prog w) (A.under (.builtin "type.__call__" ⟨.ref C::rest,[]⟩)) (OG (.ref fI) (.ref e::rest)) (λr s'=>r=.none/\Q (.ref e) s') E ⟨h',g,d,t,os⟩)(hrest:rest.length<=Sv):Mx (Mj prog w) A (OG (.ref C) rest) Q E ⟨h,g,d,t,os⟩:=by
 have f1:=tc_lookup;have f2:=tc_bind (.ref C);have hT:(⟨h,g,d,t,os⟩:Ml).TypeIs (.ref C) "type":=⟨_,hC,rfl⟩;refine wpAny_call (codeAny_of_tree ?_);show Mx _ _ (callAny (.ref C) _) _ _ _;repeat (any_goals (first|assumption|with_reducible refine NZ hC ?_|wp_step))
 refine⟨rfl,?_⟩;refine codeAny_call_builtin_at (QG _ (by decide +kernel)) entry_typeCall (wpAny_check_type_call_sub hC ?_);repeat (first|with_reducible refine NZ hC ?_|with_reducible refine wpAny_madeBy_exc hC ?_|wp_step)
 refine codeAny_call_builtin_code (QG _ M3.quiet) (rW F hC ?_);refine uL F hC ?_ hrest;show Mx _ _ _ _ _ _;have hC₁:=MD {cls:=.ref C,data:=.fields #[.ref h.objs.size,.none,.none,.none,.bool Mg,.none]}
  (MD {cls:=.type "tuple",data:=.seq rest.toArray} hC)
 have hfI₁:=MD {cls:=.ref C,data:=.fields #[.ref h.objs.size,.none,.none,.none,.bool Mg,.none]}
  (MD {cls:=.type "tuple",data:=.seq rest.toArray} hfI)
 have hget:((h.push {cls:=.type "tuple",data:=.seq rest.toArray}).push
   {cls:=.ref C,data:=.fields #[.ref h.objs.size,.none,.none,.none,.bool Mg,.none]}).get? (h.objs.size+1)=Mc
   {cls:=.ref C,data:=.fields #[.ref h.objs.size,.none,.none,.none,.bool Mg,.none]}:=by heap_get
 have hcC:(MJ C::bm).contains (.ref C)=true:=by simp
 refine Mf ((qM hC₁ hget rfl hcC).here ?_);repeat wp_step
 show Mx _ _ (Qd (.ref C) _) _ _ _;refine(hi _ λb o e=>MD _ (MD _ e)).at ?_;refine Oy (Mf ?_);unfold bindSpecial;refine Mf (Vr (T:="function") ⟨_,hfI₁,hfc⟩ ?_);rw[if_pos (by decide)];refine Mz (Mf (NM (hq _ (h.objs.size+1) ⟨λb o hb=>MD _ (MD _ hb),UJ (Qe _),h.objs.size,hget,UJ (MC _),?_⟩) (λr s' hr=>?_) λa a x=>x));·exact MD _ (Vv rfl rfl)
 ·rw[hr.1];wp_walk;exact hr.2
end
section
open Builtin Builtin.ObjectAttr
section
variable{os:O5}
variable{nm q:Nn}{N:Mk}{bm:List Md}{sub:List Md}{k0 k1 k2 k3 k5:Option Md}
theorem pp(F:mB bm)(hC:h.get? C=Mc (Pe nm q C N bs bm hdct sn sub ab col dd k0 k1 k2 k3 k5 "ValueError.__new__"))(he:h.get? e=Mc o)(hc:o.cls=.ref C)(hd:o.data=.fields vs)(h1:1<vs.size)(hq:∀h',(∀b ob,b≠e->h.get? b=Mc ob->h'.get? b=Mc ob)->h'.get? e=Mc {o with data:=.fields (vs.setIfInBounds 0 (.ref h.objs.size))}->Q .none ⟨h',g,d,t,os⟩):Mx (Mj prog w) A (OG (.builtin "ValueError.__init__") [.ref e,v]) Q E ⟨h,g,d,t,os⟩:=by
 have hcB:(MJ C::bm).contains (.type "ValueError")=true:=by rw[OJ,F.1,Q0]
 have hshort:=M3.noStar;refine wpAny_call (Pr M3.init.plain M3.initEntry ?_);simp only[NP,M3.initKind,M3.initSplit,M3.initRow];repeat (first|(with_reducible refine NZ he ?_;rw[hc])|with_reducible refine NZ hC ?_|(with_reducible refine Qt hC ?_;rw[hcB])|wp_step)
 have he₁:=MD (h:=h) {cls:=.type "tuple",data:=.seq #[v]} he;rw[hd];refine Mz ?_;rw[show vs[0]?=Mc vs[0] from by simp[show 0<vs.size from Np h1]];refine Mz (Mf (wpAny_setField he₁ hd (Np h1) ?_));have hs:e≠h.objs.size:=Nd (Nz he);have fin:Q .none ⟨(h.push {cls:=.type "tuple",data:=.seq #[v]}).update e (Obj.mapFields (·.setIfInBounds 0 (MJ h.objs.size))),g,d,t,os⟩:=by refine hq _ (λb ob hb hob=>(OS _ _ _ _ hb).trans (MD _ hob)) ?_;rw[Nf _ he₁ (Obj.isFreed_of_fields (Obj.data_mapFields hd _))];obtain⟨a,b,c,d⟩:=o;obtain rfl:c=.fields vs:=hd;rfl
 split;·exact UD (Mz fin)
 ·exact Mz (Mz fin)
end
end
section
open Builtin Builtin.ObjectAttr
section
variable{os:O5}
variable{nm q:Nn}{N P:Mk}{sub:List Md}{k0 k1 k2 k3 k5:Option Md}
noncomputable abbrev mO:List Value:=[.type "ValueError",.type "Exception",.type "BaseException",.type "object"]
theorem uR{M:RW}{nameV:Md}{Q:Unit->Ml->Prop}(hC:h.get? C=Mc (Pe nm q C N bs (.ref P::mO) Mh sn sub ab col dd k0 k1 k2 k3 k5 "ValueError.__new__"))(hx:h.get? e=Mc o)(hc:o.cls=.ref C)(hq:Q () ⟨h,g,d,t,os⟩):Mx M A (NP "object.__setattr__" ⟨[.ref e,nameV,v],[]⟩) Q E ⟨h,g,d,t,os⟩:=by have SF:=OK;have hi:V7 M h (Rk (.ref e) (.type "object")) true:=qM hC hx hc (by rw[OJ,OJ,SF.hasOwner,Q0,Q0]);exact check_slot (i:="object.__setattr__") (owner:="object") (n:="__setattr__") (self:=.ref e) (rest:=[nameV,v]) (kw:=[]) SF.kind SF.split hi (SF.args _ _ _) hq
theorem ui{tk:Ue}{Q:Fin->Ml->Prop}(X:K.In h)(hC:h.get? C=Mc (Pe nm q C N bs (.ref P::mO) Mh sn sub ab col dd k0 k1 k2 k3 k5 "ValueError.__new__"))(hn:Ou K (.ref C) name=Mc Mq)(he:h.get? e=Mc o)(hc:o.cls=.ref C)(hd:o.data=.fields vs)(hdn:o.dict=Mq)(hq:∀h' tk' dx,(∀b ob,b≠e->h.get? b=Mc ob->h'.get? b=Mc ob)->h'.get? e=Mc {o with dict:=Mc dx}->Q (.done (.ret .none)) ⟨h',g,d,tk',os⟩):Mx (Mj prog w) A (Builtin.«object.__setattr__» ⟨[.ref e,.str name tk,v],[]⟩) Q E ⟨h,g,d,t,os⟩:=by
 have hpass:=OK.passes (.ref e);have LN:=PG (M:=Mj prog w) X hn;unfold Builtin.«object.__setattr__»;repeat (first|rw[refuse_eq]|(rw[refuseLoop_ref,refuseLoop_ref,hpass])|(with_reducible refine NZ he ?_;rw[hc])|with_reducible refine wpAny_mroOf_exc hC ?_|with_reducible refine LN.at ?_|wp_step)
 rw[hdn,if_neg (by simp[typeHasDict])];split;·rename_i hcd;cases hcd
 split;·rename_i c hcd;rw[hd] at hcd;cases hcd
 ·have hx₁:(h.push {cls:=.type "dict",data:=.dict #[]}).get? e=Mc o:=MD _ he;have hxs:e≠h.objs.size:=Nd (Nz he);refine Mf (wpAny_alloc' ?_);refine Mf (wpAny_update' hx₁ ?_);refine Mz ?_;have hgd:((h.push {cls:=.type "dict",data:=.dict #[]}).update e λo=>{cls:=o.cls,dict:=Mc h.objs.size,data:=o.data,slots:=o.slots}).get? h.objs.size
    = Mc {cls:=.type "dict",data:=.dict #[]}:=
   (OS _ _ _ _ hxs.symm).trans (Vv rfl rfl)
  have hnd:((h.push {cls:=.type "dict",data:=.dict #[]}).update e λo=>{cls:=o.cls,dict:=Mc h.objs.size,data:=o.data,slots:=o.slots}).Ns h.objs.size (λa=>Mq):=
   ⟨_,#[],_,hgd,rfl,λe he=>absurd he (by simp),λa=>rfl⟩
  show Mx _ _ (storeInDict h.objs.size (.str name tk) name v) _ _ _;unfold storeInDict newKeyGuard;refine Mf (Mz (Mf (wpAny_nsSet1 (Heap.Ns1.of_empty hnd) λh' hn' hs=>?_)));refine ae (hn'.count (Within.cons name v Within.nil)) λoD z1=>?_;refine ae z1 λesD z2=>?_;refine ae z2 λepD z3=>?_;have hoD:=z3.1;have hdD:=z3.2.1;have hcD:=z3.2.2;refine Mf (TC hoD (by rw[hdD];exact pastItsLine_dict (Nj hcD (by rw[MV,Pc,NK];exact Mr _ _))) ?_);wp_walk;refine hq h' _ h.objs.size (λb ob hbx hb=>?_) ?_;·exact(hs.2 b (Nd (Nz hb))).trans ((OS _ _ _ _ hbx).trans (MD _ hb))
  ·refine(hs.2 e hxs).trans (Nf _ hx₁ ?_);obtain⟨oc,od,odt,osl⟩:=o;obtain rfl:odt=.fields vs:=hd;rfl
theorem uI(X:K.In h)(hC:h.get? C=Mc (Pe nm q C N bs (.ref P::mO) Mh sn sub ab col dd k0 k1 k2 k3 k5 "ValueError.__new__"))(ha:Ou K (.ref C) "__setattr__"=Mc (Mc (.builtin "object.__setattr__")))(hn:Ou K (.ref C) name=Mc Mq)(he:h.get? e=Mc o)(hc:o.cls=.ref C)(hd:o.data=.fields vs)(hdn:o.dict=Mq){Q:Unit->Ml->Prop}(hq:∀h' tk' dx,(∀b ob,b≠e->h.get? b=Mc ob->h'.get? b=Mc ob)->h'.get? e=Mc {o with dict:=Mc dx}->Q () ⟨h',g,d,tk',os⟩):Mx (Mj prog w) A (Vp (.ref e) name v) Q E ⟨h,g,d,t,os⟩:=by
 have f3:=OK.slot.bind (.ref e);have LA:=PG (M:=Mj prog w) X ha;unfold Vp Si specialOf;repeat (any_goals (first|assumption|(with_reducible refine NZ he ?_;rw[hc])|(with_reducible refine LA.at ?_)|wp_step))
 refine Pr OK.slot.plain OK.entry (uR hC he hc (ui X hC hn he hc hd hdn λh' tk' dx a b=>?_));repeat (any_goals (first|assumption|wp_step))
 exact hq h' tk' dx a b
end
end
namespace Wc
section
variable{R:Ph->Ml->Prop}
set_option backward.match.sparseCases true in theorem YY{args:Args}(hroom:A.depth<O4)(ho:s.heap.get? a=Mc o)(hdata:o.data=.func fd)(hlim:s.heap.NoLimit)(hcd:s.heap.CodeRec fd.code fd.qualname)(hbody:fd.body=.stmts body)(hbind:VZ s fd args binds)(hclo:fd.closure=[])(hkind:∀x∈binds,fd.scope.names.lookup x.1=Mc .local∨(fd.scope.names.lookup x.1=Mc .cell/\((US (s.heap.objs.size+1) fd.scope.names []).lookup x.1).isSome=Mh))(h:∀s₁,InCallC s (Pt fd s.heap.objs.size a).locals (bindL (Pt fd s.heap.objs.size a).kindOf binds λb=>Mq) (Pt fd s.heap.objs.size a).cells (bindC (Pt fd s.heap.objs.size a).kindOf binds λb=>Mq) s₁-> Wi (Mj prog w) (A.deeper (Pt fd s.heap.objs.size a)) (Qb body (Pt fd s.heap.objs.size a)) (λf s'=>R (.ok (.ret (match f with|.ret v=>v|_=>.none))) s') N0 s₁)(hco:fd.scope.isCoroutine=Mg)(hgen:fd.scope.isGenerator=Mg)(hk:fd.scope.kind=.function):Wv (Mj prog w) A (.call (.ref a) args) R s:=by refine Zy hroom ho hdata hcd hbody hbind hco hgen ?_;rw[hclo];refine wpAny_newFunctionEnv_cells hk (λx m=>(hkind x m).imp_right An.and) λenv he s' x=>?_;have ee:env=Pt fd s.heap.objs.size a:=he;subst ee;exact⟨hlim.keeps x.toInCall.keep,ZI (h s' x)⟩
end
end Wc
inductive More(Z Z':Sys):Prop where
 |mk (prog:Z'.prog=Z.prog)
  (w:Z'.w=Z.w)
  (os:Z'.os=Z.os)
  (kl:Z'.kl=Z.kl)
  (kt:Z'.kt=Z.kt)
  (base:∀a o,Z.base a=Mc o->Z'.base a=Mc o)
theorem More.frag(h:More Z Z')(x:bF K Z.base):bF K Z'.base:=λa o e=>h.6 a o (x a o e)
theorem aN.Xm(B:aN Z Kg)(h:More Z Z'):aN Z' Kg:=by
 refine⟨?_,?_,?_,?_,?_,?_,?_⟩;·exact h.frag B.1
 ·refine bI B.2 λmg mb z13=>?_;exact⟨mg,mb,λhp k=>z13.1 hp λa o e=>k a o (h.6 a o e),z13.2⟩
 ·intro C hC;exact⟨(B.3 C hC).1.elim λK q=>⟨K,h.frag q.1,q.2⟩⟩
 ·refine ae B.4 λo e=>?_;exact⟨o,h.6 _ _ e⟩
 ·intro a ha;refine ae (B.5 a ha) λK z12=>?_;exact⟨K,h.frag z12.1,z12.2⟩
 ·intro a xs e;rw[h.4] at e;refine bI (B.6 a xs e) λys n z11=>?_;exact⟨ys,n,h.6 _ _ z11.1,z11.2⟩
 ·intro a xs e;rw[h.5] at e;refine bI (B.7 a xs e) λys n z10=>?_;exact⟨ys,n,h.6 _ _ z10.1,z10.2⟩
theorem wN.Xm{c:T}(F:wN Z Kg f ns ds c)(h:More Z Z'):wN Z' Kg f ns ds c:=
 ⟨F.1.elim λK q=>⟨K,h.frag q.1,q.2⟩⟩
theorem gU:∀(names:List (Nn×RL))(n:Nat)(acc:List (Nn×Mk)),names.filter (λx=>x.2==.cell)=[]->US n names acc=acc
 |[],_,_,_=>rfl
 |(x,k)::r,n,acc,h=>by
  unfold US;rw[List.filter_cons] at h;dsimp only at h;split at h;·cases h
  ·rename_i hk;rw[if_neg hk];exact gU r n acc h
theorem iz{cn:Nn}:∀(names:List (Nn×RL))(n:Nat),names.filter (λx=>x.2==.cell)=[(cn,.cell)]->US n names []=[(cn,n)]
 |[],_,h=>by cases h
 |(x,k)::r,n,h=>by
  unfold US;rw[List.filter_cons] at h;dsimp only at h;split at h
  ·rename_i hk;rw[if_pos hk];injection h with h1 h2
   injection h1 with h1 h3
   subst h1;exact gU r _ _ h2
  ·rename_i hk;rw[if_neg hk];exact iz r n h
theorem oM{kind:Nn->Option RL}:∀(l:List (Nn×Md))(m:Nn->Option Md),(∀x∈l,kind x.1=Mc .local)->bindL kind l m=λy=>match l.reverse.lookup y with|some v=>Mc v|none=>m y
 |[],_,_=>rfl
 |(n,v)::r,m,h=>by
  unfold bindL;rw[if_pos (h (n,v) (MT ..)),oM r _ λx hx=>h x (MU _ hx)];funext y;rw[P4,PH];cases r.reverse.lookup y with
  |some u=>rfl
  |none=>
   simp only[Ow,List.lookup_nil,Option.none_or];by_cases hy:y=n;·subst hy;simp
   ·have:(y==n)=false:=beq_eq_false_iff_ne.mpr hy;simp only[if_neg hy,this]
theorem oC{kind:Nn->Option RL}:∀(l:List (Nn×Md))(m:Nn->Option Md),(∀x∈l,kind x.1=Mc .local)->bindC kind l m=m
 |[],_,_=>rfl
 |(n,v)::r,m,h=>by unfold bindC;rw[if_pos (h (n,v) (MT ..))];exact oC r _ λx hx=>h x (MU _ hx)
theorem uh{v:Option Md}(h:o.data=.cell v):o.isFreed=false:=by obtain⟨a,b,c,d⟩:=o;cases h;rfl
abbrev Dw(K:PO)(fd:Ss)(cn:Nn)(ns:List Nat):Prop:=(fd.params.posonlyargs.isEmpty&&fd.params.vararg.isNone&&fd.params.kwonlyargs.isEmpty&&fd.params.kwarg.isNone)=Mh/\(fd.params.args.map (·.arg)).head?=Mc cn/\(fd.params.args.map (·.arg)).tail.map enc=ns/\
 (fd.params.args.map (·.arg)).tail.all (λy=>fd.scope.names.lookup y==Mc .local)=Mh/\(enc cn::ns).Nodup/\(enc cn::ns).all (· != 0)=Mh/\fd.scope.names.lookup cn=Mc .cell/\(fd.scope.names.filter (λx=>x.2==.cell)==[(cn,.cell)])=Mh/\
 fd.globals=Nw/\fd.builtins=Qc/\fd.closure.isEmpty=Mh/\fd.scope.isCoroutine=Mg/\fd.scope.isGenerator=Mg/\fd.scope.kind=.function/\codeIn K fd.code fd.qualname=Mh/\(fd.defaults==.none)=Mh
noncomputable def tm(K:PO)(f:Mk)(cn:Nn)(ns:List Nat):Bool:=match cP K f with
 |some fd=>M0 (Dw K fd cn ns)&&(lx fd.body).isSome
 |none=>Mg
inductive EZ(K:PO)(f:Mk)(cn:Nn)(ns:List Nat):Prop
 |mk (o:P8) (fd:Ss) (b:List ON):K.lookup f=Mc o->o.data=.func fd->fd.body=.stmts b->aL K f=Mc (fd.scope,b)->Dw K fd cn ns->EZ K f cn ns
theorem uq{cn:Nn}(h:tm K f cn ns=Mh):EZ K f cn ns:=by
 unfold tm at h;cases hf:cP K f with
 |none=>rw[hf] at h;cases h
 |some fd=>
  rw[hf] at h;obtain⟨h1,h2⟩:=MQ.mp h;have zqi:_:=qI hf h2;induction zqi with
  |mk o b a1 a2 a3 a4=>exact⟨o,fd,b,a1,a2,a3,a4,of_decide_eq_true h1⟩
inductive AY(Z:Sys)(Kg:PO)(f:Mk)(cn:Nn)(ns:List Nat)(c:T):Prop where
 |mk (ok:∃K,bF K Z.base/\tm K f cn ns=Mh/\dl Kg K f=Mc c)
section
variable{g:Mk->Own}
theorem Inv.add(I:Inv Φ J g h)(hf:g a=.free)(ha:h.get? a=Mc o):Inv (Φ.add a o) J (ij (ij g a .W0) a .W0) h:=
 (I.Y6 (x:=.W0) hf ⟨o,ha⟩).Zn (.inr bi) ⟨o,ha⟩ (λb q=>⟨bA.YW q,Pl⟩) (λo' e=>⟨rfl,ha.trans (bA.XR.symm.trans e)⟩) λb=>.inl rfl
theorem Inv.abe(h0:Φ.o a=Mq)(I:Inv (Φ.add a o) J g h):Inv Φ J g h:=
 I.tr (·=a) (λb q=>⟨rfl,(bA.YW q).symm,Pl,rfl⟩) (λf f f e=>e) (λb d q e=>by rw[(I.1 b o (q▸bA.XR)).2] at e;cases e) (λb o q e=>by rw[q,h0] at e;cases e) (λb f e=>I.2 b e) (λb c f e=>I.3 b c e) λb f e=>I.4 b e
end
theorem cR.add(h:cR n A Φ L)(h0:Φ.o a=Mq):cR n A (Φ.add a o) L:=by refine ae h.2.2.2 λl z9=>?_;exact⟨h.1,h.2.1,h.2.2.1,l,z9.1,z9.2.Wq (λb q=>q) (λb o e=>bA.Zp h0 e) λb q=>.inl q⟩
noncomputable def Sys.cell(Z:Sys)(a:Mk)(o:P8)(cv:Loc):Sys:={Z with base:=λb=>if b=a then Mc o else Z.base b,cv:=cv}
theorem Sys.aaf{cv:Loc}(h0:Z.base a=Mq):More Z (Z.cell a o cv):=⟨rfl,rfl,rfl,rfl,rfl,λb o' e=>(if_neg λq=>by rw[q,h0] at e;cases e).trans e⟩
set_option backward.match.sparseCases true in theorem aaA(hlim:∀h:Ox,(∀a o,Z.base a=Mc o->h.get? a=Mc o)->h.NoLimit)(B:aN Z Kg){cn:Nn}{c:T}(F:AY Z Kg f cn ns c){v0:Md}{Q:Md->Sg->Prop}(h1:args.length=ns.length)(h:∀Z',More Z Z'->Z'.cv=[(enc cn,v0)]->exec Z' n c [] (ns.zip args) J (bY Q)):ac Z (n+1) (.ref f) (v0::args) J Q:=by
 intro Φ g s A vals I hb hr hg ho hv;refine ae F.1 λK z8=>?_;have F:=z8.2.1;have hc:=z8.2.2;have zqi:_:=uq F;induction zqi with
 |mk o fd body ho' hdat hbd hbi FH=>
 have p0:=FH.1;have ph:=FH.2.1;have e5:=FH.2.2.1;have hl:=FH.2.2.2.1;have p9:=FH.2.2.2.2.2.2.2.1;have F2:=FH.2.2.2.2.2.2.2.2.1;have F3:=FH.2.2.2.2.2.2.2.2.2.1;have F7:=FH.2.2.2.2.2.2.2.2.2.2.2.2.2.1;simp only[Oe,Qm,O9] at p0;obtain⟨⟨⟨p1,p2⟩,p3⟩,p4⟩:=p0;have base:∀a o,Z.base a=Mc o->s.heap.get? a=Mc o:=λa o e=>(I.1 a o (hb a o e).1).1.at (hb a o e).2;have X:K.In s.heap:=λa o e=>base a o (z8.1 a o e);induction vals with
 |nil=>cases hv
 |cons w0 vals'=>
 obtain⟨hv0,hva⟩:=Wg hv;obtain⟨names,hnames⟩:∃names,fd.params.args.map (·.arg)=cn::names:=by
  cases q:fd.params.args.map (·.arg) with
  |nil=>rw[q] at ph;cases ph
  |cons x r=>rw[q] at ph;cases ph;exact⟨r,rfl⟩
 rw[hnames] at e5 hl;have e5:names.map enc=ns:=e5;have hlen:names.length=ns.length:=by rw[<-e5,Mt]
 have hargs:vals'.length=args.length:=by rw[<-hva,Mt]
 have hnd:(cn::names).Nodup:=jP (by rw[Nm,e5];exact FH.2.2.2.2.1);have hloc:∀x∈names.zip vals',fd.scope.names.lookup x.1=Mc .local:=λx hx=>beq_iff_eq.mp (NT.mp hl _ (Uj hx).1);have h0:∀x∈names,enc x≠0:=λx hx=>bne_iff_ne.mp (NT.mp FH.2.2.2.2.2.1 _ (MU _ (e5▸NA hx)));have hbind:=qT (s:=s) (fd:=fd) (ns:=cn::names) (vals:=w0::vals') (ds:=[]) ⟨p1,hnames,p2,p3,p4⟩ hnd (λM A E Q hq=>by rw[beq_iff_eq.mp FH.2.2.2.2.2.2.2.2.2.2.2.2.2.2.2];exact Mz (hq _ rfl)) (by simp;exact aS 0x109211c200029941510d50944b521689d4130f [] [_,_,_,_] h1 hlen hargs) (by simp) (by simp;exact aS 0x1096114210029950944b505443521689d4130f [] [_,_,_,_] h1 hlen hargs);rw[Pc,show(cn::names).zip (w0::vals'++([]:List Md).drop ((w0::vals').length+0-(cn::names).length))=(cn,w0)::names.zip vals' by simp] at hbind;have p9:=beq_iff_eq.mp p9;have hcs:=iz fd.scope.names (s.heap.objs.size+1) p9;refine Wc.YY (by have:=hr.1;unfold O4;exact af 0x142c61000117082284740448276b43fa041418 [] [_,_] this) (X _ _ ho') hdat (hlim _ base) (codeRec_of X FH.2.2.2.2.2.2.2.2.2.2.2.2.2.2.1) hbd hbind (Qm.mp FH.2.2.2.2.2.2.2.2.2.2.1) (λx hx=>?_) (λs₁ S=>?_) FH.2.2.2.2.2.2.2.2.2.2.2.1 FH.2.2.2.2.2.2.2.2.2.2.2.2.1 F7
 ·refine Pj (MS.mp hx) (λzz=>?_) (λhx=>?_);rw[zz];·exact .inr ⟨FH.2.2.2.2.2.2.1,by rw[hcs];simp⟩
  ·exact .inl (hloc x hx)
 have hnl:¬fd.scope.names.lookup cn=Mc .local:=by rw[FH.2.2.2.2.2.2.1];nofun
 rw[show(Pt fd s.heap.objs.size f).kindOf=λx=>fd.scope.names.lookup x from rfl,show(Pt fd s.heap.objs.size f).cells=[(cn,s.heap.objs.size+1)] from hcs,show(Pt fd s.heap.objs.size f).locals=s.heap.objs.size from rfl] at S;unfold bindL bindC at S;rw[if_neg hnl,if_neg hnl,oM _ _ hloc,oC _ _ hloc] at S;obtain⟨⟨⟨h₁,tk,rfl⟩,hns,hk,_⟩,hcell,_,_⟩:=S;refine ae (hcell cn (s.heap.objs.size+1) (by simp)) λoc z7=>?_;obtain⟨hoc,hod⟩:=z7;rw[if_pos rfl] at hod;generalize hLL:s.heap.objs.size=L at*;have F0:=I.fresh (a:=L) (hLL▸MC _);have F1:=I.fresh (a:=L+1) (hLL▸Qe _);have hne:L+1≠L:=Nat.succ_ne_self L;have hz:Z.base (L+1)=none:=by
  cases q:Z.base (L+1) with
  |none=>rfl
  |some o=>have:=(hb _ _ q).1;rw[F1.2.1] at this;cases this
 have M:More Z (Z.cell (L+1) oc [(enc cn,v0)]):=Sys.aaf hz;have nfr:¬(Φ.with L).fr (L+1):=λq=>q.elim hne (I.XZ (hLL▸Qe _));have hb':WI (Z.cell (L+1) oc [(enc cn,v0)]) ((Φ.with L).add (L+1) oc):=λa o e=>by
  by_cases q:a=L+1;·subst q;exact⟨bA.XR.trans ((if_pos rfl).symm.trans e),nfr⟩
  ·have e:=(if_neg q).symm.trans e;refine⟨(bA.YW q).trans (hb a o e).1,λz=>z.elim (λz=>?_) (hb a o e).2⟩;have:=(hb a o e).1;rw[z,F0.2.1] at this;cases this
 unfold dl at hc;rw[hbi,NH] at hc;refine ae (MP.mp hc) λz5 z6=>?_;have c':=z5.1;have ok:=z5.2;obtain rfl:=z6.2;have AN:sg (Z.cell (L+1) oc [(enc cn,v0)]) fd.scope (Pt fd L f):=λx hx=>by have:(x,NameKind.cell)∈fd.scope.names.filter (λx=>x.2==.cell):=List.mem_filter.mpr ⟨Xh hx,rfl⟩;rw[p9] at this;have e:_:=congrArg RB (MM.mp this);replace e:x=cn:=e;subst e;exact⟨L+1,oc,w0,by rw[show(Pt fd L f).cells=[(x,L+1)] from hcs];simp,if_pos rfl,hod,uh hod,by rw[hv0];exact if_pos rfl⟩
 refine Wc.Wm (ok ⟨Z.cell (L+1) oc [(enc cn,v0)],(Φ.with L).add (L+1) oc,L,A.deeper (Pt fd L f),n,Pt fd L f,B.Xm M,hb',⟨rfl,F7,rfl,F2,F3⟩,(hr.XK (L:=L) F7 rfl).add F1.2.1,AN⟩ (ns.zip args) J {s with heap:=h₁,toks:=tk} (bY Q) ?_ (h _ M rfl)) (λfl s' hfl=>?_) λb b y=>y.elim
 ·refine⟨_,_,(I.XK F0.2.2 (by refine ae hns λo z2=>?_;refine ae z2 λb z3=>?_;refine ae z3 λb z4=>?_;obtain⟨q,_⟩:=z4;exact⟨o,q⟩) hk).add ((c6 hne).trans F1.2.2) hoc,(c6 hne.symm).trans ((c6 hne.symm).trans bi),hns,λx=>?_,hg,ho⟩;have e1:(match(names.zip vals').reverse.lookup x with|some v=>Mc v|none=>(Mq:Option Md))=(names.zip vals').lookup x:=by rw[l6 (by rw[Rf (aS 0x1096114210029950944b505443521689d4130f [] [_,_,_,_] h1 hlen hargs)];exact(OE.mp hnd).2)];cases (names.zip vals').lookup x<;>rfl
  rw[e1,xf (by rw[e5];exact(OE.mp FH.2.2.2.2.1).2) h0,e5,hva]
 ·refine qp (Z':=Z.cell (L+1) oc [(enc cn,v0)]) (Φ':=(Φ.with L).add (L+1) oc) (L:=L) (r:=λf=>.ok (.ret (match f with|.ret v=>v|_=>.none))) rfl (λI=>Inv.leave F0.2.1 (Inv.abe F1.2.1 I)) hfl (λb=>rfl) rfl
noncomputable def aaT:Data->Option ClassData
 |.cls cd=>Mc cd
 |_=>Mq
abbrev Ig(C P:Mk)(o:P8)(cd:ClassData):Prop:=o.cls=.type "type"/\(cd.mro==.ref C::.ref P::mO)=Mh/\cd.hasDict=Mh/\cd.hasDel=Mg/\o.slots.toList.length=6/\(o.slots[4]?==Mc (Mc (.builtin "ValueError.__new__")))=Mh
noncomputable def C6(K:PO)(C P:Mk):Bool:=match K.lookup C with
 |some o=>match aaT o.data with
  |some cd=>M0 (Ig C P o cd)
  |none=>Mg
 |none=>Mg
inductive uO(K:PO)(C P:Mk):Prop
 |mk (nm q:Nn) (N:Mk) (bs:List Md) (sn:List Nn) (sub:List Md) (ab:Bool) (col:Option Bool) (dd:Option Mk) (k0 k1 k2 k3 k5:Option Md):K.lookup C=Mc (Pe nm q C N bs (.ref P::mO) Mh sn sub ab col dd k0 k1 k2 k3 k5 "ValueError.__new__")->uO K C P
theorem jm{l:List α}(h:l.length=n+1):bM λa r=>l=a::r/\r.length=n:=by
 induction l with
 |nil=>cases h
 |cons a r=>exact⟨a,r,rfl,Sf h⟩
theorem zH{l:List α}(h:l.length=6):∃a b c d e f,l=[a,b,c,d,e,f]:=by refine bI (jm h) λa l1 z19=>?_;rw[z19.1];refine bI (jm z19.2) λb l2 z18=>?_;rw[z18.1];refine bI (jm z18.2) λc l3 z17=>?_;rw[z17.1];refine bI (jm z17.2) λd l4 z16=>?_;rw[z16.1];refine bI (dM z16.2) λe f z15=>?_;rw[z15];exact⟨a,b,c,d,e,f,rfl⟩
theorem zN{P:Mk}(h:C6 K C P=Mh):uO K C P:=by
 unfold C6 at h;cases hl:K.lookup C with
 |none=>rw[hl] at h;cases h
 |some o=>
 rw[hl] at h;dsimp only at h;cases hc:aaT o.data with
 |none=>rw[hc] at h;cases h
 |some cd=>
 rw[hc] at h;obtain z14:=of_decide_eq_true h;have hd:o.data=.cls cd:=by cases q:o.data<;>rw[q] at hc<;>cases hc;rfl
 obtain⟨oc,od,odt,⟨l⟩⟩:=o;refine ae (zH z14.2.2.2.2.1) λk0 z9=>?_;refine ae z9 λk1 z10=>?_;refine ae z10 λk2 z11=>?_;refine ae z11 λk3 z12=>?_;refine ae z12 λk4 z13=>?_;refine ae z13 λk5 e=>?_;obtain rfl:l=_:=e;obtain rfl:oc=_:=z14.1;obtain rfl:odt=_:=hd;obtain⟨a1,a2,a3,a4,a5,a6,a7,a8,a9,a10,a11⟩:=cd;obtain rfl:a3=_:=beq_iff_eq.mp z14.2.1;obtain rfl:a6=_:=z14.2.2.1;obtain rfl:a11=_:=z14.2.2.2.1;obtain rfl:k4=_:=MI (beq_iff_eq.mp z14.2.2.2.2.2);exact⟨a1,a5,a4,a2,a7,a8,a9,a10,od,k0,k1,k2,k3,k5,hl⟩
theorem vF(P:Mk):mB (.ref P::mO):=⟨rfl,rfl,rfl,rfl⟩
inductive AC(X:CX):List ON->Prop
 |mk {p1 p2 p3 p4 p5 p6 p7 p8 p9 p10} (h1:ax X "ValueError" (.type "ValueError")/\dw "ValueError") (h2:X.scope.names.lookup ("self":Nn)=Mc .local) (h3:X.scope.names.lookup ("reason":Nn)=Mc .local) (h4:p2.endLine=p5.line) :
  AC X [.Expr (.Call (.Attribute (.Name "ValueError" p1) "__init__" p2) [.Name "self" p3,.Name "reason" p4] [] p5) p6,.Assign [.Attribute (.Name "self" p7) "reason" p8] (.Name "reason" p9) p10]
inductive xx(Z:Sys)(Kg:PO)(fI:Mk):Prop where
 |mk (ok:∃K,bF K Z.base/\kW K fI [enc ("self":Nn),enc ("reason":Nn)] [.str "" 0]=Mh/\∀sc b,aL K fI=Mc (sc,b)->AC ⟨Kg,sc⟩ b)
noncomputable def Z0:Heap:=⟨#[],{}⟩
theorem zw(b:Mk):Z0.get? b=none:=by
 cases q:Z0.get? b with
 |none=>rfl
 |some o=>have:=Nz q;simp[Z0] at this
theorem zF:findCls [] (.type "ValueError") (.type "type") "__init__"=Mc (.val (.builtin "ValueError.__init__")):=by kernel_rfl
theorem zi:Vd (.type "ValueError")=NN (.type "type"):=by kernel_rfl
theorem uS:handedIn (.builtin "ValueError.__init__")=true:=by decide +kernel
theorem tb:(("self":Nn)==("__debug__":Nn))=false:=by decide +kernel
theorem oP:(("reason":Nn)==("__debug__":Nn))=false:=by decide +kernel
theorem yy:Manifest.isStub "ValueError"=false:=by decide +kernel
theorem zt{m:Nn->Option Md}(hns:s.heap.Ns L m){Q:Md×List Md->Ml->Prop}(h:Q (.builtin "ValueError.__init__",[]) {s with toks:=s.toks+1}):Mx (Mj prog w) A (Rh (.type "ValueError") "__init__" pl) Q E s:=by
 have X₀:Frag.In ([]:PO) Z0:=λa o q=>by cases q
 have F₀:Fr Z0 L s.heap m:=⟨hns,λb o q=>(by rw[zw] at q;cases q),Nb _⟩;exact(@method_type prog w A E s [] L Z0 m "__init__" (.builtin "ValueError.__init__") "ValueError" pl Q F₀ X₀ zi yy) zF uS h
theorem Al{X:CX}(hE:ky env X.scope L){m:Nn->Option Md}(hns:s.heap.Ns L m){id:Nn}(hk:X.scope.names.lookup id=Mc .local)(hu:m id=Mc u)(hd:dw id)(h:Q' u s):Mx (Mj Z.prog Z.w) A (NV (.Name id pos) env) Q' E s:=
 Ve (wpAny_loadName_local (by rw[hE.1];exact hE.2) (by unfold SD;rw[hE.1];exact hk) (by rw[hE.3];exact hns) hu h) hd
inductive yA(C e:Mk)(fresh:Bool)(h:Ox):Prop
 |mk (o:P8) (vs:Array Md):h.get? e=Mc o->o.cls=.ref C->o.data=.fields vs->vs[1]?=Mc .none->(fresh=Mh->o.dict=Mq)->(fresh=Mg->∃a0,vs[0]?=Mc a0)->yA C e fresh h
inductive Cj(C e:Mk)(h:Ox):Prop
 |mk (o:P8) (vs:Array Md) (a0:Md):h.get? e=Mc o->o.cls=.ref C->o.data=.fields vs->o.dict=Mq->vs[1]?=Mc .none->vs[0]?=Mc a0->Cj C e h
noncomputable def Z8(C e:Mk)(h:Ox):Prop:=oz λo vs a0=>h.get? e=Mc o/\o.cls=.ref C/\o.data=.fields vs/\vs[1]?=Mc .none/\vs[0]?=Mc a0
section
variable{X:CX}{P:Mk}{os:O5}
theorem A8(hC:uO K C P)(hK:K.In h)(x:yA C e Mh h)(k:∀h',(∀b ob,b≠e->h.get? b=Mc ob->h'.get? b=Mc ob)->Cj C e h'->Q .none ⟨h',g,d,t,os⟩):Mx (Mj Z.prog Z.w) A (OG (.builtin "ValueError.__init__") [.ref e,v]) Q E ⟨h,g,d,t,os⟩:=by
 induction hC with
 |mk nm q N bs sn sub ab col dd k0 k1 k2 k3 k5 hCl=>
 induction x with
 |mk o vs he hc hdat h1 hdn=>
 have hsz:=(O3.mp h1).1;exact pp (vF P) (hK _ _ hCl) he hc hdat hsz λh' x y=>k h' x ⟨_,_,.ref h.objs.size,y,hc,rfl,hdn rfl,(Array.getElem?_setIfInBounds_ne (by decide)).trans h1,by rw[RQ,if_pos rfl,if_pos (QZ Nat.zero_lt_one hsz)]⟩
theorem BC(hC:uO K C P)(hK:K.In h)(ha:Ou K (.ref C) "__setattr__"=Mc (Mc (.builtin "object.__setattr__")))(hn:Ou K (.ref C) "reason"=Mc Mq)(x:Cj C e h){Q:Unit->Ml->Prop}(k:∀h' tk,(∀b ob,b≠e->h.get? b=Mc ob->h'.get? b=Mc ob)->Z8 C e h'->Q () ⟨h',g,d,tk,os⟩):Mx (Mj Z.prog Z.w) A (Vp (.ref e) "reason" v) Q E ⟨h,g,d,t,os⟩:=by
 induction hC with
 |mk nm q N bs sn sub ab col dd k0 k1 k2 k3 k5 hCl=>
 induction x with
 |mk o vs a0 y1 y2 y3 y4 y5 y6=>exact uI hK (hK _ _ hCl) ha hn y1 y2 y3 y4 λh₂ tk dx x1 x2=>k h₂ tk x1 ⟨_,vs,a0,x2,y2,y3,y5,y6⟩
theorem zq(B:aN Z X.K)(hE:ky env X.scope L){m:Nn->Option Md}{p1 p2 p4 p5:Qv}{u2:Md}(here:∀a o,Z.base a=Mc o->h.get? a=Mc o)(hns:h.Ns L m)(hg:ax X "ValueError" (.type "ValueError")/\dw "ValueError")(t2:X.scope.names.lookup ("self":Nn)=Mc .local)(t3:X.scope.names.lookup ("reason":Nn)=Mc .local)(t4:p2.endLine=p5.line)(m1:m "self"=Mc (.ref e))(m2:m "reason"=Mc u2)(k:∀tk,Mx (Mj Z.prog Z.w) A (OG (.builtin "ValueError.__init__") [.ref e,u2]) Q E ⟨h,g,d,tk,os⟩):Mx (Mj Z.prog Z.w) A (NV (.Call (.Attribute (.Name "ValueError" p1) "__init__" p2) [.Name "self" p3,.Name "reason" p4] [] p5) env) Q E ⟨h,g,d,t,os⟩:=by
 rw[arm_eval_Call,jX rfl];refine Mf (tG B hE here hg λu hu=>?_);rw[bJ hu];refine Mf (QR ?_);unfold methodCall;have hpos:Rx Mh (.Name (OW "ValueError") p1) env p2 p5=NN p5:=by unfold Rx;simp[t4]
 show Mx _ _ (Pm [TX "ValueError"] (Rh (.type "ValueError") "__init__" _)>>=λx=>Rx Mh _ env p2 p5>>=λcp=>QT cp x.1 x.2 _ _) _ _ _;rw[hpos];refine Mf (Oy (zt (by exact hns) (Mf (Mz ?_))));dsimp only;refine callWith_builtin rfl ?_;show Mx _ _ (Vo (.builtin "ValueError.__init__") Mh [(Mg,NV (.Name "self" p3) env),(Mg,NV (.Name "reason" p4) env)] []) _ _ _;exact evalArgs_plain (Vw (Al hE (by exact hns) t2 m1 tb (Vw (Al hE (by exact hns) t3 m2 oP (spliced_nil (k _))))))
end
variable{g:Mk->Own}
theorem sZ(B:aN Z Kg)(hlim:∀h:Ox,(∀a o,Z.base a=Mc o->h.get? a=Mc o)->h.NoLimit)(hK:bF K Z.base){P:Mk}(F:xx Z Kg fI)(hC:uO K C P)(ha:Ou K (.ref C) "__setattr__"=Mc (Mc (.builtin "object.__setattr__")))(hn:Ou K (.ref C) "reason"=Mc Mq)(I:Inv Φ J g s.heap)(hb:WI Z Φ)(hd:A.depth<O4)(hg:s.gens=#[])(ho:s.os=Z.os)(x:yA C e Mh s.heap)(hnew:Z.base e=Mq)(hq:∀h' tk,(∀b ob,b≠e->s.heap.get? b=Mc ob->h'.get? b=Mc ob)->Z8 C e h'->Q .none {s with heap:=h',toks:=tk}):Mx (Mj Z.prog Z.w) A (OG (.ref fI) [.ref e,v]) Q E s:=by
 refine ae F.1 λKf z8=>?_;have F2:=z8.2.2;have En:=ent (A:=A) (vals:=[.ref e,v]) (args:=[.ref e,er v]) hlim z8.1 z8.2.1 (by simp) (by simp) I hb hg ho rfl;induction En with
 |mk o fd body binds a1 a2 a3 a4 a5 a6 a7 a8 a9 b1 b2 b3 b4 b5 b6 b7=>
 refine wpAny_call (codeAny_call_def hd a1 a2 a3 a4 a5 a6 a7 a8 (λh₀ hns hk=>?_) a9 b1 b2);have y:=b7 h₀ hns hk;have here₀:=y.here b6;have hes:e≠s.heap.objs.size:=by induction x with|mk o vs he=>exact Nd (Nz he)
 have zqi:_:=F2 _ _ b3;induction zqi with
 |mk t1 t2 t3 t4=>
 have hint:Ta (Sk fd s.heap.objs.size fI)=false:=by unfold Ta;rw[b5.1,b5.2];rfl
 generalize Sk fd s.heap.objs.size fI=env at*;induction y with
 |mk g' m I' hL hns' hm hg' ho'=>
 have hne:enc ("self":Nn)≠enc ("reason":Nn):=by decide +kernel
 refine ae (hm.get (n:="self") (u:=.ref e) (if_pos rfl)) λu1 z7=>?_;have m1:=z7.1;refine ae (hm.get (n:="reason") (u:=er v) ((if_neg hne).trans (if_pos rfl))) λu2 z6=>?_;rw[aq z7.2] at m1;have x₀:yA C e Mh h₀:=by induction x with|mk o vs he hc hd h1 h2 h3=>exact⟨o,vs,hk _ _ he,hc,hd,h1,h2,h3⟩
 refine Qu (wpAny_Expr (zq B b5 here₀ hns' t1 t2 t3 t4 m1 z6.1 λtk=>A8 hC (λa o q=>here₀ a o (hK a o q)) x₀ λh₁ w1 x₁=>?_) hint rfl);have here₁:∀a o,Z.base a=Mc o->h₁.get? a=Mc o:=λa o q=>w1 _ _ (λz=>by rw[z,hnew] at q;cases q) (here₀ a o q);have hns₁:h₁.Ns s.heap.objs.size m:=by refine ae hns' λoN z3=>?_;refine ae z3 λes z4=>?_;refine ae z4 λep z5=>?_;have z1:=z5.1;have z2:=z5.2;exact⟨oN,es,ep,w1 _ _ (Qi hes) z1,z2⟩
 exact Qu (plainObj_wpAny_Assign_Attribute (Al b5 hns₁ t3 z6.1 oP (Al b5 hns₁ t2 m1 tb (BC hC (λa o q=>here₁ a o (hK a o q)) ha hn x₁ λh₂ tk v1 v2=>Qg (hq h₂ tk (λb ob hb hob=>v1 b ob hb (w1 b ob hb (hk b ob hob))) v2)))))
variable{Q:T7->Ml->Prop}
section
variable{M:RW}
variable{nm q:Nn}{N:Mk}{bm:List Md}{sub:List Md}{k0 k1 k2 k3 k5:Option Md}{newId:String}
theorem nF{x:RV Md}(hbase:bm.contains (.type "BaseException")=Mh)(hh:A.handled=Mq)(h:Mx M A x (λv s₁=>bM λe oe=>v=.ref e/\s₁.heap.get? C=Mc (Pe nm q C N bs bm hdct sn sub ab col dd k0 k1 k2 k3 k5 newId)/\ s₁.heap.get? e=Mc oe/\oe.cls=.ref C/\(∃vs,oe.data=.fields vs/\vs[1]?=Mc .none)/\E (.ref e) s₁) E s):Mx M A (raiseStmt env (Mc x) Mq) Q E s:=by
 have hcB:(MJ C::bm).contains (.type "BaseException")=true:=by rw[OJ,hbase,Q0]
 unfold raiseStmt;refine Mf (NM h (λv s₁ h₁=>?_) λa a x=>x);refine bI h₁ λe oe z6=>?_;rw[z6.1];have hC:=z6.2.1;have he:=z6.2.2.1;have hc:=z6.2.2.2.1;refine ae z6.2.2.2.2.1 λvs z7=>?_;have hd:=z7.1;have hv:=z7.2;have hE:=z6.2.2.2.2.2;obtain⟨o1,o2,o3,o4⟩:=oe;dsimp only at hc hd;subst hc hd;obtain⟨hp,g,d,tk,os⟩:=s₁;repeat (first|with_reducible refine NZ he ?_|with_reducible refine NZ hC ?_|(with_reducible refine Qt hC ?_;rw[hcB])|wp_step)
 rw[hv];refine Mz ?_;rw[if_neg (by decide)];exact Mz (wpAny_raiseNew_none hh hE)
end
inductive cL(Z:Sys)(Kg:PO)(C:Mk):Prop where
 |mk (lim:∀h:Ox,(∀a o,Z.base a=Mc o->h.get? a=Mc o)->h.NoLimit)
  (ok:oz λK P fI=>bF K Z.base/\uO K C P/\Ou K (.ref C) "__setattr__"=Mc (Mc (.builtin "object.__setattr__"))/\Ou K (.ref C) "reason"=Mc Mq/\
  Ou K (.ref C) "__init__"=Mc (Mc (.ref fI))/\(K.lookup fI).any (λo=>o.cls==.type "function")=Mh/\xx Z Kg fI)
section
variable{X:CX}{W:Cn X}
inductive MadeX(W:Cn X)(J:Sg)(ρ:Loc)(C:Mk)(v:Md)(s:Ml):Prop
 |mk (s₁:Ml) (h':Ox) (tk:Nat) (e:Mk):v=.ref e->s={s₁ with heap:=h',toks:=tk}->W.St J ρ s₁->(∀b ob,s₁.heap.get? b=Mc ob->h'.get? b=Mc ob)->s₁.heap.get? e=Mq->Z8 C e h'->MadeX W J ρ C v s
theorem Am(F:cL W.Z X.K C)(x:W.St J ρ s):Mx (Mj W.Z.prog W.Z.w) W.A (OG (.ref C) [v]) (MadeX W J ρ C) E s:=by
 refine ga F.2 λK P fI z5=>?_;have hC:=z5.2.1;refine ae (Qw z5.2.2.2.2.2.1) λoI z4=>?_;have hfo:=z4.1;have hfc:=z4.2;have here:=x.here W.hb;obtain⟨hp,g,d,tk,os⟩:=s;have hX:∀h':Ox,(∀b o,hp.get? b=Mc o->h'.get? b=Mc o)->K.In h':=λh' k a o q=>k _ _ (here a o (z5.1 a o q));have zqi:_:=id hC;induction zqi with
 |mk nm q N bs sn sub ab col dd k0 k1 k2 k3 k5 hCl=>
 refine uN (vF P) (here _ _ (z5.1 _ _ hCl)) (λh' k=>PG (hX h' k) z5.2.2.2.2.1) (here _ _ (z5.1 _ _ hfo)) (beq_iff_eq.mp hfc) (λh' e hm=>?_) (by rw[NK];show 1<=_;exact Mr _ _);refine ae hm.there λt z3=>?_;have ht:=z3.1;have zqi:_:=id x;induction zqi with
 |mk gm m I hL hns hmm hg ho=>
 have hnew:W.Z.base e=none:=by
  cases q:W.Z.base e with
  |none=>rfl
  |some o=>have:=here _ _ q;rw[hm.new] at this;cases this
 refine sZ (s:=⟨h',g,d,tk,os⟩) W.B F.1 z5.1 z5.2.2.2.2.2.2 hC z5.2.2.1 z5.2.2.2.1 (I.keeps hm.keeps) W.hb (by show W.A.depth+1<O4;have:=W.hr.1;unfold O4;exact af 0x142c61000117082855011209c0f068df4088267c25 [] [_,_] this) hg ho ⟨_,_,ht,rfl,rfl,rfl,λc=>rfl,nofun⟩ hnew λh'' tk' w1 w2=>⟨rfl,?_⟩;exact⟨⟨hp,g,d,tk,os⟩,h'',tk',e,rfl,rfl,x,λb ob q=>w1 b ob (λz=>by rw[z,hm.new] at q;cases q) (hm.keeps b ob q),hm.new,w2⟩
theorem vf(F:cL W.Z X.K C)(x:W.St J ρ s){np kp cp:Qv}{c:Nn}(hy:ax X y (.ref C)/\dw y)(hE:∀v s',MadeX W J ρ C v s'->E v s'):Mx (Mj W.Z.prog W.Z.w) W.A (PZ (.Raise (Mc (.Call (.Name y np) [.Constant (.str c) kd kp] [] cp)) Mq pos) W.env) Q E s:=by
 refine ga F.2 λK P fI z2=>?_;have hC:=z2.2.1;induction hC with
 |mk nm q N bs sn sub ab col dd k0 k1 k2 k3 k5 hCl=>
 rw[arm_exec_Raise];refine Mf (QR (nF (C:=C) (nm:=nm) (q:=q) (N:=N) (bs:=bs) (bm:=.ref P::mO) (hdct:=Mh) (sn:=sn) (sub:=sub) (ab:=ab) (col:=col) (dd:=dd) (k0:=k0) (k1:=k1) (k2:=k2) (k3:=k3) (k5:=k5) (newId:="ValueError.__new__") rfl W.hr.2.2.1 ?_));refine Mf (NM (wpAny_Call_ofName (tG W.B W.hE (x.here W.hb) hy λu hu=>?_)) (λv s₃ h₃=>Mf (QR (Mz h₃))) λd d x=>x);rw[aq hu];unfold QT;show Mx _ _ (Pm [MJ C] (Vo (.ref C) Mh [(Mg,NV (.Constant (.str c) kd kp) W.env)] [])>>=_) _ _ _;refine Mf (Oy (evalArgs_plain (Vw (SJ (spliced_nil ?_)))));refine Mf (QR (Mf (wpAny_keeperOf_exc ((x.here W.hb) _ _ (z2.1 _ _ hCl)) (Mf (NM (Am F (x.tk _)) (λv s' h=>?_) λd d z=>z)))));refine Mf (Oy (U6 (Mz ?_)));have zqi:_:=id h;induction zqi with
 |mk s₁ h' tk e a b x₁ k nw ex=>
 subst a b;refine ga ex λo' vs' a0 z1=>?_;exact⟨e,o',rfl,k _ _ ((x₁.here W.hb) _ _ (z2.1 _ _ hCl)),z1.1,z1.2.1,⟨vs',z1.2.2.1,z1.2.2.2.1⟩,hE _ _ h⟩
end
theorem Inv.abg{frs:List Mk}(I:Inv Φ J g h)(hfr:∀a∈frs,Φ.fr a/\∃o,h.get? a=Mc o/\∀vs,o.data≠.fields vs)(st:(V5 h frs).StaysIn h')(up:h.UpToSlots h'):Inv Φ J g h':=by
 refine I.tr (·∈frs) (λb q=>⟨rfl,rfl,Pl,rfl⟩) (λb o q e=>st b o (hideAll_get _ e q)) (λb d q e=>?_) (λb o q e=>?_) (λb f e=>I.2 b e) (λb c q e=>?_) λb q f=>?_;·rcases I.2 b (hfr b q).1 with z|z<;>rw[z] at e<;>cases e
 ·obtain z22:=I.1 b o e;refine ae z22.1 λsl z23=>?_;obtain z20:=hfr b q;refine ae z20.2 λo' z21=>?_;have f2:=z21.1;rw[z23.1] at f2;cases f2;refine ae (up b _ z23.1 z21.2) λsl' u=>?_;exact⟨⟨sl',u,λz=>absurd z20.1 z⟩,z22.2⟩
 ·have:=(I.3 b c e).1;rcases I.2 b (hfr b q).1 with z|z<;>rw[z] at this<;>cases this
 ·obtain z18:=hfr b q;refine ae z18.2 λo' z19=>?_;refine ae (up b _ z19.1 z19.2) λsl' u=>?_;exact⟨_,u⟩
noncomputable def qs(l:List VC):List Addr:=l.filterMap (·.frame)
theorem iy{h h':Ox}{frs:List Mk}(k:∀b o,h.get? b=Mc o->h'.get? b=Mc o):∀{l:List VC},(∀env∈l,env.scope.kind=.function/\∃L,env.frame=Mc L/\L∈frs/\∃o,h.get? L=Mc o/\∀vs,o.data≠.fields vs)-> h'.FunFrames (V5 h frs) l
 |[],_=>trivial
 |env::r,hl=>by obtain z15:=hl env (.head _);refine ae z15.2 λL z16=>?_;refine ae z16.2.2 λo z17=>?_;exact⟨by rw[z15.1];nofun,⟨L,o,z16.1,hideAll_none _ z16.2.1,k _ _ z17.1,z17.2⟩,iy k λx hx=>hl x (.tail _ hx)⟩
noncomputable def ye(Φ:bA)(J:Sg)(l:List VC)(C e:Mk)(h:Ox):Prop:=
 bM λB a0=>Heap.FlyingW B l e (.ref C) a0 h/\∀h',B.StaysIn h'->h.UpToSlots h'->∃g,Inv Φ J g h'
variable{l:List VC}
theorem vh{X:CX}{W:Cn X}(x:W.St J ρ s)(fl:BV W.Φ (λa=>a=W.L) l):∀env∈l,env.scope.kind=.function/\∃L',env.frame=Mc L'/\W.Φ.fr L'/\∃o,s.heap.get? L'=Mc o/\∀vs,o.data≠.fields vs:=λenv he=>by
 obtain z13:=fl env he;refine ae z13.2 λL' z14=>?_;have d:=z14.2.2;induction x with
 |mk g m I hL hns hm _ _=>
 refine⟨z13.1,L',z14.1,z14.2.1,?_⟩;rcases d with rfl|⟨o,d1,d2⟩
 ·refine ae hns λoN z10=>?_;refine ae z10 λes z11=>?_;refine ae z11 λep z12=>?_;obtain⟨q1,q2,_⟩:=z12;exact⟨oN,q1,λvs z=>by rw[q2] at z;cases z⟩
 ·obtain z8:=I.1 L' o d1;refine ae z8.1 λsl z9=>?_;exact⟨_,z9.1,d2⟩
theorem rc{X:CX}{W:Cn X}(hA:W.A=A.deeper W.env)(hf:W.env.frame=Mc W.L)(hΦ:W.Φ=Φ.with W.L)(h0:Φ.o W.L=Mq)(hl:A.frames=Mc l)(h:MadeX W J ρ C v s){Q:Unit->Ml->Prop}(hQ:∀e s',v=.ref e->ye Φ J l C e s'.heap->s'.gens=#[]->s'.os=W.Z.os->Q () s'):Mx (Mj W.Z.prog W.Z.w) W.A (UO W.env v) Q E s:=by
 induction h with
 |mk s₁ h' tk e a b x k hnew he=>
 subst a b;refine ga he λo vs a0 z7=>?_;refine ae W.hr.2.2.2 λl' z6=>?_;have hl':=z6.1;have hll:l'=W.env::l:=by
  have:(A.deeper W.env).frames=Mc (W.env::l):=by show A.frames.map _=_;rw[hl];rfl
  rw[hA,this] at hl';exact(MI hl').symm
 subst hll;have fr:=vh x z6.2;have hfr:∀a∈qs (W.env::l),W.Φ.fr a/\∃o,s₁.heap.get? a=Mc o/\∀vs,o.data≠.fields vs:=λa ha=>by refine ae (SQ.mp ha) λenv' z5=>?_;obtain⟨he',q⟩:=z5;obtain z3:=fr env' he';refine ae z3.2 λL' z4=>?_;obtain rfl:L'=a:=MI (z4.1.symm.trans q);exact⟨z4.2.1,z4.2.2⟩
 have FF:=iy (h':=h') k (l:=W.env::l) (frs:=qs (W.env::l)) λenv' he'=>by obtain z1:=fr env' he';refine ae z1.2 λL' z2=>?_;exact⟨z1.1,L',z2.1,SQ.mpr ⟨env',he',z2.1⟩,z2.2.2⟩
 have hen:(V5 s₁.heap (qs (W.env::l))).get? e=none:=by
  cases q:(V5 s₁.heap (qs (W.env::l))).get? e with
  |none=>rfl
  |some o=>have:=of_hideAll _ q;rw[hnew] at this;cases this
 refine wpAny_leaving_firstW (a0:=a0) (base:=V5 s₁.heap (qs (W.env::l))) hl' FF hf z7.1 (λb o q=>k _ _ (of_hideAll _ q)) hen z7.2.2.1 z7.2.2.2.1 z7.2.2.2.2 λh'' hL=>hQ e _ rfl ?_ x.gens x.os;have k1:=hL.1;have k2:=hL.2.1.2.2;have k3:=hL.2.2.1;have k4:=hL.2.2.2;refine⟨_,a0,⟨k1,hen,k2,by rw[<-z7.2.1];exact k3⟩,λh3 st up=>?_⟩;induction x with
 |mk g m I _ _ _ _ _=>exact⟨g,Inv.leave h0 (hΦ▸I.abg hfr st ((Heap.UpToSlots.of_keeps k).trans (Heap.UpToSlots.trans k4 up)))⟩
noncomputable def eX:T:=.cst (.int 0 0)<|.ld JM<|.XJ .le<|.ite (.ld JL<|.fld I8<|.cmp .lt<|.ite .rai .Wy)<|.pop<|.Wy
def BW(X:CX)(C:Mk)(b:List ON)(c:T):Prop:=∀(W:Cn X)(_:cL W.Z X.K C)(ρ:Loc)(J:Sg)(s:Ml)(E:Md->Ml->Prop)(Q:Out->Sg->Prop),W.St J ρ s->W.ex c [] ρ J Q->
 (∀J' v s',MadeX W J' ρ C v s'->Q (.next ρ) J'->E v s')->Wc.Wi (Mj W.Z.prog W.Z.w) W.A (Qb b W.env) (λa a=>False) E s
theorem FX{X:CX}{t:MX}{c':Nn}{c:T}{p1 p2 p4 p5:Qv}{rest:List ON}(hy:ax X y (.ref C)/\dw y)(ht:qB X t .Wy .rai c):BW X C (.If t [.Raise (Mc (.Call (.Name y p1) [.Constant (.str c') kd p2] [] p3)) Mq p4] [] p5::rest) c:=λW F ρ J s E Q x e hE=>
 Wc.WK (Wc.ZO (Wc.Wm (ht W ρ J s [] Q x e) (λb s' h=>by
  induction h with
  |t J' x' e'=>exact Wc.WK (Wc.of (vf F x' hy λv s' hm=>hE J' v s' hm e'))
  |f J' x' e'=>exact e'.elim) λa a z=>z.elim))
inductive Ct(Z:Sys)(Kg:PO)(C f:Mk)(ns:List Nat)(c:T):Prop where
 |mk (ok:∃K,bF K Z.base/\kW K f ns []=Mh/\∀sc b,aL K f=Mc (sc,b)->BW ⟨Kg,sc⟩ C b c)
noncomputable def cx(Z:Sys)(n:Nat)(f:Mk)(args:List Md)(J:Sg)(C:Mk):Prop:=
 ∀(Φ:bA)(g:Mk->Own)(s:Ml)(A:O8)(vals:List Md)(l:List VC),Inv Φ J g s.heap->WI Z Φ->oU n A Φ->A.frames=Mc l->s.gens=#[]->s.os=Z.os->vals.map er=args->
  Wc.Wv (Mj Z.prog Z.w) A (.call (.ref f) ⟨vals,[]⟩) (λr s'=>∃e,r=.error (.ref e)/\ye Φ J l C e s'.heap/\s'.gens=#[]/\s'.os=Z.os) s
theorem kD(B:aN Z Kg)(X:cL Z Kg C){c:T}(F:Ct Z Kg C f ns c)(h1:args.length=ns.length)(hx:exec Z n c [] (ns.zip args) J (λa J'=>J'=J)):cx Z (n+1) f args J C:=λΦ g s A vals l I hb hr hl hg ho hv=>by refine ae F.1 λK z1=>?_;have En:=ent (A:=A) X.1 z1.1 z1.2.1 (Oq h1) (by simp;exact af 0x1084004ea1287d4130f [] [_,_] h1) I hb hg ho hv;rw[List.drop_nil,NF] at En;refine XK B hr En λsc body W s' hbi hZ hn hΦ hA hf h0 x=>?_;subst hZ hn;exact Wc.Wm (z1.2.2 sc body hbi W X _ J s' (λv s'=>MadeX W J (ns.zip args) C v s') (λa J'=>J'=J) x hx λJ' v s' h e=>e▸h) (λa a z=>z.elim) λv s' h=>Wc.of (rc hA hf hΦ h0 hl h λe s'' hv R q1 q2=>⟨e,by rw[hv],R,q1,q2⟩)
variable{hs:List U8}{h₀:U8}
namespace Wc
theorem nM{body orelse:RV T7}(h:Wi (Mj prog w) A body (λf s₁=>match f with|.next=>Wi (Mj prog w) A orelse Q E s₁|f=>Q f s₁) (λe s₁=>Wi (Mj prog w) A (Rc e env) (λd s₂=>Wi (Mj prog w) A (setFlight e Mq) (λd s₃=>Wi (Mj prog w) A (handleBy e env (h₀::hs)) Q E s₃) E s₂) E s₁) s):Wi (Mj prog w) A (tryStmt Mg body (h₀::hs) orelse [] env) Q E s:=by
 show Wi _ _ (body.attempt>>=_) _ _ _;refine Wh ?_;intro Γ p a b c;rw[Sem.wp_attempt];refine RC _ Γ _ (λf p' s₁ h₁=>?_) (λe p' s₁ h₁=>?_) p s (h Γ p a b c);·cases f<;>first|exact h₁|exact wpAny_pure h₁
 ·exact Wh (Wm h₁ (λd d h₂=>Wh h₂) λd d x=>x)
theorem Y3{orelse:List ON}(h:Wi (Mj prog w) A (Qb body env) (λf s₁=>match f with|.next=>Wi (Mj prog w) A (Qb orelse env) Q E s₁|f=>Q f s₁) (λe s₁=>Wi (Mj prog w) A (Rc e env) (λa s₂=>Wi (Mj prog w) A (setFlight e Mq) (λa s₃=>Wi (Mj prog w) A (handleBy e env (h₀::hs)) Q E s₃) E s₂) E s₁) s):Wi (Mj prog w) A (PZ (.Try body (h₀::hs) orelse [] pos) env) Q E s:=by rw[arm_exec_Try];exact Wh (Wo (nM h))
end Wc
variable{b₀:ON}{suite:List ON}
section
variable{X:CX}{W:Cn X}
inductive ez(W:Cn X)(J:Sg)(ρ:Loc)(l:List VC)(C:Mk)(v:Md)(s:Ml):Prop
 |mk (e:Mk) (B:Ox) (a0:Md):v=.ref e->Heap.FlyingW B l e (.ref C) a0 s.heap->(∀h' tk,B.StaysIn h'->s.heap.UpToSlots h'->W.St J ρ {s with heap:=h',toks:=tk})->ez W J ρ l C v s
theorem rC{vals:List Md}(hr:og n A W.Φ W.L)(x:W.St J ρ s)(h:cx W.Z n f (vals.map er) J C)(hl:A.frames=Mc l){Q:Md->Ml->Prop}:Wc.Wi (Mj W.Z.prog W.Z.w) A (OG (.ref f) vals) Q (ez W J ρ l C) s:=by
 have zqi:_:=x.aap W.hb hr;induction zqi with
 |mk Φ' g I hb' hr' back=>exact Wc.WN (Wc.WO (h _ _ s A vals l I hb' hr' hl x.gens x.os rfl) λr s' ⟨e,q,⟨B,a0,fl,cl⟩,hg,ho⟩=>by rw[q];exact⟨e,B,a0,rfl,fl,λh' tk st up=>(cl h' st up).elim λg' I2=>back J g' _ I2 hg ho⟩)
abbrev wE(X:CX)(y:Nn)(c:Nat):Prop:=X.scope.names.lookup y=Mc .local/\dw y/\enc y=c
theorem own{id:Nn}{c:Nat}(x:W.St J ρ s)(h:wE X id c)(hl:gf ρ c=Mc v)(q:∀u,er u=v->Q' u s):Wc.Wi (Mj W.Z.prog W.Z.w) W.A (NV (.Name id pos) W.env) Q' E s:=by obtain rfl:=h.2.2;exact Wc.of (Ve (NM (Cn.ld x h.1 hl q) (λa a z=>z) λa a z=>z.elim) h.2.1)
theorem aa2(F:cL W.Z X.K C)(hfr:W.A.frames=Mc (W.env::l))(hf:W.env.frame=Mc W.L)(R:ez W J ρ (W.env::l) C v s){rest:List U8}(hy:ax X y (.ref C)/\dw y)(h:∀s' (E':Md->Ml->Prop),W.St J ρ s'->Mx (Mj W.Z.prog W.Z.w) (W.A.mark (Mc v)) (Qb (b₀::suite) W.env) Q E' s'):Mx (Mj W.Z.prog W.Z.w) W.A (Rc v W.env) (λa s₂=>Mx (Mj W.Z.prog W.Z.w) W.A (setFlight v Mq) (λa s₃=> Mx (Mj W.Z.prog W.Z.w) W.A (handleBy v W.env (.ExceptHandler (Mc (.Name y p)) Mq (b₀::suite) pos::rest)) Q E s₃) E s₂) E s:=by
 induction R with
 |mk e B a0 ev fl cl=>
 subst ev;refine wpAny_looks_onW hfr hf fl λh₄ held₄ sm₄=>?_;refine wpAny_landsW held₄ λh₅ fl₅ sm₅=>?_;have here:=(cl h₅ s.toks fl₅.1 (sm₄.trans sm₅)).here W.hb;refine ga F.2 λK P fI z2=>?_;have hC:=z2.2.1;induction hC with
 |mk nm q N bs sn sub ab col dd k0 k1 k2 k3 k5 hCl=>
 refine ae fl₅.there λob z1=>?_;have hob:=z1.1;have hobc:=z1.2;refine wpAny_handleBy_cons (codeAny_handlers_test (tG W.B W.hE here hy λu hu=>?_)) (by nofun);rw[aq hu];refine wpAny_excMatches_sub_self (here _ _ (z2.1 _ _ hCl)) hob hobc rfl ?_;exact codeAny_handlers_suite (lands_againW fl₅ λh₆ fl₆ sm₆=>h _ _ (cl h₆ s.toks fl₆.1 ((sm₄.trans sm₅).trans sm₆)))
theorem lN(F:cL W.Z X.K C)(hfr:W.A.frames=Mc (W.env::l))(hf:W.env.frame=Mc W.L){p8:Qv}{t:ON}{r1:List ON}(hy:ax X y (.ref C)/\dw y)(h1:Wc.Wi (Mj W.Z.prog W.Z.w) W.A (PZ t W.env) (λa a=>False) (ez W J ρ (W.env::l) C) s)(h:∀v s' (E':Md->Ml->Prop),W.St J ρ s'->Mx (Mj W.Z.prog W.Z.w) (W.A.mark (Mc v)) (Qb (b₀::suite) W.env) Q E' s'):Wc.Wi (Mj W.Z.prog W.Z.w) W.A (PZ (.Try (t::r1) [.ExceptHandler (Mc (.Name y p)) Mq (b₀::suite) pos] [] [] p8) W.env) Q E s:=
 Wc.Y3 (Wc.WK (Wc.Wm h1 (λa a z=>z.elim) λv s' R=>Wc.Wm (Wc.of (aa2 F hfr hf R hy (h v))) (λa a h₂=>Wc.Wm (Wc.of h₂) (λa a h₃=>Wc.of h₃) λa a z=>z) λa a z=>z))
end
noncomputable def fV(v:Md)(x:Option (Option Md)):Bool:=x.any λy=>y.any (·==v)
variable{x:Option (Option Md)}
theorem Av(h:fV v x=Mh):x=Mc (Mc v):=by refine ae (Qw h) λy z=>?_;refine ae (Qw z.2) λu q=>?_;rw[z.1,q.1,beq_iff_eq.mp q.2]
noncomputable def fB(n:String):Option (Option Md)->Bool:=fV (.builtin n)
noncomputable def fN(x:Option (Option Md)):Bool:=x.any (·.isNone)
noncomputable def fR(n:Nat):Option (Option Md)->Bool:=fV (.ref n)
theorem Ec{n:String}(h:fB n x=Mh):x=Mc (Mc (.builtin n)):=Av h
theorem Fl(h:fN x=Mh):x=Mc none:=by refine ae (Qw h) λy z=>?_;rw[z.1,O9.mp z.2]
theorem A4(h:fR n x=Mh):x=Mc (Mc (.ref n)):=Av h
noncomputable def AT(K:PO):Bool:=(K.lookup 361).any λo=>(zc o).any λv=>o.slots.size==0&&v.1.toList.map er==([1,1,1,1]:List Int).map λi=>.int i 0
abbrev Pk:=List Nat->PO
noncomputable def C7:Md->List Nat
 |.ref a=>[a]
 |_=>[]
noncomputable def iv(P:Pk)(f:Nat):Frag:=(((P [f]).head?.bind λp=>Z3 p.2.data).map λfd=>P (f::(C7 fd.code++C7 fd.defaults))).getD []
noncomputable def H8(P:Pk)(n:Nat):List Nat:=match P [n] with
 |[(_,⟨_,_,.dict es _,_⟩)]=>es.toList.flatMap λe=>C7 e.val
 |_=>[]
noncomputable def Fy(P:Pk)(C:Nat):List Nat:=match P [C] with
 |[(_,⟨_,_,.cls cd,_⟩)]=>C::cd.ns::H8 P cd.ns
 |_=>[]
noncomputable def Hk(P:Pk)(C:Nat):Frag:=P (2::3::(Fy P C++(match P2 C 822 with|true=>Fy P 696|false=>[])))
noncomputable def Dm(P:Pk):Frag:=P (Fy P 100++Fy P 39)
noncomputable def t7(P:Pk):Frag:=P [2,3,581]
noncomputable def sA(X:CX)(y:Nn)(v:Md):Bool:=(gl X y).any λu=>u.1==v
theorem pz{X:CX}(h:sA X y v=Mh):ax X y v/\dw y:=by
 unfold sA at h;cases q:gl X y with
 |none=>rw[q] at h;cases h
 |some u=>rw[q] at h;have e:u.1=v:=beq_iff_eq.mp h;exact e▸u.2
noncomputable def cX(P:Pk)(l:List (Nat×List Nat×List Md×T)):Bool:=l.all λx=>kW (iv P x.1) x.1 x.2.1 x.2.2.1
noncomputable def Xc(P:Pk)(l:List (Nat×List Nat×List Md×T)):List (Option T):=l.map λx=>dl (t7 P) (iv P x.1) x.1
noncomputable def ZE(P:Pk):Bool:=BN.all (λx=>wf (Hk P x.1) x.1)
noncomputable def CG(P:Pk)(x:O1×List ON):Option T:=match x.2 with
 |s::_=>(match s with
  |.If t _ _ _=>((Wc.cr 60).t ⟨t7 P,x.1⟩ t .Wy .rai).map Uz
  |_=>Mq)
 |[]=>Mq
inductive FA:List ON->Prop
 |mk {p1 p2 p3 p4 p5 p6 p7 p8 p9 p10} (h:p2.endLine=p5.line):FA [.Expr (.Call (.Attribute (.Name "ValueError" p1) "__init__" p2) [.Name "self" p3,.Name "reason" p4] [] p5) p6,.Assign [.Attribute (.Name "self" p7) "reason" p8] (.Name "reason" p9) p10]
inductive AL:List ON->Prop
 |mk{t p1 c kd p2 p3 p4 p5 rest}:AL (.If t [.Raise (Mc (.Call (.Name "BadArgument" p1) [.Constant (.str c) kd p2] [] p3)) Mq p4] [] p5::rest)
inductive FI:List ON->Prop
 |mk{p1 p2 p3 p4 r1 p5 p6 p7 p8 p9 p10 p11 ci kd p12 p13 r2 p14 kd' p15 p16 p17 Do} :
  FI [.Try (.Expr (.Subscript (.Name "row" p1) (.Name "spot" p2) p3) p4::r1) [.ExceptHandler (Mc (.Name "BadArgument" p5)) Mq [.Pass p6] p7] [] [] p8,
   .Try (.Assign [.Subscript (.Name "row" p9) (.Name "spot" p10) p11] (.Constant (.int ci) kd p12) p13::r2) [.ExceptHandler (Mc (.Name "BadArgument" p14)) Mq [.Return (Mc (.Constant (.bool Mh) kd' p15)) p16] p17] [] [] Do]
inductive H9(P:Pk):Prop where
 |mk (i:∀sc b,aL (iv P 36) 36=Mc (sc,b)->FA b)
  (g:∀sc b,aL (iv P 149) 149=Mc (sc,b)->AL b)
  (s:∀sc b,aL (iv P 156) 156=Mc (sc,b)->AL b)
  (l:∀sc b,aL (iv P 1174) 1174=Mc (sc,b)->FI b)
abbrev aaP(P:Pk):Prop:=tR.all (λa=>keepIn (P [a]) (.ref a))=Mh/\((P [T8]).lookup T8).isSome=Mh/\
 C6 (Dm P) 100 39=Mh/\fB "object.__setattr__" (Ou (Dm P) (.ref 100) "__setattr__")=Mh/\fN (Ou (Dm P) (.ref 100) "reason")=Mh/\fR 36 (Ou (Dm P) (.ref 100) "__init__")=Mh/\
 ((Dm P).lookup 36).any (λo=>o.cls==.type "function")=Mh/\kW (iv P 36) 36 [enc ("self":Nn),enc ("reason":Nn)] [.str "" 0]=Mh/\
 (aL (iv P 36) 36).all (λx=>sA ⟨t7 P,x.1⟩ "ValueError" (.type "ValueError")&&x.1.names.lookup ("self":Nn)==Mc .local&&x.1.names.lookup ("reason":Nn)==Mc .local)=Mh/\
 kW (iv P 149) 149 [JL,JM] []=Mh/\kW (iv P 156) 156 [JL,JM,JN] []=Mh/\
 kW (iv P 1174) 1174 [Jq,JA] []=Mh/\(aL (iv P 1174) 1174).all (λx=>M0 (wE ⟨t7 P,x.1⟩ "row" Jq)&&M0 (wE ⟨t7 P,x.1⟩ "spot" JA))=Mh/\
 (aL (iv P 149) 149).all (λx=>sA ⟨t7 P,x.1⟩ "BadArgument" (.ref 100))=Mh/\(aL (iv P 156) 156).all (λx=>sA ⟨t7 P,x.1⟩ "BadArgument" (.ref 100))=Mh/\(aL (iv P 1174) 1174).all (λx=>sA ⟨t7 P,x.1⟩ "BadArgument" (.ref 100))=Mh/\
 tm (iv P 1179) 1179 "row" [Kq,Ko,6709618]=Mh/\AT (P [361])=Mh/\fR 1189 (nsIn (t7 P) Nw "law")=Mh
noncomputable def aaa(P:Pk):Bool:=M0 (aaP P)
noncomputable def sd(P:Pk):Option T×Option T×Option T:=((aL (iv P 149) 149).bind (CG P),(aL (iv P 156) 156).bind (CG P),dl (t7 P) (iv P 1179) 1179)
inductive ZF(P:Pk):Prop where
 |mk (g1:cX P iX=Mh)
  (cd:Xc P iX=iX.map λx=>Mc x.2.2.2)
  (g2:ZE P=Mh)
  (g3:aaP P)
  (c3:sd P=(Mc eX,Mc eX,Mc bK))
  (shp:H9 P)
noncomputable def CN:UW->RV Fin:=PySem.W.Fast.tw11892475500146522536 PySem.W.Fast.tw14364793385576792824
theorem ze:VJ Pu=CN:=by unfold CN;rw[<-PySem.W.Fast.te11892475500146522536,<-PySem.W.Fast.te14364793385576792824]
noncomputable def fX(p:R8)(w:O6):P6->RR->Option (P6×RR):=PySem.W.Fast.tw10156331382660048174 CN p w
noncomputable def vq(n₀:Nat)(ann:Option Md):RR->Bool:=PySem.W.Fast.tw6613529449190102663 n₀ ann
theorem xl(p:R8)(w:O6):stepT (VJ Pu) p w=fX p w:=by unfold fX;rw[ze,<-PySem.W.Fast.te10156331382660048174]
theorem Cy(n₀:Nat)(ann:Option Md):stepOk n₀ ann=vq n₀ ann:=by unfold vq;rw[<-PySem.W.Fast.te6613529449190102663]
noncomputable def aI(s:P6)(as:List Nat):Frag:=as.filterMap λa=>(bif VX a s.n then(s.tree.get a).bind alive else Mq).map (a,·)
variable{s:P6}
theorem vA(as:List Nat):Frag.In (aI s as) s.abs.heap:=λa o e=>by
 have m:∃p∈aI s as,p=(a,o):=by
  revert e;show(aI s as).lookup a=Mc o->_;generalize aI s as=l;intro e;induction l with
  |nil=>cases e
  |cons p r ih=>
   rw[Ow] at e;cases h:a==p.1 with
   |true=>rw[h] at e;exact⟨p,MT,Wd (beq_iff_eq.mp h).symm (MI e)⟩
   |false=>rw[h] at e;exact(ih e).elim λq z=>⟨q,MU _ z.1,z.2⟩
 refine m.elim λp z=>?_;refine(SQ.mp z.1).elim λb y=>?_;refine(MP.mp (y.2.trans (congrArg Mc z.2))).elim λx q=>?_;have e1:=(VU q.2).1;have e2:=(VU q.2).2;subst e1 e2;have q:=q.1;cases h:VX b s.n with
 |false=>rw[h] at q;cases q
 |true=>rw[h] at q;refine(My.mp q).elim λo' r=>?_;exact(abs_get (MF h) r.1).trans r.2
noncomputable def jK(stp:P6->RR->Option (P6×RR))(ok:RR->Bool)(N:Nat):P6->RR->Option SharedT:=
 N.rec (λa a=>Mq) λa ih s t=>bif through t then Mc s else bif ok t then(stp s t).bind λr=>ih r.1 r.2 else Mq
noncomputable def os0(w:O6)(os:O5):SharedT:=⟨([boot_o_0 w.params,boot_o_1 w.params,boot_o_2 w.params,boot_o_3 w.params,boot_o_4 w.params,boot_o_5 w.params,boot_o_6 w.params,boot_o_7 w.params,boot_o_8 w.params,boot_o_9 w.params,boot_o_10 w.params].zipIdx).foldl (λt p=>t.ins p.2 p.1) .nil,11,{},#[],Rq,Sn,os⟩
theorem yO(w:O6)(os:O5):(os0 w os).abs=⟨OO w.params,#[],Rq,Sn,os⟩:=by with_unfolding_all rfl
variable{stp:P6->RR->Option (P6×RR)}{ok:RR->Bool}
theorem u6{t:RR}:jK stp ok 0 s t=none:=rfl
theorem uK{t:RR}:jK stp ok (n+1) s t=bif through t then Mc s else bif ok t then(stp s t).bind λr=>jK stp ok n r.1 r.2 else none:=rfl
variable{ann:Option Md}
theorem vc{p:R8}{n₀:Nat}(N:Nat):∀(s:P6)(t:RR)(e:P6),jK (stepT (VJ Pu) p w) (stepOk n₀ ann) N s t=Mc e->topRun Pu p w n₀ ann N s.abs t=Mc e.abs:=by
 induction N with
 |zero=>exact λs t e h=>cns (u6.symm.trans h)
 |succ n ih=>
  intro s t e h;show(match through t with|true=>Mc s.abs|false=>match stepOk n₀ ann t with|false=>Mq|true=>match step (VJ Pu) p w s.abs t with|.go s' t'=>topRun Pu p w n₀ ann n s' t'|.halt _ _=>Mq)=_;replace h:=uK.symm.trans h;cases ht:through t with
  |true=>rw[ht] at h;exact congrArg (λx=>Mc x.abs) (MI h)
  |false=>
   rw[ht] at h;cases hk:stepOk n₀ ann t with
   |false=>rw[hk] at h;cases h
   |true=>rw[hk] at h;refine(My.mp h).elim λr z=>?_;have q:_:=stepT_spec (s':=r.1) (t':=r.2) z.1;generalize step (VJ Pu) p w s.abs t=st at q ⊢;subst q;exact ih _ _ _ z.2
variable{P:Pk}
section
open PySem.Challenge
noncomputable def xO(w:O6)(e:P6):Bool:=staticsOk AW (OO w.params) e.abs.heap&&namesBound M4 e.abs.heap&&gensDone e.abs&&laidKept (OO w.params) e.abs.heap
noncomputable def aac(P:Pk):=(aL (iv P 36) 36,aL (iv P 149) 149,aL (iv P 156) 156,aL (iv P 1174) 1174)
theorem oA{l:List (Nat×List Nat×List Md×T)}(h1:cX P (l.take n)=Mh)(h2:cX P (l.drop n)=Mh):cX P l=true:=by unfold cX at*;rw[<-Uo n l,List.all_append,h1,h2];rfl
theorem oQ{l:List (Nat×List Nat×List Md×T)}(h1:Xc P (l.take n)=(l.take n).map λx=>Mc x.2.2.2)(h2:Xc P (l.drop n)=(l.drop n).map λx=>Mc x.2.2.2):Xc P l=l.map λx=>Mc x.2.2.2:=by unfold Xc at*;rw[<-Uo n l,Oc,Oc,h1,h2]
theorem AX{o:Option P6}{l:List (Nat×List Nat×List Md×T)}{g:P6->Bool}(h1:o.map (λe=>(cX (aI e) (l.take n)&&g e,Xc (aI e) (l.take n)))=Mc (Mh,(l.take n).map λx=>Mc x.2.2.2))(h2:o.map (λe=>(cX (aI e) (l.drop n),Xc (aI e) (l.drop n)))=Mc (Mh,(l.drop n).map λx=>Mc x.2.2.2)):o.map (λe=>(cX (aI e) l&&g e,Xc (aI e) l))=Mc (Mh,l.map λx=>Mc x.2.2.2):=by
 cases o with
 |none=>cases h1
 |some e=>have h1:=MI h1;have h2:=MI h2;have a:=MQ.mp (congrArg RB h1);refine congrArg Mc (Wd ?_ (oQ (congrArg Vm h1) (congrArg Vm h2)));exact MQ.mpr ⟨oA a.1 (congrArg RB h2),a.2⟩
end
section
open PySem.Challenge
noncomputable def Zm(l:List ON)(i:Nat):Option (O1×List ON):=match l[i]? with
 |some s=>(match s with
  |.FunctionDef _ _ b _ _ _ sc _ _ _=>Mc (sc,b)
  |_=>Mq)
 |none=>Mq
noncomputable def pR(l:List ON)(i:Nat):List Stmt:=match l[i]? with
 |some s=>(match s with
  |.ClassDef _ _ _ b _ _ _ _ _ _ _=>b
  |_=>[])
 |none=>[]
noncomputable def Hh:Option (O1×List ON):=Zm (pR M4.main.body 2) 0
noncomputable def D9:Option (O1×List ON):=Zm (pR M4.main.body 22) 2
noncomputable def DL:Option (O1×List ON):=Zm (pR M4.main.body 22) 3
noncomputable def AJ:Option (O1×List ON):=Zm M4.main.body 84
theorem jE{o:Option (O1×List ON)}{x:O1×List ON}{p:List ON->Prop}(h:o=Mc x)(q:p x.2):∀sc b,o=Mc (sc,b)->p b:=λsc b e=>by rw[h] at e;cases e;exact q
theorem Ha:∀sc b,Hh=Mc (sc,b)->FA b:=jE rfl (.mk rfl)
theorem Eu:∀sc b,D9=Mc (sc,b)->AL b:=jE rfl .mk
theorem Ee:∀sc b,DL=Mc (sc,b)->AL b:=jE rfl .mk
theorem B5:∀sc b,AJ=Mc (sc,b)->FI b:=jE rfl .mk
theorem Bv(w:O6)(os:O5):((jK (fX M4 w) (vq 11 (Mc (.ref 6))) 9000 (os0 w os) (Rz M4)).map λe=>(xO w e,openSeen qP s3 AW (λa=>Mh) Mh e.abs,sd (aI e),aac (aI e)))=Mc (Mh,openGood qP s3,(Mc eX,Mc eX,Mc bK),Hh,D9,DL,AJ):=by kernel_rfl
end
section
open PySem.Challenge
theorem Ai(w:O6)(os:O5):((jK (fX M4 w) (vq 11 (Mc (.ref 6))) 9000 (os0 w os) (Rz M4)).map λe=>(cX (aI e) ((iX.take 60).take 28)&&ZE (aI e),Xc (aI e) ((iX.take 60).take 28)))=Mc (Mh,((iX.take 60).take 28).map λx=>Mc x.2.2.2):=by kernel_rfl
theorem Ac(w:O6)(os:O5):((jK (fX M4 w) (vq 11 (Mc (.ref 6))) 9000 (os0 w os) (Rz M4)).map λe=>(cX (aI e) ((iX.take 60).drop 28),Xc (aI e) ((iX.take 60).drop 28)))=Mc (Mh,((iX.take 60).drop 28).map λx=>Mc x.2.2.2):=by kernel_rfl
theorem BX(w:O6)(os:O5):((jK (fX M4 w) (vq 11 (Mc (.ref 6))) 9000 (os0 w os) (Rz M4)).map λe=>(cX (aI e) (iX.take 60)&&ZE (aI e),Xc (aI e) (iX.take 60)))=Mc (Mh,(iX.take 60).map λx=>Mc x.2.2.2):=AX (Ai w os) (Ac w os)
end
section
open PySem.Challenge
theorem Aj(w:O6)(os:O5):((jK (fX M4 w) (vq 11 (Mc (.ref 6))) 9000 (os0 w os) (Rz M4)).map λe=>(cX (aI e) ((iX.drop 60).take 24)&&aaa (aI e),Xc (aI e) ((iX.drop 60).take 24)))=Mc (Mh,((iX.drop 60).take 24).map λx=>Mc x.2.2.2):=by kernel_rfl
theorem yF(w:O6)(os:O5):((jK (fX M4 w) (vq 11 (Mc (.ref 6))) 9000 (os0 w os) (Rz M4)).map λe=>(cX (aI e) ((iX.drop 60).drop 24),Xc (aI e) ((iX.drop 60).drop 24)))=Mc (Mh,((iX.drop 60).drop 24).map λx=>Mc x.2.2.2):=by kernel_rfl
theorem CZ(w:O6)(os:O5):((jK (fX M4 w) (vq 11 (Mc (.ref 6))) 9000 (os0 w os) (Rz M4)).map λe=>(cX (aI e) (iX.drop 60)&&aaa (aI e),Xc (aI e) (iX.drop 60)))=Mc (Mh,(iX.drop 60).map λx=>Mc x.2.2.2):=AX (Aj w os) (yF w os)
end
inductive Ea(X:CX)(C:Mk)(c1 c2:Nat):List ON->Prop
 |mk{a p1 b' p2 p3 p4 r1 y p5 p6 p7 p8 a' p9 b'' p10 p11 ci kd p12 p13 r2 y' p14 kd' p15 p16 p17 Do}(h1:wE X a c1)(h2:wE X b' c2)(h3:wE X a' c1)(h4:wE X b'' c2)(h5:ax X y (.ref C)/\dw y)(h6:ax X y' (.ref C)/\dw y') :
  Ea X C c1 c2 [.Try (.Expr (.Subscript (.Name a p1) (.Name b' p2) p3) p4::r1) [.ExceptHandler (Mc (.Name y p5)) Mq [.Pass p6] p7] [] [] p8,
   .Try (.Assign [.Subscript (.Name a' p9) (.Name b'' p10) p11] (.Constant (.int ci) kd p12) p13::r2) [.ExceptHandler (Mc (.Name y' p14)) Mq [.Return (Mc (.Constant (.bool Mh) kd' p15)) p16] p17] [] [] Do]
inductive Au(Z:Sys)(Kg:PO)(C f:Mk)(c1 c2:Nat):Prop where
 |mk (ok:∃K,bF K Z.base/\kW K f [c1,c2] []=Mh/\∀sc b,aL K f=Mc (sc,b)->Ea ⟨Kg,sc⟩ C c1 c2 b)
variable{i:Int}{lf:Loc}
section
variable{X:CX}{W:Cn X}{s:Ml}{D fg fs:Mk}{a b:Nn}{c1 c2:Nat}{p1 p2 p4 p5:Qv}
theorem rX(hfr:W.A.frames=Mc l)(x:W.St J ρ s)(ha:wE X a c1)(hb:wE X b c2)(g1:gf ρ c1=Mc (.ref r))(g2:gf ρ c2=Mc (.int i 0))(hσ:J r=Mc (.Wu D lf))(hg:mt D (enc ("__getitem__":Nn))=Mc fg)(h1:cx W.Z W.n fg [.ref r,.int i 0] J C):Wc.Wi (Mj W.Z.prog W.Z.w) W.A (PZ (.Expr (.Subscript (.Name a p1) (.Name b p2) p3) p4) W.env) (λc c=>False) (ez W J ρ l C) s:=by
 refine Wc.Yw (Wc.X7 (own x ha g1 λu hu=>own x hb g2 λw hw=>?_)) (Wc.hint W) rfl;rw[aq hu];refine WM hw λtk=>?_;have zqi:_:=jt W.B W.hb x hσ hg "__getitem__" rfl (by decide);induction zqi with
 |mk K ox od hX I f1 f2 f3 _=>exact AE hX I f1 f3 f2 (rC (vals:=[.ref r,.int i tk]) (A:=W.A.in1) (W.hr.Xm (Of ..) (Qr (by decide) _)) x h1 hfr) rfl
theorem s7{ci:Int}(hfr:W.A.frames=Mc l)(x:W.St J ρ s)(ha:wE X a c1)(hb:wE X b c2)(g1:gf ρ c1=Mc (.ref r))(g2:gf ρ c2=Mc (.int i 0))(hσ:J r=Mc (.Wu D lf))(hs:mt D (enc ("__setitem__":Nn))=Mc fs)(h2:∀v,cx W.Z W.n fs [.ref r,.int i 0,v] J C):Wc.Wi (Mj W.Z.prog W.Z.w) W.A (PZ (.Assign [.Subscript (.Name a p1) (.Name b p2) p3] (.Constant (.int ci) kd p4) p5) W.env) (λc c=>False) (ez W J ρ l C) s:=by
 rw[exec_Assign_Subscript _ _ _ _ _ rfl];refine Wc.Wh (Wc.Wo (Wc.Wh (Wc.of (SH ?_))));have x₂:=x.tk (s.toks+1);rw[assign_Subscript];refine Wc.Wh (Wc.Wh (Wc.Wn (own x₂ ha g1 λu hu=>Wc.Wh (Wc.Wn (own x₂ hb g2 λw hw=>?_)))));rw[aq hu];refine WM hw λtk=>?_;have zqi:_:=jt W.B W.hb x₂ hσ hs "__setitem__" rfl (by decide);induction zqi with
 |mk K ox od hX I f1 f2 _ f4=>exact Wc.Wh (Wc.Wo (Wc.Wh (Wc.Wn (A5 hX I f4 f1 f2 (rC (vals:=[.ref r,.int i tk,_]) W.hr.room x₂ (h2 _) hfr)))))
end
variable{Q:Md->Sg->Prop}
theorem aaV(B:aN Z Kg){D fg fs:Mk}(X:cL Z Kg C){c1 c2:Nat}(hc:c1≠c2)(F:Au Z Kg C f c1 c2)(hσ:J r=Mc (.Wu D lf))(hg:mt D (enc ("__getitem__":Nn))=Mc fg)(hs:mt D (enc ("__setitem__":Nn))=Mc fs)(h1:cx Z n fg [.ref r,.int i 0] J C)(h2:∀v,cx Z n fs [.ref r,.int i 0,v] J C)(hQ:Q (.bool Mh) J):ac Z (n+1) (.ref f) [.ref r,.int i 0] J Q:=λΦ g s A vals I hb hr hgen ho hv=>by
 refine ae (id hr.2.2.2) λl z2=>?_;refine ae F.1 λK z1=>?_;have F2:=z1.2.2;have En:=ent (A:=A) (args:=[.ref r,.int i 0]) X.1 z1.1 z1.2.1 (MC 2) (by simp) I hb hgen ho hv;generalize hρ:[c1,c2].zip _=ρ at En;have g1:gf ρ c1=Mc (.ref r):=hρ▸if_pos rfl;have g2:gf ρ c2=Mc (.int i 0):=hρ▸(if_neg hc).trans (if_pos rfl);refine XK B hr En λsc body W s' hbi hZ hn hΦ hA hf h0 x=>?_;have hfr:W.A.frames=Mc (W.env::l):=by rw[hA];show A.frames.map _=_;rw[z2.1];rfl
 subst hZ hn;have zqi:_:=F2 sc body hbi;induction zqi with
 |mk t1 t2 t3 t4 t5 t6=>
 refine Wc.WK (lN X hfr hf t5 (rX hfr x t1 t2 g1 g2 hσ hg h1) λv s₁ E' x₁=>Qu (wpAny_Pass (Qg ?_)));refine Wc.WK (lN X hfr hf t6 (s7 hfr x₁ t3 t4 g1 g2 hσ hs h2) λv s₃ E' x₃=>Qu (wpAny_Return_some (wpAny_Constant_bool ?_)));induction x₃ with
 |mk g' m I' hL hns hm hg' ho'=>exact⟨.bool Mh,_,g',rfl,Inv.leave h0 (hΦ▸I'),hg',ho',hQ⟩
variable{f:Md}
theorem ac.k01(h:ac Z n f args J λr s=>r=v/\J=s)(q:Q v J):ac Z n f args J Q:=
 h.Wq (MC _) (by rintro _ _ ⟨rfl,rfl⟩;exact q)
theorem ac.kst{t:Type}{v:t->Md}{a:t->Prop}{τ:t->Sg}(h:ac Z n f args J λr s=>∃x,a x/\r=v x/\s=τ x)(q:∀x,a x->Q (v x) (τ x)):ac Z n f args J Q:=
 h.Wq (MC _) (by rintro _ _ ⟨x,h,rfl,rfl⟩;exact q x h)
variable{a0:Sg->Prop}
theorem ac.Wr(h:ac Z n f args J λr s=>r=v/\a0 s)(q:∀s,a0 s->Q v s):ac Z n f args J Q:=
 h.Wq (MC _) (by rintro _ s ⟨rfl,h0⟩;exact q s h0)
theorem ac.XW{a1:Sg->Prop}(h:ac Z n f args J λr s=>r=v/\a0 s/\a1 s)(q:∀s,a0 s->a1 s->Q v s):ac Z n f args J Q:=
 h.Wq (MC _) (by rintro _ s ⟨rfl,h0,h1⟩;exact q s h0 h1)
theorem ac.aaD{a1 a2:Sg->Prop}(h:ac Z n f args J λr s=>r=v/\a0 s/\a1 s/\a2 s)(q:∀s,a0 s->a1 s->a2 s->Q v s):ac Z n f args J Q:=
 h.Wq (MC _) (by rintro _ s ⟨rfl,h0,h1,h2⟩;exact q s h0 h1 h2)
theorem ac.aaz{v:t0->Md}{a0 a1:t0->Sg->Prop}(h:ac Z n f args J λr s=>∃x0,r=v x0/\a0 x0 s/\a1 x0 s)(q:∀s x0,a0 x0 s->a1 x0 s->Q (v x0) s):ac Z n f args J Q:=
 h.Wq (MC _) (by rintro _ s ⟨x0,rfl,h0,h1⟩;exact q s x0 h0 h1)
theorem ac.Yd{v:t0->Md}{a0 a1 a2:t0->Sg->Prop}(h:ac Z n f args J λr s=>∃x0,r=v x0/\a0 x0 s/\a1 x0 s/\a2 x0 s)(q:∀s x0,a0 x0 s->a1 x0 s->a2 x0 s->Q (v x0) s):ac Z n f args J Q:=
 h.Wq (MC _) (by rintro _ s ⟨x0,rfl,h0,h1,h2⟩;exact q s x0 h0 h1 h2)
theorem ac.X4{v:t0->Md}{a0 a1 a2 a3:t0->Sg->Prop}(h:ac Z n f args J λr s=>∃x0,r=v x0/\a0 x0 s/\a1 x0 s/\a2 x0 s/\a3 x0 s)(q:∀s x0,a0 x0 s->a1 x0 s->a2 x0 s->a3 x0 s->Q (v x0) s):ac Z n f args J Q:=
 h.Wq (MC _) (by rintro _ s ⟨x0,rfl,h0,h1,h2,h3⟩;exact q s x0 h0 h1 h2 h3)
theorem ac.aab{v:t0->t1->Md}{a0:t0->t1->Sg->Prop}(h:ac Z n f args J λr s=>bM λx0 x1=>r=v x0 x1/\a0 x0 x1 s)(q:∀s x0 x1,a0 x0 x1 s->Q (v x0 x1) s):ac Z n f args J Q:=
 h.Wq (MC _) (by rintro _ s ⟨x0,x1,rfl,h0⟩;exact q s x0 x1 h0)
theorem ac.aaI{v:t0->t1->Md}{a0 a1:t0->t1->Sg->Prop}(h:ac Z n f args J λr s=>bM λx0 x1=>r=v x0 x1/\a0 x0 x1 s/\a1 x0 x1 s)(q:∀s x0 x1,a0 x0 x1 s->a1 x0 x1 s->Q (v x0 x1) s):ac Z n f args J Q:=
 h.Wq (MC _) (by rintro _ s ⟨x0,x1,rfl,h0,h1⟩;exact q s x0 x1 h0 h1)
theorem ac.Z7{v:t0->t1->Md}{a0 a1 a2 a3:t0->t1->Sg->Prop}(h:ac Z n f args J λr s=>bM λx0 x1=>r=v x0 x1/\a0 x0 x1 s/\a1 x0 x1 s/\a2 x0 x1 s/\a3 x0 x1 s)(q:∀s x0 x1,a0 x0 x1 s->a1 x0 x1 s->a2 x0 x1 s->a3 x0 x1 s->Q (v x0 x1) s):ac Z n f args J Q:=
 h.Wq (MC _) (by rintro _ s ⟨x0,x1,rfl,h0,h1,h2,h3⟩;exact q s x0 x1 h0 h1 h2 h3)
theorem ac.aa4{t2:Type}{v:t0->t1->t2->Md}{a0 a1 a2 a3 a4 a5:t0->t1->t2->Sg->Prop}(h:ac Z n f args J λr s=>oz λx0 x1 x2=>r=v x0 x1 x2/\a0 x0 x1 x2 s/\a1 x0 x1 x2 s/\a2 x0 x1 x2 s/\a3 x0 x1 x2 s/\a4 x0 x1 x2 s/\a5 x0 x1 x2 s)(q:∀s x0 x1 x2,a0 x0 x1 x2 s->a1 x0 x1 x2 s->a2 x0 x1 x2 s->a3 x0 x1 x2 s->a4 x0 x1 x2 s->a5 x0 x1 x2 s->Q (v x0 x1 x2) s):ac Z n f args J Q:=
 h.Wq (MC _) (by rintro _ s ⟨x0,x1,x2,rfl,h0,h1,h2,h3,h4,h5⟩;exact q s x0 x1 x2 h0 h1 h2 h3 h4 h5)
theorem mv(a:Int)(h:0<b):a.fdiv b=a/b:=Int.fdiv_eq_ediv_of_nonneg a (Nl h)
noncomputable def EO:Cell->Nat->Option Md
 |.Wu _ fs,k=>gf fs k
 |_,_=>Mq
noncomputable def Id:Cell->Nat->Option Nat
 |.Wu C fs,k=>match gf fs k with
  |none=>mt C k
  |some _=>Mq
 |_,_=>Mq
noncomputable def AN:Cell->Nat->Bool
 |.Wu C fs,k=>(gf fs k).isSome||(AA C k&&M0 (fs.length<=100))
 |_,_=>Mg
noncomputable def X5(d:Cell)(k:Nat)(v:Md):Cell:=match d with
 |.Wu C fs=>.Wu C (sf fs k v)
 |d=>d
noncomputable def s4(ρ E:Loc):Prop:=∀c v,gf E c=Mc v->gf ρ c=Mc v
inductive Fr where
 |bk(st:List Md)(k:T)
 |sq(st:List Md)(k:T)
noncomputable def wr(Z:Sys)(n:Nat)(Q:Out->Sg->Prop):List Fr->Out->Sg->Prop
 |[]=>Q
 |.sq st k::K=>B6 (λρ J=>exec Z n k st ρ J (wr Z n Q K)) (wr Z n Q K)
 |.bk st k::K=>FK λv ρ J=>exec Z n k (v::st) ρ J (wr Z n Q K)
noncomputable def X(Z:Sys)(n:Nat)(Q:Out->Sg->Prop)(K:List Fr)(J:Sg)(E:Loc)(st:List Md)(e:T):Prop:=∀ρ,s4 ρ E->exec Z n e st ρ J (wr Z n Q K)
theorem p1.Wq{F G:Md->List Md->Prop}(h:∀v st,F v st->G v st):∀{st:List Md},p1 F st->p1 G st
 |_::_,q=>h _ _ q
theorem bB.Wq{F G:Int->Prop}(h:∀i,F i->G i)(q:bB F v):bB G v:=by cases v<;>first|exact h _ q|exact q
theorem bB.ex{F:Int->Prop}(q:bB F v):bM λa t=>v=.int a t/\F a:=by cases v<;>first|exact⟨_,_,rfl,q⟩|exact q.elim
theorem dT.Wq{F G:Bool->Prop}(h:∀i,F i->G i)(q:dT F v):dT G v:=by cases v<;>first|exact h _ q|exact q
noncomputable def kn(c:Nat)(v:Md):Loc->(Loc->Prop)->Prop
 |[],κ=>κ [(c,v)]
 |(j,u)::r,κ=>match P2 j c with
  |true=>κ ((j,v)::r)
  |false=>kn c v r λr'=>κ ((j,u)::r')
noncomputable def kg(c:Nat):Loc->(Md->Prop)->Prop
 |[],_=>False
 |(j,v)::r,κ=>match P2 j c with
  |true=>κ v
  |false=>kg c r κ
theorem Ax(c:Nat)(v:Md):∀(E:Loc)(κ:Loc->Prop),kn c v E κ->κ (sf E c v)
 |[],κ,h=>h
 |(j,u)::r,κ,h=>by
  change (match P2 j c with|true=>κ ((j,v)::r)|false=>kn c v r λr'=>κ ((j,u)::r')) at h;show κ (if j=c then(j,v)::r else(j,u)::sf r c v);cases q:P2 j c with
  |true=>rw[q] at h;rw[if_pos (Q5 q)];exact h
  |false=>rw[q] at h;rw[if_neg (PC q)];exact Ax c v r _ h
theorem AH(c:Nat):∀(E:Loc)(κ:Md->Prop),kg c E κ->∃v,gf E c=Mc v/\κ v
 |[],_,h=>h.elim
 |(j,u)::r,κ,h=>by
  change (match P2 j c with|true=>κ u|false=>kg c r κ) at h;show ∃w,(if j=c then Mc u else gf r c)=Mc w/\κ w;cases q:P2 j c with
  |true=>rw[q] at h;rw[if_pos (Q5 q)];exact⟨u,rfl,h⟩
  |false=>rw[q] at h;rw[if_neg (PC q)];exact AH c r κ h
variable{E:Loc}
theorem s4.set(h:s4 ρ E)(c:Nat)(v:Md):s4 (sf ρ c v) (sf E c v):=λd u e=>by
 rw[jC] at e ⊢;split;·rename_i q;rw[if_pos q] at e;exact e
 ·rename_i q;rw[if_neg q] at e;exact h d u e
noncomputable def FC:Md->(Bool->Prop)->Prop
 |.none,κ=>κ Mh
 |.int _ _,κ=>κ Mg
 |.ref _,κ=>κ Mg
 |.bool _,κ=>κ Mg
 |.bytes _ _,κ=>κ Mg
 |.str _ _,κ=>κ Mg
 |_,_=>False
noncomputable def Fz(ng:Bool)(b:Bool)(κ:Bool->Prop):Prop:=match ng,b with
 |false,b=>κ b
 |true,Mh=>κ Mg
 |true,Mg=>κ Mh
variable{κ:Bool->Prop}
theorem FC.eq(h:FC v κ):κ (v==.none):=by cases v<;>first|exact h|exact h.elim
theorem Fz.eq:∀{ng b:Bool},Fz ng b κ->κ (if ng then !b else b)
 |false,_,h=>h
 |true,Mh,h=>h
 |true,Mg,h=>h
section
variable(Z:Sys)(n:Nat)(Q:Out->Sg->Prop)(J:Sg)
noncomputable def y7(b:Bool)(K:List Fr)(E:Loc)(st:List Md)(e:T):Prop:=match b with
 |true=>X Z n Q K J E st e
 |false=>False
noncomputable def i2(F:Int->Int->List Md->Prop)(st:List Md):Prop:=p1 (λw=>p1 λv st=>bB (λj=>bB (λi=>F i j st) v) w) st
noncomputable def ff(w:Bool):Nat->Bool->List Fr->Loc->List Md->T->Prop
 |0,b,K,E,st,e=>y7 Z n Q J b K E st e
 |f+1,b,K,E,st,e=>match e with
  |.cst v k=>ff w f Mh K E (v::st) k
  |.ld c k=>kg c E λv=>ff w f Mh K E (v::st) k
  |.st c k=>p1 (λv st=>kn c v E λE=>ff w f Mh K E st k) st
  |.pop k=>p1 (λa st=>ff w f Mh K E st k) st
  |.dup k=>p1 (λv st=>ff w f Mh K E (v::v::st) k) st
  |.W7 k=>p1 (λu=>p1 λv st=>ff w f Mh K E (v::u::st) k) st
  |.bin .add k=>i2 (λi j st=>ff w f Mh K E (.int (i+j) 0::st) k) st
  |.bin .sub k=>i2 (λi j st=>ff w f Mh K E (.int (i-j) 0::st) k) st
  |.bin .Zc k=>i2 (λi j st=>ff w f Mh K E (.int (OA i j) 0::st) k) st
  |.bin .bor k=>i2 (λi j st=>ff w f Mh K E (.int (Ob i j) 0::st) k) st
  |.iop .add k=>i2 (λi j st=>ff w f Mh K E (.int (i+j) 0::st) k) st
  |.iop .sub k=>i2 (λi j st=>ff w f Mh K E (.int (i-j) 0::st) k) st
  |.iop .bor k=>i2 (λi j st=>ff w f Mh K E (.int (Ob i j) 0::st) k) st
  |.YU k=>i2 (λi j st=>ff w f Mh K E (.int (if j<i then j else i) 0::st) k) st
  |.neg k=>p1 (λv st=>bB (λi=>ff w f Mh K E (.int (-i) 0::st) k) v) st
  |.abs k=>p1 (λv st=>bB (λi=>ff w f Mh K E (.int (i.natAbs:Int) 0::st) k) v) st
  |.Xq k=>p1 (λv st=>dT (λc=>ff w f Mh K E (.int (if c then 1 else 0) 0::st) k) v) st
  |.isn ng k=>p1 (λv st=>FC v λc=>Fz ng c λc=>ff w f Mh K E (.bool c::st) k) st
  |.ite k l=>match w with
   |true=>p1 (λv st=>dT (λc=>match c with
    |true=>ff Mh f Mh K E st k
    |false=>ff Mh f Mh K E st l) v) st
   |false=>y7 Z n Q J b K E st (.ite k l)
  |.blk e k=>ff w f Mh (.bk st k::K) E [] e
  |.seq e k=>ff w f Mh (.sq st k::K) E [] e
  |.Wy=>match K with
   |.sq st k::K=>ff w f Mh K E st k
   |K=>y7 Z n Q J b K E st .Wy
  |.yld=>match K with
   |.bk st' k::K=>p1 (λv a=>ff w f Mh K E (v::st') k) st
   |K=>y7 Z n Q J b K E st .yld
  |.ret=>match K with
   |.sq _ _::K=>ff w f Mh K E st .ret
   |K=>y7 Z n Q J b K E st .ret
  |.brk=>match K with
   |.sq _ _::K=>ff w f Mh K E st .brk
   |K=>y7 Z n Q J b K E st .brk
  |.WY=>match K with
   |.sq _ _::K=>ff w f Mh K E st .WY
   |K=>y7 Z n Q J b K E st .WY
  |e=>y7 Z n Q J b K E st e
end
variable{o:Op}{K:List Fr}
section
variable{Q:Out->Sg->Prop}{st:List Md}{k:T}
theorem dm:∀{b:Bool},y7 Z n Q J b K E st k->X Z n Q K J E st k
 |true,h=>h
theorem FS{F:Int->Int->Int}(ho:∀i j,uH o i j/\opV o i j=F i j)(h:i2 (λi j st=>X Z n Q K J E (.int (F i j) 0::st) k) st):X Z n Q K J E st (.bin o k):=λρ hr=>p1.Wq (λw a=>p1.Wq λv a q=>by refine bI (bB.ex q) λj u z=>?_;refine bI (bB.ex z.2) λi t y=>?_;rw[z.1,y.1];exact .int (ho _ _).1 ((ho _ _).2▸y.2 ρ hr)) h
theorem FZ{F:Int->Int->Int}(hp:BP o=Mh)(ho:∀i j,uH o i j/\opV o i j=F i j)(h:i2 (λi j st=>X Z n Q K J E (.int (F i j) 0::st) k) st):X Z n Q K J E st (.iop o k):=λρ hr=>p1.Wq (λw a=>p1.Wq λv a=>bB.Wq λj=>bB.Wq λi q=>An.intro (ho _ _).1 ⟨hp,(ho _ _).2▸q ρ hr⟩) h
theorem i2.Wq{F G:Int->Int->List Md->Prop}(h:∀i j st,F i j st->G i j st)(q:i2 F st):i2 G st:=p1.Wq (λa a=>p1.Wq λa a=>bB.Wq λa=>bB.Wq λa=>h _ _ _) q
theorem mE{w:Bool}:∀(f:Nat)(b:Bool)(K:List Fr)(E:Loc)(st:List Md)(e:T),ff Z n Q J w f b K E st e->X Z n Q K J E st e
 |0,_,_,_,_,_,h=>dm h
 |f+1,b,K,E,st,e,h=>by
  have ih:=λ{K E st e}=>mE (w:=w) f Mh K E st e;induction e with
  |cst v k=>exact λρ hr=>ih h ρ hr
  |ld c k=>refine λρ hr=>?_;refine ae (AH _ _ _ h) λv z17=>?_;exact⟨v,hr _ _ z17.1,ih z17.2 ρ hr⟩
  |st c k=>exact λρ hr=>p1.Wq (λv st q=>ih (Ax _ _ _ _ q) _ (hr.set c v)) h
  |pop k=>exact λρ hr=>p1.Wq (λv st q=>ih q ρ hr) h
  |dup k=>exact λρ hr=>p1.Wq (λv st q=>ih q ρ hr) h
  |W7 k=>exact λρ hr=>p1.Wq (λv st=>p1.Wq λv st q=>ih q ρ hr) h
  |bin o k=>
   induction o with
   |add=>exact FS (λa a=>An.intro trivial rfl) (i2.Wq (λa a a q=>ih q) h)
   |sub=>exact FS (λa a=>An.intro trivial rfl) (i2.Wq (λa a a q=>ih q) h)
   |Zc=>exact FS (λa a=>An.intro trivial rfl) (i2.Wq (λa a a q=>ih q) h)
   |bor=>exact FS (λa a=>An.intro trivial rfl) (i2.Wq (λa a a q=>ih q) h)
   |_=>exact dm h
  |iop o k=>
   induction o with
   |add=>exact FZ rfl (λa a=>An.intro trivial rfl) (i2.Wq (λa a a q=>ih q) h)
   |sub=>exact FZ rfl (λa a=>An.intro trivial rfl) (i2.Wq (λa a a q=>ih q) h)
   |bor=>exact FZ rfl (λa a=>An.intro trivial rfl) (i2.Wq (λa a a q=>ih q) h)
   |_=>exact dm h
  |YU k=>exact λρ hr=>i2.Wq (λa a a q=>ih q ρ hr) h
  |neg k=>exact λρ hr=>p1.Wq (λv st=>bB.Wq λi q=>ih q ρ hr) h
  |abs k=>exact λρ hr=>p1.Wq (λv st=>bB.Wq λi q=>ih q ρ hr) h
  |Xq k=>exact λρ hr=>p1.Wq (λv st=>dT.Wq λi q=>ih q ρ hr) h
  |isn ng k=>exact λρ hr=>p1.Wq (λv st q=>ih (Fz.eq (FC.eq q)) ρ hr) h
  |ite k l=>
   induction w with
   |false=>exact dm h
   |true=>exact λρ hr=>p1.Wq (λv st=>dT.Wq λc q=>by
     induction c with
     |true=>exact⟨λa=>ih q ρ hr,nofun⟩
     |false=>exact⟨nofun,λa=>ih q ρ hr⟩) h
  |blk e k=>exact λρ hr=>ih (K:=.bk st k::K) (e:=e) h ρ hr
  |seq e k=>exact λρ hr=>ih (K:=.sq st k::K) (e:=e) h ρ hr
  |Wy=>
   match K,h with
   |.sq st k::K,h=>exact λρ hr=>ih h ρ hr
   |[],h=>exact dm h
   |.bk _ _::_,h=>exact dm h
  |yld=>
   match K,h with
   |.bk st' k::K,h=>exact λρ hr=>p1.Wq (λv a q=>ih q ρ hr) h
   |[],h=>exact dm h
   |.sq _ _::_,h=>exact dm h
  |ret=>
   match K,h with
   |.sq st' k::K,h=>exact λρ hr=>p1.Wq (λv a q=>q) (ih h ρ hr)
   |[],h=>exact dm h
   |.bk _ _::_,h=>exact dm h
  |brk=>
   match K,h with
   |.sq st' k::K,h=>exact λρ hr=>ih h ρ hr
   |[],h=>exact dm h
   |.bk _ _::_,h=>exact dm h
  |WY=>
   match K,h with
   |.sq st' k::K,h=>exact λρ hr=>ih h ρ hr
   |[],h=>exact dm h
   |.bk _ _::_,h=>exact dm h
  |_=>exact dm h
end
noncomputable def Wk(E E':Loc):Prop:=E'.map (λp=>gf E p.1)=E'.map λp=>Mc p.2
theorem Wk.to{E':Loc}(h:Wk E E'):s4 E E':=by
 induction E' with
 |nil=>exact λa a e=>(Option.some_ne_none _ e.symm).elim
 |cons p r ih=>
  intro c u e;have h:=Wg h;have e:(if p.1=c then Mc p.2 else gf r c)=Mc u:=e;by_cases q:p.1=c;·rw[if_pos q] at e;rw[<-q,<-MI e];exact h.1
  ·rw[if_neg q] at e;exact ih h.2 c u e
theorem Wk.up{E':Loc}(h:Wk E E')(r:s4 ρ E):s4 ρ E':=λc v e=>r c v (h.to c v e)
noncomputable def tk:Nat->List Md->List Md->(List Md->List Md->Prop)->Prop
 |0,st,acc,κ=>κ acc st
 |_+1,[],_,_=>False
 |m+1,v::st,acc,κ=>tk m st (v::acc) κ
theorem Ay:∀{m:Nat}{st acc:List Md}{κ:List Md->List Md->Prop},tk m st acc κ->m<=st.length/\κ ((st.take m).reverse++acc) (st.drop m)
 |0,st,acc,κ,h=>⟨Nb _,h⟩
 |m+1,v::st,acc,κ,h=>by obtain z16:=Ay (m:=m) (st:=st) h;refine⟨Rg z16.1,?_⟩;rw[R7,P4,NI];exact z16.2
theorem rM{m:Nat}{st:List Md}{κ:List Md->List Md->Prop}(h:tk m st [] κ):bM λvs st'=>take? m st=Mc (vs,st')/\κ vs st':=by obtain z15:=Ay h;have h2:=z15.2;rw[NF] at h2;exact⟨_,_,if_pos z15.1,h2⟩
variable{d:Cell}{P:Md->Sg->Prop}{w:Md}{vs st':List Md}{f t':Nat}{bs:List UInt8}{ng:Bool}
section
variable{Q:Out->Sg->Prop}{st:List Md}{k A B:T}{c C m:Nat}{b x:Mk}
noncomputable def XN(Q:Out->Sg->Prop)(J:Sg)(E:Loc):Prop:=∀ρ,s4 ρ E->Q (.next ρ) J
noncomputable def XB(Q:Out->Sg->Prop)(J:Sg)(E:Loc):Prop:=∀ρ,s4 ρ E->Q (.brk ρ) J
noncomputable def XC(Q:Out->Sg->Prop)(J:Sg)(E:Loc):Prop:=∀ρ,s4 ρ E->Q (.WY ρ) J
noncomputable def XV(Q:Out->Sg->Prop)(J:Sg)(E:Loc)(v:Md):Prop:=∀ρ,s4 ρ E->Q (.val v ρ) J
theorem Ih(w:Bool)(q:ff Z n Q J w 99 Mg K E st k):X Z n Q K J E st k:=mE _ _ _ _ _ _ q
theorem HB(q:wr Z n Q K (.ret v) J):X Z n Q K J E (v::st) .ret:=λa a=>q
theorem fu(q:XN Q J E):X Z n Q [] J E st .Wy:=q
theorem Bu(q:XC Q J E):X Z n Q [] J E st .WY:=q
theorem HE(q:XV Q J E v):X Z n Q [] J E (v::st) .yld:=q
theorem aB(q:X Z n Q K J E (v::st) k):X Z n Q K J E st (.cst v k):=q
theorem tY(q:X Z n Q K J E st k):X Z n Q K J E (v::st) (.pop k):=q
theorem jc(q:X Z n Q K J E (v::st) k)(h:gf E c=Mc v):X Z n Q K J E st (.ld c k):=λρ hr=>⟨_,hr _ _ h,q ρ hr⟩
theorem eQ(q:X Z n Q K J (sf E c v) st k):X Z n Q K J E (v::st) (.st c k):=λρ hr=>q _ (hr.set c v)
theorem fD{E':Loc}(q:X Z n Q K J E' st k)(h:Wk E E'):X Z n Q K J E st k:=λρ hr=>q ρ (h.up hr)
theorem tZ{c:Bool}(q:X Z n Q K J E (.int (if c then 1 else 0) 0::st) k):X Z n Q K J E (.bool c::st) (.Xq k):=q
theorem s9(q:X Z n Q K J E (v::st') k):X Z n Q (.bk st' k::K) J E (v::st) .yld:=q
theorem kH(q:X Z n Q (.sq st k::K) J E [] A):X Z n Q K J E st (.seq A k):=q
theorem AK(q:X Z n Q K J E (v::st) k)(h:J a=Mc d)(hv:EO d c=Mc v):X Z n Q K J E (.ref a::st) (.fld c k):=λρ hr=>by
 induction d with
 |Wu C fs=>exact⟨_,_,_,h,hv,q ρ hr⟩
 |_=>cases hv
theorem gc(h:J a=Mc d)(hf:AN d c=Mh)(hv:iI v=Mh)(q:X Z n Q K (upd J a (X5 d c v)) E st k):X Z n Q K J E (.ref a::v::st) (.XF c k):=λρ hr=>by
 induction d with
 |Wu C fs=>exact⟨_,_,h,(Bool.or_eq_true _ _▸hf).imp_right λz=>⟨(MQ.mp z).1,of_decide_eq_true (MQ.mp z).2⟩,hv,q ρ hr⟩
 |_=>cases hf
theorem Fu(hf:AN d c=Mh)(hv:iI v=Mh)(q:X Z n Q K (upd J a (X5 d c v)) E st k):X Z n Q K (upd J a d) E (.ref a::v::st) (.XF c k):=
 gc (aa _ _ _) hf hv (by rw[zj];exact q)
theorem GQ(q:X Z n Q K J E (.ref f::.ref a::st) k)(h:J a=Mc d)(hm:Id d c=Mc f):X Z n Q K J E (.ref a::st) (.meth c k):=λρ hr=>by
 induction d with
 |Wu C fs=>
  have hm:(match gf fs c with|none=>mt C c|some _=>Mq)=Mc f:=hm;cases hg:gf fs c with
  |none=>rw[hg] at hm;exact⟨_,_,_,h,hm,hg,q ρ hr⟩
  |some u=>rw[hg] at hm;cases hm
 |_=>cases hm
theorem sS(q:ac Z n (.ref f) [.ref a] J λv J'=>iI v=Mh/\X Z n Q K J' E (v::st) k)(h:J a=Mc (.Wu C fs))(hm:pt C c=Mc f):X Z n Q K J E (.ref a::st) (.prop c k):=λρ hr=>⟨_,_,_,h,hm,q.Wq (MC _) λv J' z=>⟨z.1,z.2 ρ hr⟩⟩
theorem EP(q:X Z n Q K J E (.int (i*j) 0::st) k)(h:IntMulOk i j):X Z n Q K J E (.int j t::.int i t'::st) (.bin .mul k):=λρ hr=>.int h (q ρ hr)
theorem Hu(q:X Z n Q K J E (.int (i*2^j.toNat) 0::st) k)(h:0<=j/\j<=1000000/\i.natAbs<2^64):X Z n Q K J E (.int j t::.int i t'::st) (.bin .shl k):=λρ hr=>.int h (q ρ hr)
theorem HA(q:X Z n Q K J E (.int (i/2^j.toNat) 0::st) k)(h:0<=j):X Z n Q K J E (.int j t::.int i t'::st) (.bin .shr k):=λρ hr=>.int h (by have:=q ρ hr;rw[<-mv _ (NU (by decide))] at this;exact this)
theorem FT(q:X Z n Q K J E (.int (i*2^j.toNat) 0::st) k)(h:0<=j/\j<=1000000/\i.natAbs<2^64):X Z n Q K J E (.int j t::.int i t'::st) (.iop .shl k):=λρ hr=>⟨h,rfl,q ρ hr⟩
theorem Gl(q:X Z n Q K J E (.int (i/2^j.toNat) 0::st) k)(h:0<=j):X Z n Q K J E (.int j t::.int i t'::st) (.iop .shr k):=λρ hr=>⟨h,rfl,by have:=q ρ hr;rw[<-mv _ (NU (by decide))] at this;exact this⟩
theorem HC(q:X Z n Q K J E (.int (i^j.toNat) 0::st) k)(h:0<=j/\j<=1000000/\i.natAbs<2^64):X Z n Q K J E (.int j t::.int i t'::st) (.bin .pow k):=λρ hr=>.int h (q ρ hr)
theorem G8(q:X Z n Q K J E (.int (i%j) 0::st) k)(h:0<j):X Z n Q K J E (.int j t::.int i t'::st) (.bin .X1 k):=λρ hr=>.int (λz=>by rw[z] at h;exact absurd h (by decide)) (by have:=q ρ hr;rw[<-Int.fmod_eq_emod_of_nonneg _ (Nl h)] at this;exact this)
theorem Gu(q:X Z n Q K J E (.int (i/j) 0::st) k)(h:0<j)(h2:j.natAbs.log2<9000):X Z n Q K J E (.int j t::.int i t'::st) (.bin .Yc k):=λρ hr=>.int ⟨λz=>by rw[z] at h;exact absurd h (by decide),h2⟩ (by have:=q ρ hr;rw[<-mv _ h] at this;exact this)
theorem bQ(q1:i<j->X Z n Q K J E st A)(q2:¬i<j->X Z n Q K J E st B):X Z n Q K J E (.int j t::.int i t'::st) (.cmp .lt (.ite A B)):=λρ hr=>⟨λh=>q1 (of_decide_eq_true h) ρ hr,λh=>q2 (of_decide_eq_false h) ρ hr⟩
theorem wZ(q1:i<=j->X Z n Q K J E st A)(q2:¬i<=j->X Z n Q K J E st B):X Z n Q K J E (.int j t::.int i t'::st) (.cmp .le (.ite A B)):=λρ hr=>⟨λh=>q1 (of_decide_eq_true h) ρ hr,λh=>q2 (of_decide_eq_false h) ρ hr⟩
theorem nG(q1:j<i->X Z n Q K J E st A)(q2:¬j<i->X Z n Q K J E st B):X Z n Q K J E (.int j t::.int i t'::st) (.cmp .gt (.ite A B)):=λρ hr=>⟨λh=>q1 (of_decide_eq_true h) ρ hr,λh=>q2 (of_decide_eq_false h) ρ hr⟩
theorem xh(q1:j<=i->X Z n Q K J E st A)(q2:¬j<=i->X Z n Q K J E st B):X Z n Q K J E (.int j t::.int i t'::st) (.cmp .ge (.ite A B)):=λρ hr=>⟨λh=>q1 (of_decide_eq_true h) ρ hr,λh=>q2 (of_decide_eq_false h) ρ hr⟩
theorem jL(q1:i<=j->X Z n Q K J E (.int j t::st) A)(q2:¬i<=j->X Z n Q K J E (.int j t::st) B):X Z n Q K J E (.int j t::.int i t'::st) (.XJ .le (.ite A B)):=λρ hr=>⟨λh=>q1 (of_decide_eq_true h) ρ hr,λh=>q2 (of_decide_eq_false h) ρ hr⟩
theorem tV{o:Cm}(q:X Z n Q K J E (.bool (yn o i j)::st) k):X Z n Q K J E (.int j t::.int i t'::st) (.cmp o k):=q
theorem xV{c:Bool}(q1:c=Mh->X Z n Q K J E st A)(q2:c=Mg->X Z n Q K J E st B):X Z n Q K J E (.bool c::st) (.ite A B):=λρ hr=>⟨λh=>q1 h ρ hr,λh=>q2 h ρ hr⟩
theorem fP(q:X Z n Q K J E st A):X Z n Q K J E (.bool Mh::st) (.ite A B):=λρ hr=>⟨λa=>q ρ hr,nofun⟩
theorem iD(q:X Z n Q K J E st B):X Z n Q K J E (.bool Mg::st) (.ite A B):=λρ hr=>⟨nofun,λa=>q ρ hr⟩
noncomputable def sT:Bool->T->T->T
 |true,a,_=>a
 |false,_,b=>b
theorem aK(q1:i=j->X Z n Q K J E st (sT ng B A))(q2:i≠j->X Z n Q K J E st (sT ng A B)):X Z n Q K J E (.int j t::.int i t'::st) (.eqv ng (.ite A B)):=λρ hr=>by
 refine⟨M0 (i=j),.int,?_⟩;by_cases h:i=j
 ·have:=q1 h;rw[decide_eq_true h];cases ng;·exact fP this ρ hr
  ·exact iD this ρ hr
 ·have:=q2 h;rw[decide_eq_false h];cases ng;·exact iD this ρ hr
  ·exact fP this ρ hr
theorem wz{r:Bool}{s s':Nn}(q:X Z n Q K J E (.bool (if ng then !r else r)::st) k)(h:M0 (s=s')=r):X Z n Q K J E (.str s' t::.str s t'::st) (.eqv ng k):=λρ hr=>⟨r,h▸.str,q ρ hr⟩
theorem aO{s s':Nn}{r:Bool}(q:X Z n Q K J E (.bool r::st) k)(h:M0 (s=s')=r):X Z n Q K J E (.str s' t::.str s t'::st) (.eqv Mg k):=λρ hr=>⟨r,h▸.str,q ρ hr⟩
theorem cu{r r':Bool}(q:X Z n Q K J E (.bool r'::st) k)(h:zV v xs=Mc r)(e:(if ng then !r else r)=r'):X Z n Q K J E (v::st) (.inn ng xs k):=λρ hr=>⟨_,h,e▸q ρ hr⟩
theorem FN(q:tk m st [] λvs st'=>∀x,J x=Mq->X Z n Q K (upd J x (.tup vs)) E (.ref x::st') k):X Z n Q K J E st (.Xy m k):=λρ hr=>by refine bI (rM q) λvs st' z14=>?_;exact⟨vs,st',z14.1,λx hx=>z14.2 x hx ρ hr⟩
theorem Ed(q:tk m st [] λvs st'=>∀x,J x=Mq->X Z n Q K (upd J x (.list vs)) E (.ref x::st') k):X Z n Q K J E st (.W9 m k):=λρ hr=>by refine bI (rM q) λvs st' z13=>?_;exact⟨vs,st',z13.1,λx hx=>z13.2 x hx ρ hr⟩
theorem wb(q:∀x,J x=Mq->X Z n Q K (upd J x (.W8 [])) E (.ref x::st) k):X Z n Q K J E st (.YO k):=λρ hr x hx=>q x hx ρ hr
theorem pd(q:∀x,J x=Mq->X Z n Q K (upd J x (.WJ [])) E (.ref x::st) k):X Z n Q K J E st (.YC k):=λρ hr x hx=>q x hx ρ hr
theorem x_call(q:tk m st [] λvs=>p1 λf st'=>ac Z n f vs J λv J'=>X Z n Q K J' E (v::st') k):X Z n Q K J E st (.call m k):=λρ hr=>by
 refine bI (rM q) λvs st' z12=>?_;induction st' with
 |nil=>exact z12.2.elim
 |cons f st'=>exact⟨vs,f,st',z12.1,ac.Wq z12.2 (MC _) λv J' z=>z ρ hr⟩
theorem FE(q:tk m st [] λvs=>p1 λf=>p1 λo st'=>ac Z n f (o::vs) J λv J'=>X Z n Q K J' E (v::st') k):X Z n Q K J E st (.XM m k):=λρ hr=>by
 refine bI (rM q) λvs st' z11=>?_;have h:=z11.1;have q:=z11.2;match st',q with
 |f::o::st',q=>exact⟨vs,f,o,st',h,ac.Wq q (MC _) λv J' z=>z ρ hr⟩
noncomputable def FJ(F:String->Prop):Md->Prop
 |.builtin id=>F id
 |_=>False
theorem FJ.inv{F:String->Prop}(h:FJ F v):∃id,v=.builtin id/\F id:=by cases v<;>first|exact h.elim|exact⟨_,rfl,h⟩
theorem fG.Wq{R:Md->Sg->Prop}(h:∀v J,P v J->R v J)(q:fG Z n J P u v):fG Z n J R u v:=by
 induction q with
 |bytes a b c d e=>exact .bytes a b c d (h _ _ e)
 |list a b c d e=>exact .list a b c d (h _ _ e)
 |neg a b c d e f=>exact .neg a b c d e (h _ _ f)
 |tup a b c d e=>exact .tup a b c d (h _ _ e)
 |WJ a b c d e=>exact .WJ a b c d (h _ _ e)
 |Wu a b c=>exact .Wu a b (c.Wq (MC _) h)
theorem kT.Wq{P R:Sg->Prop}(h:∀J,P J->R J)(q:kT Z n J P u v w):kT Z n J R u v w:=by
 induction q with
 |list a b c d e=>exact .list a b c d (h _ e)
 |dict a b c=>exact .dict a b (h _ c)
 |Wu a b c=>exact .Wu a b (c.Wq (MC _) λf=>h)
theorem gr.Wq{R:Md->Sg->Prop}(h:∀v J,P v J->R v J)(q:gr Z n J P u):gr Z n J R u:=by
 induction q with
 |bytes a b=>exact .bytes a (h _ _ b)
 |list a b c=>exact .list a b (h _ _ c)
 |tup a b c=>exact .tup a b (h _ _ c)
 |WJ a b c=>exact .WJ a b (h _ _ c)
 |dict a b c=>exact .dict a b (h _ _ c)
 |Wu a b c=>exact .Wu a b (c.Wq (MC _) λ_ _ ⟨i,p,q,r,z⟩=>⟨i,p,q,r,h _ _ z⟩)
theorem rS.Wq{R:Md->Sg->Prop}(h:∀v J,P v J->R v J)(q:rS J P id u vs):rS J R id u vs:=by
 induction q with
 |Y9 a b c=>exact .Y9 a b (h _ _ c)
 |bapp a b c d e=>exact .bapp a b c d (h _ _ e)
 |Y7 a b c=>exact .Y7 a b (h _ _ c)
 |Y4 a b=>exact .Y4 a (h _ _ b)
 |Y8 a b=>exact .Y8 a (h _ _ b)
theorem Ie(q:tk m st [] λvs=>p1 λw=>p1 λo st'=>FJ (λid=>rS J (λv J'=>X Z n Q K J' E (v::st') k) id o vs) w):X Z n Q K J E st (.cb m k):=λρ hr=>by
 refine bI (rM q) λvs st' z10=>?_;have h:=z10.1;have q:=z10.2;match st',q with
 |w::o::st',q=>refine ae (FJ.inv q) λid z9=>?_;obtain rfl:=z9.1;have q:=z9.2;exact⟨vs,id,o,st',h,rS.Wq (λa a z=>z ρ hr) q⟩
theorem EB(q:fG Z n J (λv J'=>X Z n Q K J' E (v::st) k) u v):X Z n Q K J E (v::u::st) (.idx k):=λρ hr=>fG.Wq (λa a z=>z ρ hr) q
theorem GF(q:kT Z n J (λJ'=>X Z n Q K J' E st k) u v w):X Z n Q K J E (v::u::w::st) (.XD k):=λρ hr=>kT.Wq (λa z=>z ρ hr) q
theorem HD(q:gr Z n J (λv J'=>X Z n Q K J' E (v::st) k) v):X Z n Q K J E (v::st) (.len k):=λρ hr=>gr.Wq (λa a z=>z ρ hr) q
theorem x7(q:X Z n Q K J E (.builtin id::v::st) k)(h:BM J c v id):X Z n Q K J E (v::st) (.bm c k):=λρ hr=>⟨_,h,q ρ hr⟩
theorem GT(q:X Z n Q K J E (.builtin "bytearray.append"::.ref a::st) k)(h:J a=Mc (.WJ bs)):X Z n Q K J E (.ref a::st) (.bm JJ k):=x7 q (.bapp h)
theorem FW(q:X Z n Q K J E (.builtin "list.append"::.ref a::st) k)(h:J a=Mc (.list xs)):X Z n Q K J E (.ref a::st) (.bm JJ k):=x7 q (.Y9 h)
theorem GM(q:X Z n Q K J E (.builtin "bytearray.extend"::.ref a::st) k)(h:J a=Mc (.WJ bs)):X Z n Q K J E (.ref a::st) (.bm 111568023285348 k):=x7 q (.Y7 h)
theorem Ge(q:X Z n Q K J E (.builtin "int.bit_length"::.int i t::st) k):X Z n Q K J E (.int i t::st) (.bm JK k):=x7 q .Y8
theorem ir{r:Bool}(q:X Z n Q K J E (.bool r::st) k)(h:fU J v u r):X Z n Q K J E (v::st) (.isi u k):=λρ hr=>⟨_,h,q ρ hr⟩
theorem rg(q:X Z n Q K J E (.bytes bs.toArray 0::st) k)(h:J a=Mc (.WJ bs))(hl:bs.length<=100000):X Z n Q K J E (.ref a::st) (.Xa k):=λρ hr=>.WJ h hl (q ρ hr)
theorem vM{bs:Array UInt8}(q:X Z n Q K J E (.bytes bs 0::st) k):X Z n Q K J E (.bytes bs t::st) (.Xa k):=λρ hr=>.bytes (q ρ hr)
theorem lD(q:X Z n Q K J E (.bytes bs.toArray 0::st) k)(h:J a=Mc (.list xs))(ho:YV xs bs)(hl:bs.length<=100000):X Z n Q K J E (.ref a::st) (.Xa k):=λρ hr=>.list h ho hl (q ρ hr)
noncomputable def FL:List Md->List Md->(List Md->Prop)->Prop
 |[],st,κ=>κ st
 |x::xs,st,κ=>FL xs st λr=>κ (x::r)
theorem sk:∀{xs st:List Md}{κ:List Md->Prop},FL xs st κ->κ (xs++st)
 |[],_,_,h=>h
 |_::xs,_,_,h=>sk (xs:=xs) h
noncomputable def Eb(Z:Sys)(n:Nat)(Q:Out->Sg->Prop)(K:List Fr)(J:Sg)(E:Loc)(xs st:List Md)(k:T)(w:Bool):Prop:=FL xs st λst=>ff Z n Q J w 99 Mh K E st k
noncomputable def Hi(Z:Sys)(n:Nat)(Q:Out->Sg->Prop)(K:List Fr)(J:Sg)(E:Loc)(xs st:List Md)(k:T):Prop:=∃w,Eb Z n Q K J E xs st k w
theorem HQ(w:Bool)(q:Eb Z n Q K J E xs st k w):Hi Z n Q K J E xs st k:=⟨w,q⟩
theorem dQ(q:Hi Z n Q K J E xs st k)(h:J a=Mc (.tup xs))(hl:xs.length=m):X Z n Q K J E (.ref a::st) (.unp m k):=λρ hr=>⟨_,h,hl,let ⟨_,q⟩:=q;mE _ _ _ _ _ _ (sk q) ρ hr⟩
theorem BR{x:UInt8}(q:X Z n Q K J E (.bytes (Uh j.toNat x) 0::st) k)(h:0<=j/\j<=1000):X Z n Q K J E (.int j t::.bytes #[x] t'::st) (.bin .mul k):=λρ hr=>.aa8 rfl h.1 h.2 (q ρ hr)
theorem CO{bs cs:Array UInt8}(q:X Z n Q K J E (.bytes (bs++cs) 0::st) k)(h:bs.size+cs.size<=100000):X Z n Q K J E (.bytes cs t::.bytes bs t'::st) (.bin .add k):=λρ hr=>.bytes rfl h (q ρ hr)
theorem d5{ys:List Md}(hx:J a=Mc (.list xs))(hy:J b=Mc (.list ys))(h:xs.length+ys.length<=100000)(q:∀x,J x=Mq->X Z n Q K (upd J x (.list (xs++ys))) E (.ref x::st) k):X Z n Q K J E (.ref b::.ref a::st) (.bin .add k):=λρ hr=>.list rfl hx hy h λx hx=>q x hx ρ hr
theorem j5(hx:J a=Mc (.list [v]))(h:0<=i/\i<=100000)(q:∀x,J x=Mq->X Z n Q K (upd J x (.list (M8 i.toNat v))) E (.ref x::st) k):X Z n Q K J E (.int i t::.ref a::st) (.bin .mul k):=λρ hr=>.aa3 rfl hx h.1 h.2 λx hx=>q x hx ρ hr
theorem iA{lo up:Md}{i j:Nat}(h:J a=Mc (.list xs))(hc:cut lo up xs.length=Mc (i,j))(hl:xs.length<=1000000)(q:∀x,J x=Mq->X Z n Q K (upd J x (.list ((xs.take j).drop i))) E (.ref x::st) k):X Z n Q K J E (up::lo::.ref a::st) (.sli k):=λρ hr=>
 .cell (by rw[h];rfl) ⟨i,j,hc,hl,λx hx=>q x hx ρ hr⟩
theorem Br{lo up:Md}{i j:Nat}(h:Z.kl a=Mc xs)(hc:cut lo up xs.length=Mc (i,j))(hl:xs.length<=1000000)(q:∀x,J x=Mq->X Z n Q K (upd J x (.list ((xs.take j).drop i))) E (.ref x::st) k):X Z n Q K J E (up::lo::.ref a::st) (.sli k):=λρ hr=>
 .Yk h ⟨i,j,hc,hl,λx hx=>q x hx ρ hr⟩
theorem xJ(h:J a=Mc (.list xs))(hl:xs.length<=100000)(q:∀x,J x=Mq->X Z n Q K (upd J x (.list xs)) E (.ref x::st) k):X Z n Q K J E (.ref a::st) (.Yh k):=λρ hr=>.cell (by rw[h];rfl) ⟨hl,λx hx=>q x hx ρ hr⟩
theorem wD(h:Z.kt a=Mc xs)(hl:xs.length<=100000)(q:∀x,J x=Mq->X Z n Q K (upd J x (.list xs)) E (.ref x::st) k):X Z n Q K J E (.ref a::st) (.Yh k):=λρ hr=>.Yk h ⟨hl,λx hx=>q x hx ρ hr⟩
theorem kC(h:ss J u v Mh)(q:X Z n Q K J E st k):X Z n Q K J E (v::u::st) (.eqv Mh (.ite B k)):=λρ hr=>⟨Mh,h,iD q ρ hr⟩
theorem HX(h:u=v)(q:X Z n Q K J E (v::st) k):X Z n Q K J E (u::st) k:=h▸q
theorem HH(h:i=j)(q:X Z n Q K J E (.int j t::st) k):X Z n Q K J E (.int i t::st) k:=h▸q
end
noncomputable def Fv(f:Nat):List (Mk×List Nat×List Md×T)->(List Nat->List Md->T->Prop)->Prop
 |[],_=>False
 |(g,ns,ds,c)::r,κ=>match P2 g f with
  |true=>κ ns ds c
  |false=>Fv f r κ
theorem xz{f:Nat}{κ:List Nat->List Md->T->Prop}:∀{l:List (Mk×List Nat×List Md×T)},Fv f l κ->∃(i:Nat) (ns:List Nat) (ds:List Md) (c:T),l[i]?=Mc (f,ns,ds,c)/\κ ns ds c
 |(g,ns,ds,c)::r,h=>by
  have h:(match P2 g f with|true=>κ ns ds c|false=>Fv f r κ):=h;cases q:P2 g f with
  |true=>rw[q] at h;rw[Q5 q];exact⟨0,ns,ds,c,rfl,h⟩
  |false=>rw[q] at h;refine ae (xz h) λi z5=>?_;refine ae z5 λns z6=>?_;refine ae z6 λds z7=>?_;refine ae z7 λc z8=>?_;exact⟨i+1,ns,ds,c,z8.1,z8.2⟩
noncomputable def cT(b:Bool)(p:Prop):Prop:=match b with
 |true=>p
 |false=>False
theorem cT.inv{p:Prop}:∀{b:Bool},cT b p->b=Mh/\p
 |true,h=>⟨rfl,h⟩
noncomputable def C8:List Nat->List Md->(Loc->Prop)->Prop
 |c::ns,v::vs,κ=>C8 ns vs λE=>κ ((c,v)::E)
 |_,_,κ=>κ []
theorem tj:∀{ns:List Nat}{vs:List Md}{κ:Loc->Prop},C8 ns vs κ->κ (ns.zip vs)
 |_::ns,_::vs,_,h=>tj (ns:=ns) (vs:=vs) h
 |[],_,_,h=>h
 |_::_,[],_,h=>h
noncomputable def Dr(Z:Sys)(n:Nat)(Q:Md->Sg->Prop)(J:Sg)(f:Nat)(args:List Md)(w:Bool)(m:Nat):Prop:=Fv f iX λns ds c=>cT (PD args.length ns.length) (cT (PD ns.length (args.length+ds.length))
 (C8 ns (args++ds.drop (args.length+ds.length-ns.length)) λE=>ff Z (n-1) (bY Q) J w m Mh [] E [] c))
noncomputable def Run(Z:Sys)(n:Nat)(Q:Md->Sg->Prop)(J:Sg)(f:Nat)(args:List Md):Prop:=bM λw m=>Dr Z n Q J f args w m
theorem Fo(w:Bool)(m:Nat)(q:Dr Z n Q J f args w m):Run Z n Q J f args:=⟨w,m,q⟩
theorem run(G:Good Z Kg)(hn:0<n)(q:Run Z n Q J f args):ac Z n (.ref f) args J Q:=by refine bI q λw m q=>?_;refine ae (xz q) λi z1=>?_;refine ae z1 λns z2=>?_;refine ae z2 λds z3=>?_;refine ae z3 λc z4=>?_;have k:=z4.2;have k1:=k.inv;have k2:=k1.2.inv;exact G.run i z4.1 hn (MF k1.1) (MF k2.1) (mE _ _ _ _ _ _ (tj k2.2) _ λa a h=>h)
theorem GX{st:List Md}(q:Q v J):X Z n (bY Q) [] J E (v::st) .ret:=λa a=>q
theorem FD:(2:Int)^Pa 1=2:=rfl
theorem HJ:(2:Int)^Pa 4=16:=rfl
theorem Ii:(2:Int)^Pa 7=128:=rfl
theorem Cp:(2:Int)^Pa 8=256:=rfl
theorem Ep:(2:Int)^Pa 11=2048:=rfl
theorem GI:(2:Int)^Pa 24=16777216:=rfl
theorem GO:(2:Int)^Pa 32=4294967296:=rfl
theorem mH(h:J a=Mc (.WJ bs))(h0:0<=i/\i<256)(hl:bs.length<=100000)(q:P .none (upd J a (.WJ (bs++[Pz i.toNat])))):rS J P "bytearray.append" (.ref a) [.int i t]:=.bapp h h0.1 h0.2 hl q
theorem xW{xs:Array UInt8}(h:J a=Mc (.WJ bs))(hl:bs.length+xs.size<=100000)(q:P .none (upd J a (.WJ (bs++xs.toList)))):rS J P "bytearray.extend" (.ref a) [.bytes xs t]:=.Y7 h hl q
theorem eO(h:J a=Mc (.list xs))(hl:xs.length<=100000)(q:P .none (upd J a (.list (xs++[v])))):rS J P "list.append" (.ref a) [v]:=.Y9 h hl q
theorem Df(h:0<i)(q:P (.int ((i.toNat.log2:Nat)+1:Int) 0) J):rS J P "int.bit_length" (.int i t) []:=.Y8 h q
theorem mh(h:0<=i/\i<256):YV [.int i 0] [Pz i.toNat]:=⟨[i],rfl,λa hn=>MM.mp hn▸h,rfl⟩
theorem Gm(h:0<=j/\j<=1000000)(h0:0<=i)(h1:i<2^64):0<=j/\j<=1000000/\i.natAbs<2^64:=⟨h.1,h.2,Hy h0 (PI h1 (by decide))⟩
theorem H5(h:0<=j)(h':j<=1000000)(h0:0<=i)(h1:i<2^64):0<=j/\j<=1000000/\i.natAbs<2^64:=Gm ⟨h,h'⟩ h0 h1
theorem FO{a:Int}(h:b.natAbs<2^64):IntMulOk a b:=IntMulOk.of_right (by
 unfold OT;split;·exact Mr _ _
 ·rename_i q;have hb:b.natAbs≠0:=λz=>q (by simpa using z);have:=(UK hb).mpr h;exact this)
theorem yx{b:Mk}{c:Cell}(h:J a=Mc c)(h':J b=Mq):a≠b:=λz=>cns (h'.symm.trans ((congrArg J z).symm.trans h))
theorem Ek{b:Mk}{c:Cell}(h:J a=Mq)(h':J b=Mc c):a≠b:=λz=>cns (h.symm.trans ((congrArg J z).trans h'))
theorem mf{b:Mk}{c:Cell}(h:J a=Mc c)(h':J b=Mc d)(q:P2 c.ctorIdx d.ctorIdx=Mg):a≠b:=λz=>
 absurd (congrArg Cell.ctorIdx (MI (h.symm.trans ((congrArg J z).trans h')))) (PC q)
theorem ub{b:Mk}{D:Mk}{gs:Loc}(h:J a=Mc (.Wu C fs))(h':J b=Mc (.Wu D gs))(q:C≠D):a≠b:=λz=>
 q (congrArg (λc:Cell=>match c with|.Wu C _=>C|_=>0) (MI (h.symm.trans ((congrArg J z).trans h'))))
noncomputable def Sub(H J:Sg):Prop:=∀a c,H a=Mc c->J a=Mc c
theorem Sub.rfl:Sub J J:=λa a h=>h
variable{H H':Sg}
theorem Sub.trans(h:Sub H H')(h':Sub H' J):Sub H J:=λa c e=>h' a c (h a c e)
theorem Sub.none(h:Sub H J)(e:J a=Mq):H a=Option.none:=by
 cases q:H a with
 |none=>exact Eq.refl _
 |some c=>rw[h a c q] at e;cases e
theorem Sub.upd(h:Sub H J)(e:H a=Mq)(c:Cell):Sub H (upd J a c):=λb d hb=>by
 unfold Internal.upd;split;·rename_i q;rw[q,e] at hb;cases hb
 ·exact h b d hb
open Classical in
noncomputable def aV(H J:Sg)(P:Mk->Prop):Sg:=λa=>if P a then J a else H a
theorem Sub.WT(h:Sub H J)(P:Mk->Prop):Sub (aV H J P) J:=λa c e=>by
 unfold aV at e;split at e;·exact e
 ·exact h a c e
variable{P:Mk->Prop}
theorem ai(hp:¬P a)(h:H a=Mq):aV H J P a=Option.none:=by unfold aV;rw[if_neg hp];exact h
theorem Sub.Xi(h:Sub H J)(h':Sub (aV H J P) J'):Sub H J':=λa c e=>h' a c (by
 unfold aV;split;·exact h a c e
 ·exact e)
theorem Sub.at(h':Sub (aV H J P) J'){c:Cell}(hp:P a)(e:J a=Mc c):J' a=Mc c:=h' a c (by unfold aV;rw[if_pos hp];exact e)
theorem om:∀(k:Nat)(l:List Int),l.Nodup->(∀x∈l,0<=x/\x<k)->l.length<=k
 |0,l,_,h=>by
  induction l with
  |nil=>exact MC _
  |cons a r=>have:=h a (MT ..);exact Ce 0x421840003de098105f21 [_] [] this
 |k+1,l,nd,h=>by
  have ih:=om k (l.erase (k:Int)) (nd.erase _) λx hx=>by obtain⟨h1,h2⟩:=nd.mem_erase_iff.mp hx;have:=(h x h2).1;have:=(h x h2).2;constructor<;>lia
  have:=List.le_length_erase (a:=(k:Int)) (l:=l);lia
inductive fj(m:List (Int×Md))(len:Nat)(f:Int->Int):Prop where
 |mk (val:∀i:Int,0<=i->i<len->((m.find? (·.1==i)).map (·.2)).getD (.int 1024 0)=.int (f i) 0)
  (key:∀p∈m,0<=p.1/\p.1<len)
  (nd:(m.map (·.1)).Nodup)
variable{f:Int->Int}
theorem fj.le{m:List (Int×Md)}{len:Nat}(h:fj m len f):m.length<=len:=by
 have:=om len (m.map (·.1)) h.3 λx hx=>by refine ae (ND.mp hx) λp z4=>?_;obtain⟨hp,rfl⟩:=z4;exact h.2 p hp
 rwa [Mt] at this
noncomputable def put(f:Int->Int)(i v:Int):Int->Int:=λk=>if k=i then v else f k
noncomputable def sE(m:List (Int×Md))(j:Int)(v:Md):List (Int×Md):=if m.any (·.1==j) then m.map (λp=>if p.1==j then(j,v) else p) else m++[(j,v)]
theorem u9{m:List (Int×Md)}{k:Int}:(sE m j v).find? (·.1==k)=if k=j then Mc (j,v) else m.find? (·.1==k):=by
 unfold sE;split
 ·rename_i h;induction m with
  |nil=>simp at h
  |cons p r ih=>
   obtain⟨a,u⟩:=p;by_cases haj:a=j
   ·rw[<-haj];by_cases hk:k=a;·subst hk;simp
    ·have h1:(a==k)=false:=by simpa using λq=>hk q.symm
     simp only[Nm,beq_self_eq_true,if_true,PQ,h1,if_neg hk];have:∀l:List (Int×Md),(l.map λp=>if p.1==a then(a,v) else p).find? (·.1==k)=l.find? (·.1==k):=by
      intro l;induction l with
      |nil=>rfl
      |cons q l ih2=>
       obtain⟨b,w⟩:=q;by_cases hb:b=a;·subst hb;simp only[Nm,beq_self_eq_true,if_true,PQ,h1,ih2]
       ·have h2:(b==a)=false:=by simpa using hb
        simp only[Nm,h2,QH,if_false,PQ,ih2]
     exact this r
   ·have h1:(a==j)=false:=by simpa using haj
    simp only[PW,h1,Bool.false_or] at h;simp only[Nm,h1,QH,if_false,PQ];by_cases hk:a=k;·subst hk;simp[haj]
    ·have h2:(a==k)=false:=by simpa using hk
     simp only[h2];exact ih h
 ·rename_i h;have h:∀p∈m,¬p.1=j:=λp hp e=>h (TG.mpr ⟨p,hp,beq_iff_eq.mpr e⟩);rw[List.find?_append];by_cases hk:k=j
  ·subst hk;have:m.find? (·.1==k)=none:=by rw[Vg];intro p hp;simpa using h p hp
   rw[this];simp
  ·rw[if_neg hk];cases m.find? (·.1==k) with
   |some p=>rfl
   |none=>simp[show(j==k)=Mg by simpa using λq=>hk q.symm]
theorem nT{m:List (Int×Md)}:(sE m j v).map (·.1)=if m.any (·.1==j) then m.map (·.1) else m.map (·.1)++[j]:=by
 unfold sE;split
 ·rw[OX];refine Qs λp hp=>?_;show(if p.1==j then(j,v) else p).1=p.1;split;·rename_i h;exact(beq_iff_eq.mp h).symm
  ·rfl
 ·simp
theorem fj.set{m:List (Int×Md)}{len:Nat}(h:fj m len f){v:Int}(h0:0<=i)(h1:i<len):fj (sE m i (.int v 0)) len (put f i v):=by
 refine⟨?_,?_,?_⟩
 ·intro k k0 k1;rw[u9];unfold put;split;·rfl
  ·exact h.1 k k0 k1
 ·intro p hp;have:p.1∈(sE m i (.int v 0)).map (·.1):=NA hp;rw[nT] at this;split at this;·refine ae (ND.mp this) λq z3=>?_;obtain⟨hq,e⟩:=z3;rw[<-e];exact h.2 q hq
  ·rcases Oo.mp this with this|this;·refine ae (ND.mp this) λq z2=>?_;obtain⟨hq,e⟩:=z2;rw[<-e];exact h.2 q hq
   ·rw[MM.mp this];exact⟨h0,h1⟩
 ·rw[nT];split;·exact h.3
  ·rename_i q;rw[Vs];refine⟨h.3,by simp,λa ha b hb=>?_⟩;rw[MM.mp hb];intro e;refine ae (ND.mp ha) λp z1=>?_;obtain⟨hp,e2⟩:=z1;exact q (TG.mpr ⟨p,hp,by simp[e2,e]⟩)
noncomputable def Row(J:Sg)(r d:Mk)(len:Nat)(f:Int->Int):Prop:=
 (d=r/\∃xs,J r=Mc (.list xs)/\xs.length=len/\∀k:Nat,k<len->xs[k]?=Mc (.int (f k) 0))∨
 (J r=Mc (.Wu 159 [(I8,.int len 0),(I9,.ref d)])/\∃m,J d=Mc (.W8 m)/\fj m len f)
local macro_rules (kind:=PySem.W.tacticLk) | s=>Internal.ev [] ",try ,( ,( ,first ,| ,( ,( ,with_reducible ,first ,| ,refine 'Fo 'true ,99 Anum ? Cnull bapp 2refine Anull ! Bgroup ,| ,refine 'Ih 'true ? Bnull bapp 2refine Anull ! Bgroup ,| ,refine 'HQ 'true ? Bnull bapp 2refine Anull ! Bgroup Cnull 2first Anull ! 2withReducible Anull ! ,) 3paren ,; ,refine ,( ' AhygieneInfo bhygienicLParen ? ,: 'X ,_ ahole ,_ ahole ,_ ahole ,_ ahole ,_ ahole ,_ ahole ,_ ahole ,_ ahole Hnull bapp Anull ,) etypeAscription 2refine Cnull ! ,) 3paren Anull ! Bgroup ,| ,( ,( ,with_reducible ,first ,| ,refine 'Fo 'false ,99 Anum ? Cnull bapp 2refine Anull ! Bgroup ,| ,refine 'Ih 'false ? Bnull bapp 2refine Anull ! Bgroup ,| ,refine 'HQ 'false ? Bnull bapp 2refine Anull ! Bgroup Cnull 2first Anull ! 2withReducible Anull ! ,) 3paren ,; ,refine ,( ' AhygieneInfo bhygienicLParen ? ,: 'X ,_ ahole ,_ ahole ,_ ahole ,_ ahole ,_ ahole ,_ ahole ,_ ahole ,_ ahole Hnull bapp Anull ,) etypeAscription 2refine Cnull ! ,) 3paren Anull ! Bgroup ,| ,( ,( ,with_reducible ,first ,| ,refine 'x_call ? Anull bapp 2refine Anull ! Bgroup ,| ,refine 'FE ? Anull bapp 2refine Anull ! Bgroup Bnull 2first Anull ! 2withReducible Anull ! ,) 3paren ,; ,refine ,( ' AhygieneInfo bhygienicLParen ? ,: 'ac ,_ ahole ,_ ahole ,_ ahole ,_ ahole ,_ ahole ,_ ahole Fnull bapp Anull ,) etypeAscription 2refine Cnull ! ,) 3paren Anull ! Bgroup ,| ,( ,( ,with_reducible ,refine 'Ie ? Anull bapp 2refine Anull ! 2withReducible Anull ! ,) 3paren ,; ,refine ,( ' AhygieneInfo bhygienicLParen ? ,: 'rS ,_ ahole ,_ ahole ,_ ahole ,_ ahole ,_ ahole Enull bapp Anull ,) etypeAscription 2refine Cnull ! ,) 3paren Anull ! Bgroup ,| ,( ,( ,with_reducible ,first ,| ,refine 'Ed ? Anull bapp 2refine Anull ! Bgroup ,| ,refine 'FN ? Anull bapp 2refine Anull ! Bgroup Bnull 2first Anull ! 2withReducible Anull ! ,) 3paren ,; ,refine ,( ' AhygieneInfo bhygienicLParen ? ,: ,∀ ,_ ahole Anull @null ,, ,_ ahole ,→ 'X ,_ ahole ,_ ahole ,_ ahole ,_ ahole ,_ ahole ,_ ahole ,_ ahole ,_ ahole Hnull bapp carrow eforall Anull ,) etypeAscription 2refine Cnull ! ,) 3paren Anull ! Bgroup ,| ,( ,( ,with_reducible ,first ,| ,refine 'AK ,( 'v ,:= ,? -v bsyntheticHole ,) enamedArgument ,( 'd ,:= ,? -d bsyntheticHole ,) enamedArgument ? ,? -h bsyntheticHole ,? -e bsyntheticHole Enull bapp 2refine Anull ! Bgroup ,| ,refine 'GQ ,( 'f ,:= ,? -v bsyntheticHole ,) enamedArgument ,( 'd ,:= ,? -d bsyntheticHole ,) enamedArgument ? ,? -h bsyntheticHole ,? -e bsyntheticHole Enull bapp 2refine Anull ! Bgroup ,| ,refine 'GT ,( 'bs ,:= ,? -d bsyntheticHole ,) enamedArgument ? ,? -h bsyntheticHole Cnull bapp 2refine Anull ! Bgroup ,| ,refine 'GM ,( 'bs ,:= ,? -d bsyntheticHole ,) enamedArgument ? ,? -h bsyntheticHole Cnull bapp 2refine Anull ! Bgroup Dnull 2first Anull ! 2withReducible Anull ! ,) 3paren ,; ,( ,case -h ALean.binderIdent @null 2caseArg Anull ,=> ,repeat' ,first ,| ,assumption 1assumption Anull ! Bgroup ,| ,exact 'aa ,_ ahole ,_ ahole ,_ ahole Cnull bapp 2exact Anull ! Bgroup ,| ,refine ,( ' AhygieneInfo bhygienicLParen 'ag ,_ ahole ,_ ahole ,( ' AhygieneInfo bhygienicLParen ,by ,assumption 1assumption Anull ! bbyTactic ,) cparen Cnull bapp ,) cparen ,. 'trans cproj ? Anull bapp 2refine Anull ! Bgroup Cnull 2first Anull ! 2repeat' Anull ! 4case Anull ! ,) 3paren ,; ,try ,case -e ALean.binderIdent @null 2caseArg Anull ,=> ,exact 'rfl 2exact Anull ! 4case Anull ! 2tacticTry_ Enull ! ,) 3paren Anull ! Bgroup ,| ,( ,( ,with_reducible ,refine 'FW ,( 'xs ,:= ,? -d bsyntheticHole ,) enamedArgument ? ,? -h bsyntheticHole Cnull bapp 2refine Anull ! 2withReducible Anull ! ,) 3paren ,; ,case -h ALean.binderIdent @null 2caseArg Anull ,=> ,repeat' ,first ,| ,assumption 1assumption Anull ! Bgroup ,| ,exact 'aa ,_ ahole ,_ ahole ,_ ahole Cnull bapp 2exact Anull ! Bgroup ,| ,refine ,( ' AhygieneInfo bhygienicLParen 'ag ,_ ahole ,_ ahole ,( ' AhygieneInfo bhygienicLParen ,by ,assumption 1assumption Anull ! bbyTactic ,) cparen Cnull bapp ,) cparen ,. 'trans cproj ? Anull bapp 2refine Anull ! Bgroup Cnull 2first Anull ! 2repeat' Anull ! 4case Cnull ! ,) 3paren Anull ! Bgroup ,| ,( ,( ,with_reducible ,refine 'Fu ,? -e bsyntheticHole ,? -f bsyntheticHole ? Cnull bapp 2refine Anull ! 2withReducible Anull ! ,) 3paren ,; ,( ,case -e ALean.binderIdent @null 2caseArg Anull ,=> ,exact 'rfl 2exact Anull ! 4case Anull ! ,) 3paren ,; ,case -f ALean.binderIdent @null 2caseArg Anull ,=> ,exact 'rfl 2exact Anull ! 4case Enull ! ,) 3paren Anull ! Bgroup ,| ,( ,( ,with_reducible ,refine 'gc ,( 'd ,:= ,? -d bsyntheticHole ,) enamedArgument ,? -h bsyntheticHole ,? -e bsyntheticHole ,? -f bsyntheticHole ? Enull bapp 2refine Anull ! 2withReducible Anull ! ,) 3paren ,; ,( ,case -h ALean.binderIdent @null 2caseArg Anull ,=> ,repeat' ,first ,| ,assumption 1assumption Anull ! Bgroup ,| ,exact 'aa ,_ ahole ,_ ahole ,_ ahole Cnull bapp 2exact Anull ! Bgroup ,| ,refine ,( ' AhygieneInfo bhygienicLParen 'ag ,_ ahole ,_ ahole ,( ' AhygieneInfo bhygienicLParen ,by ,assumption 1assumption Anull ! bbyTactic ,) cparen Cnull bapp ,) cparen ,. 'trans cproj ? Anull bapp 2refine Anull ! Bgroup Cnull 2first Anull ! 2repeat' Anull ! 4case Anull ! ,) 3paren ,; ,( ,case -e ALean.binderIdent @null 2caseArg Anull ,=> ,exact 'rfl 2exact Anull ! 4case Anull ! ,) 3paren ,; ,case -f ALean.binderIdent @null 2caseArg Anull ,=> ,exact 'rfl 2exact Anull ! 4case Gnull ! ,) 3paren Anull ! Bgroup ,| ,with_reducible ,first ,| ,refine 'GX ? Anull bapp 2refine Anull ! Bgroup ,| ,refine 'HB ? Anull bapp 2refine Anull ! Bgroup ,| ,refine 'fu ? Anull bapp 2refine Anull ! Bgroup ,| ,refine 'HE ? Anull bapp 2refine Anull ! Bgroup ,| ,refine 'EB ? Anull bapp 2refine Anull ! Bgroup ,| ,refine 'GF ? Anull bapp 2refine Anull ! Bgroup ,| ,refine 'HD ? Anull bapp 2refine Anull ! Bgroup ,| ,refine 'Ge ? Anull bapp 2refine Anull ! Bgroup Hnull 2first Anull ! 2withReducible Anull ! Bgroup ,| ,( ,( ,with_reducible ,refine 'EP ? ,? -h bsyntheticHole Bnull bapp 2refine Anull ! 2withReducible Anull ! ,) 3paren ,; ,case -h ALean.binderIdent @null 2caseArg Anull ,=> ,first ,| ,exact 'IntMulOk.of_left ,( ' AhygieneInfo bhygienicLParen ,by ,decide @null 1optConfig 2decide Anull ! bbyTactic ,) cparen Anull bapp 2exact Anull ! Bgroup ,| ,exact 'FO ,( ' AhygieneInfo bhygienicLParen ,by ,lia @null 1optConfig 2lia Anull ! bbyTactic ,) cparen Anull bapp 2exact Anull ! Bgroup Bnull 2first Anull ! 4case Cnull ! ,) 3paren Anull ! Bgroup ,| ,( ,( ,with_reducible ,first ,| ,refine 'Hu ? ,? -h bsyntheticHole Bnull bapp 2refine Anull ! Bgroup ,| ,refine 'FT ? ,? -h bsyntheticHole Bnull bapp 2refine Anull ! Bgroup Bnull 2first Anull ! 2withReducible Anull ! ,) 3paren ,; ,case -h ALean.binderIdent @null 2caseArg Anull ,=> ,first ,| ,exact 'Gm ,( ' AhygieneInfo bhygienicLParen ,by ,decide @null 1optConfig 2decide Anull ! bbyTactic ,) cparen ,( ' AhygieneInfo bhygienicLParen ,by ,lia @null 1optConfig 2lia Anull ! bbyTactic ,) cparen ,( ' AhygieneInfo bhygienicLParen ,by ,lia @null 1optConfig 2lia Anull ! bbyTactic ,) cparen Cnull bapp 2exact Anull ! Bgroup ,| ,exact 'H5 ,( ' AhygieneInfo bhygienicLParen ,by ,lia @null 1optConfig 2lia Anull ! bbyTactic ,) cparen ,( ' AhygieneInfo bhygienicLParen ,by ,lia @null 1optConfig 2lia Anull ! bbyTactic ,) cparen ,( ' AhygieneInfo bhygienicLParen ,by ,lia @null 1optConfig 2lia Anull ! bbyTactic ,) cparen ,( ' AhygieneInfo bhygienicLParen ,by ,lia @null 1optConfig 2lia Anull ! bbyTactic ,) cparen Dnull bapp 2exact Anull ! Bgroup ,| ,refine ,⟨ ? ,, ? ,, ? Enull ,⟩ canonymousCtor 2refine ,<;> ,lia @null 1optConfig 2lia 3«tactic_<;>_» Anull ! Bgroup Cnull 2first Anull ! 4case Cnull ! ,) 3paren Anull ! Bgroup ,| ,( ,( ,with_reducible ,first ,| ,refine 'HA ? ,? -h bsyntheticHole Bnull bapp 2refine Anull ! Bgroup ,| ,refine 'Gl ? ,? -h bsyntheticHole Bnull bapp 2refine Anull ! Bgroup ,| ,refine 'HC ? ,? -h bsyntheticHole Bnull bapp 2refine Anull ! Bgroup ,| ,refine 'G8 ? ,? -h bsyntheticHole Bnull bapp 2refine Anull ! Bgroup Dnull 2first Anull ! 2withReducible Anull ! ,) 3paren ,; ,case -h ALean.binderIdent @null 2caseArg Anull ,=> ,first ,| ,decide @null 1optConfig 2decide Anull ! Bgroup ,| ,lia @null 1optConfig 2lia Anull ! Bgroup Bnull 2first Anull ! 4case Cnull ! ,) 3paren Anull ! Bgroup ,| ,( ,( ,with_reducible ,refine 'Gu ? ,? -h bsyntheticHole ,? -h2 bsyntheticHole Cnull bapp 2refine Anull ! 2withReducible Anull ! ,) 3paren ,; ,( ,case -h ALean.binderIdent @null 2caseArg Anull ,=> ,first ,| ,decide @null 1optConfig 2decide Anull ! Bgroup ,| ,lia @null 1optConfig 2lia Anull ! Bgroup Bnull 2first Anull ! 4case Anull ! ,) 3paren ,; ,case -h2 ALean.binderIdent @null 2caseArg Anull ,=> ,first ,| ,decide @null 1optConfig 2decide Anull ! Bgroup ,| ,assumption 1assumption Anull ! Bgroup Bnull 2first Anull ! 4case Enull ! ,) 3paren Anull ! Bgroup Nnull 2first Anull ! ,) 3paren ,; ,lk APySem.W.tacticLk Cnull ! ,) 3paren Anull ! 2tacticTry_"
variable{d:Mk}
noncomputable def Xu(m b:Int):Int:=if b=0 then m+(2048-m)/32 else m-m/32
theorem iw(G:Good Z Kg)(hn:0<n){m:Int}{u:Nat}:ac Z n (.ref 916) [.int m t,.int b u] J (λv J'=>v=.int (Xu m b) 0/\J=J'):=by
 refine run G hn ?_;lk;refine aK (λh=>?_) (λh=>?_)<;>lk;·exact⟨by unfold Xu;rw[if_pos h];rfl,rfl⟩
 ·exact⟨by unfold Xu;rw[if_neg h];rfl,rfl⟩
theorem qo(G:Good Z Kg)(hn:0<n)(hb:b=0∨b=1):ac Z n (.ref 923) [.int b t] J (λv J'=>v=.none/\J=J'):=by refine run G hn ?_;lk;refine cu (r:=Mh) ?_ (by rcases hb with rfl|rfl<;>rfl) rfl;lk;exact⟨rfl,rfl⟩
theorem Row.idx(G:Good Z Kg)(hn:0<n){len:Nat}(R:Row J r d len f)(h0:0<=i)(h1:i<len)(h2:len<1000000)(q:Q (.int (f i) 0) J):fG Z n J Q (.ref r) (.int i t):=by
 rcases R with⟨_,xs,e,hl,hx⟩|⟨e,m,em,hm⟩;·exact .list e h0 (aS 0x847086100014c0000000000000000911287a12008284578243e6090e [_,_] [_] h1 h2 ej) (by have:=hx i.toNat (ao 0x108610000f6e2a0faf0488d4140f [_] [_,_] h1 (ME h0));rwa [ME h0] at this) q
 ·refine .Wu e cH (run G hn ?_);lk;refine jL (λa=>?_) (λz=>absurd h0 z);lk;refine bQ (λa=>?_) (λz=>absurd h1 z);lk;refine x7 ?_ (.Y4 em);lk;refine .Y4 em ?_;lk;rw[hm.1 i h0 h1];exact q
theorem Row.set(G:Good Z Kg)(hn:0<n){len:Nat}{v:Int}(R:Row J r d len f)(h0:0<=i)(h1:i<len)(h2:len<1000000)(S:Sub H J)(hr:H r=Mq)(hd:H d=Mq){Q:Sg->Prop}(q:∀J',Row J' r d len (put f i v)->Sub H J'->Q J'):kT Z n J Q (.ref r) (.int i t) (.int v 0):=by
 rcases R with⟨rfl,xs,e,hl,hx⟩|⟨e,m,em,hm⟩
 ·refine .list e h0 (ao 0x108a10000f54150faf0488de090f [_] [_,_] h1 hl) (ao 0x421840003d50543fd0900509093d090041322 [] [_,_] h2 hl) (q _ (.inl ⟨rfl,_,aa _ _ _,by rw[List.length_set];exact hl,λk hk=>?_⟩) (S.upd hr _));unfold put;rw[Vx];by_cases hki:(k:Int)=i;·rw[if_pos (by exact aS 0x211420001e847084007b71507de080fd71d08d4150f [_] [_,_] hki (Nh _) (ME h0)),if_pos (by exact aS 0x42384508000a771507ca84a252f048954140f [_] [_,_,_] h1 hl (ME h0)),if_pos hki]
  ·rw[if_neg (by lia),if_neg hki];exact hx k hk
 ·have hne:d≠r:=mf em e rfl;have hl:=hm.le;refine .Wu e cG (run G hn ?_);lk;refine jL (λa=>?_) (λz=>absurd h0 z);lk;refine bQ (λa=>?_) (λz=>absurd h1 z);lk;refine .dict em (ao 0x421840003d504c3fd0900509093d090041322 [] [_,_] h2 hl) ?_;lk;exact q _ (.inr ⟨by rw[ag _ _ hne.symm];exact e,sE m i (.int v 0),aa _ _ _,hm.set h0 h1⟩) (S.upd hd _)
theorem Row.len(G:Good Z Kg)(hn:0<n){len:Nat}(R:Row J r d len f)(h2:len<1000000)(q:Q (.int len 0) J):gr Z n J Q (.ref r):=by
 rcases R with⟨rfl,xs,e,hl,hx⟩|⟨e,m,em,hm⟩;·exact .list e (ao 0x421840003d50543fd0900509093d090041322 [] [_,_] h2 hl) (by rw[hl];exact q)
 ·refine .Wu e j0 (run G hn ?_);lk;exact⟨len,rfl,Ms _,FY h2 rfl,q⟩
theorem Row.sub{len:Nat}(R:Row H r d len f)(S:Sub H J):Row J r d len f:=by
 rcases R with⟨rfl,xs,e,hl,hx⟩|⟨e,m,em,hm⟩;·exact .inl ⟨rfl,xs,S _ _ e,hl,hx⟩
 ·exact .inr ⟨S _ _ e,m,S _ _ em,hm⟩
variable{a:Int}
theorem eJ(h:0<=a):OA a (2^k-1)=a%2^k:=by
 refine ae (MW h) λm z3=>?_;obtain rfl:=z3;have e:((2:Int)^k-1)=((2^k-1:Nat):Int):=by have:1<=2^k:=SR;rw[Int.ofNat_sub this];simp
 rw[e];unfold OA;simp only[show M0 ((0:Int)<=(m:Int))=Mh from by simp,show M0 ((0:Int)<=((2^k-1:Nat):Int))=Mh from by simp];show(((m:Int).toNat &&& ((2^k-1:Nat):Int).toNat:Nat):Int)=_;rw[MN,MN,Nat.and_two_pow_sub_one_eq_mod];simp
theorem js(h:0<=a):OA a 1=a%2:=eJ (k:=1) h
theorem BH(h:0<=a):OA a 15=a%16:=eJ (k:=4) h
theorem pG(h:0<=a):OA a 255=a%256:=eJ (k:=8) h
theorem tN(h:0<=a):OA a 16777215=a%16777216:=eJ (k:=24) h
theorem o9(ha:0<=a)(hb:0<=b)(h:b<2^k):Ob (a*2^k) b=a*2^k+b:=by
 refine ae (MW ha) λm z2=>?_;obtain rfl:=z2;refine ae (MW hb) λl z1=>?_;obtain rfl:=z1;have hl:l<2^k:=by
  have:((2^k:Nat):Int)=2^k:=by simp
  exact vX h
 have e:((m:Int)*2^k)=((m*2^k:Nat):Int):=by simp
 rw[e];have:Ob ((m*2^k:Nat):Int) (l:Int)=((m*2^k ||| l:Nat):Int):=by
  generalize m*2^k=x;unfold Ob We OA;have h1:M0 ((0:Int)<=-(x:Int)-1)=false:=by simp;exact ck 0x860002717c4115 [] [_]
  have h2:M0 ((0:Int)<=-(l:Int)-1)=false:=by simp;exact ck 0x860002717c4115 [] [_]
  simp only[h1,h2];have h3:(-(-(x:Int)-1)-1).toNat=x:=af KT [] [_,_] (ME (ck Lu [] [_]));have h4:(-(-(l:Int)-1)-1).toNat=l:=af KT [] [_,_] (ME (ck Lu [] [_]));show -(-(((-(-(x:Int)-1)-1).toNat ||| (-(-(l:Int)-1)-1).toNat:Nat):Int)-1)-1=_;rw[h3,h4];exact ck 0x100de22f88b98b2a33 [] [_]
 rw[this];have h5:m*2^k ||| l=m*2^k+l:=by rw[QS,Sm hl]
 rw[h5];simp
theorem gu{nx:Nx}{turn:aaw (List Md)}{D:Loc->Sg->Prop}{R:Md->Sg->Prop}(r:Nat->Option (List Md))(N:Nat)(hs:∀j,j<N->r j≠Mq)(hN:r N=Mq)(I:Nat->Loc->Sg->Prop)(keep:∀j ρ J,I j ρ J->nx j J=Mc (r j))(step:∀j vs ρ J (Q':Out->Sg->Prop),r j=Mc vs->j<N->I j ρ J->(∀ρ' J',I (j+1) ρ' J'->Q' (.next ρ') J')->(∀ρ' J',I (j+1) ρ' J'->Q' (.WY ρ') J')->(∀v J',R v J'->Q' (.ret v) J')->turn vs ρ J Q')(hD:∀ρ J,I N ρ J->D ρ J):∀(f j:Nat)(ρ:Loc)(J:Sg),j+f=N+1->j<=N->I j ρ J->rU nx turn D R f j ρ J
 |0,_,_,_,h,h',_=>absurd h (λzz=>fb 0x211421001ea8261f14238265d25 [] [_,_] zz h')
 |f+1,j,ρ,J,e,hj,h=>by
  have k:=keep j ρ J h;cases hr:r j with
  |none=>have:j=N:=O7 λz=>hs j (QI hj z) hr;subst this;exact .inl ⟨k.trans (congrArg Mc hr),hD _ _ h⟩
  |some vs=>
   have hlt:j<N:=QI hj λz=>by rw[z,hN] at hr;cases hr
   have next:∀ρ' J',I (j+1) ρ' J'->rU nx turn D R f (j+1) ρ' J':=λρ' J' h'=>gu r N hs hN I keep step hD f (j+1) ρ' J' (af KX [] [_,_,_] e) hlt h'
   exact .inr ⟨vs,k.trans (congrArg Mc hr),step j vs ρ J _ hr hlt h next next λa a h'=>h'⟩
theorem eU{nx:Nx}{turn:Md->Sg->(Out->Sg->Prop)->Prop}{D:List Md->Sg->Prop}{xs:List Md}(I:Nat->List Md->Sg->Prop)(keep:∀j ws J,I j ws J->nx j J=Mc ((xs[j]?).map λv=>[v]))(step:∀j v ws J (Q':Out->Sg->Prop),xs[j]?=Mc v->I j ws J->(∀w ρ' J',I (j+1) (ws++[w]) J'->Q' (.val w ρ') J')->(∀ρ' J',I (j+1) ws J'->Q' (.next ρ') J')->turn v J Q')(hD:∀ws J,I xs.length ws J->D ws J):∀(f j:Nat)(ws:List Md)(J:Sg),j+f=xs.length+1->j<=xs.length->I j ws J->kz nx turn D f j ws J
 |0,_,_,_,h,h',_=>absurd h (λzz=>fb 0x211421001ea8261f14238265d25 [] [_,_] zz h')
 |f+1,j,ws,J,e,hj,h=>by
  have k:=keep j ws J h;cases hr:xs[j]? with
  |none=>have:j=xs.length:=Ug hj (Qq.mp hr);subst this;exact .inl ⟨by rw[k,hr];rfl,hD _ _ h⟩
  |some v=>have hlt:=(MK.mp hr).1;exact .inr ⟨v,by rw[k,hr];rfl,step j v ws J _ hr h (λw ρ' J' h'=>eU I keep step hD f (j+1) _ J' (af KX [] [_,_,_] e) hlt h') λρ' J' h'=>eU I keep step hD f (j+1) _ J' (af KX [] [_,_,_] e) hlt h'⟩
variable{l:List Int}
theorem zU{f:Nat->Int}(h:l=(Oh N).map f)(j:Nat):(cS l)[j]?=if j<N then Mc (.int (f j) 0) else none:=by
 unfold cS;rw[h,OX,ML];by_cases q:j<N;·rw[Nu q,if_pos q];rfl
 ·rw[MZ (by rw[NJ];exact PF.mp q),if_neg q];rfl
variable{a:Mk}{Q:Out->Sg->Prop}
section
variable{E0:Loc}{st:List Md}{k body:T}{c:Nat}{I:Nat->Loc->Sg->Prop}
abbrev Tu(Z:Sys)(n:Nat)(body:T):aaw (List Md):=λvs ρ J Q'=>exec Z n body vs ρ J Q'
noncomputable def Li(I:Loc->Sg->Prop):Loc->Sg->Prop:=λρ J=>∃E,s4 ρ E/\I E J
noncomputable def IE(I:Loc->Sg->Prop)(E:Loc)(J:Sg):Prop:=∃E0,I E0 J/\Wk E E0
noncomputable def XE(I:Loc->Sg->Prop)(P:Sg->Loc->Prop):Prop:=∀{E J},IE I E J->P J E
theorem XE.of{I:Loc->Sg->Prop}(h:∀ρ J,Li I ρ J->Q (.next ρ) J):XE I (XN Q):=λ⟨_,i,w⟩ ρ r=>h ρ _ ⟨_,w.up r,i⟩
theorem XE.ofC{I:Loc->Sg->Prop}(h:∀ρ J,Li I ρ J->Q (.WY ρ) J):XE I (XC Q):=λ⟨_,i,w⟩ ρ r=>h ρ _ ⟨_,w.up r,i⟩
theorem ZH{f:Nat->Int}(h:l=(Oh N).map f)(h0:IE (I 0) E J)(step:∀(j:Nat) E J (Q':Out->Sg->Prop),j<N->I j E J->XE (I (j+1)) (XN Q')->XE (I (j+1)) (XC Q')->(∀v J',wr Z n Q K (.ret v) J'->Q' (.ret v) J')->X Z n Q' [] J E [.int (f j) 0] body)(q:∀E J,I N E J->X Z n Q K J E st k)(ρ:Loc)(hr:s4 ρ E):rU (AM (cS l)) (Tu Z n body) (λρ' J'=>exec Z n k st ρ' J' (wr Z n Q K)) (λv J'=>wr Z n Q K (.ret v) J') (N+1) 0 ρ J:=by
 refine gu (λj=>if j<N then Mc [.int (f j) 0] else Mq) N (λj hj=>by rw[if_pos hj];nofun) (if_neg (Ry _)) (λj=>Li (I j)) (λj a a a=>?_) (λj vs ρ J Q' e hj ⟨E,r,h⟩ h1 h2 h3=>?_) (λρ J ⟨E,r,h⟩=>q E J h ρ r) _ 0 ρ J (Om _) (Nb _) (let ⟨_,i,w⟩:=h0;⟨_,w.up hr,i⟩)
 ·unfold AM;rw[zU h];by_cases q:j<N;·rw[if_pos q,if_pos q];rfl
  ·rw[if_neg q,if_neg q];rfl
 ·rw[if_pos hj] at e;cases e;exact step j E J Q' hj h (XE.of h1) (XE.ofC h2) h3 ρ r
theorem t8{a:Int}{c:Nat}:aQ a (a+c)=(Oh c).map λj:Nat=>a+(j:Int):=by unfold aQ;rw[show(a+(c:Int)-a).toNat=c from ao 0x42000138420027af05a36e2a29bebc168d6c14d4150f [_] [_,_] (Nh _) (ME (ck 0x2180009ef059f40823 [_] [_]))]
theorem uC{a:Int}{c:Nat}(ha:0<=a)(ha1:a+c<=1000000)(I:Nat->Loc->Sg->Prop)(h:IE (I 0) E J)(step:∀(j:Nat) E J (Q':Out->Sg->Prop),j<c->I j E J->XE (I (j+1)) (XN Q')->(∀v J',wr Z n Q K (.ret v) J'->Q' (.ret v) J')->X Z n Q' [] J E [.int (a+j) 0] body)(q:∀E J,I c E J->X Z n Q K J E st k):X Z n Q K J E (.int (a+c) t::.int a t'::st) (.Wz (.rng Mg) body k):=λρ hr=>
 ⟨st,_,_,⟨rfl,⟨r9 ha rfl,af 0x218420001ef42401782cf05fe848020821 [_] [_] ha1,af 0x430840003d0202ef05fa1200cd032 [_] [_] ha,ha1⟩,rfl⟩,ZH t8 h (λj E J Q' hj hI h1 b h3=>step j E J Q' hj hI h1 h3) q ρ hr⟩
theorem my(hc:c<=1000000)(I:Nat->Loc->Sg->Prop)(h:IE (I 0) E J)(step:∀(j:Nat) E J (Q':Out->Sg->Prop),j<c->I j E J->XE (I (j+1)) (XN Q')->XE (I (j+1)) (XC Q')->(∀v J',wr Z n Q K (.ret v) J'->Q' (.ret v) J')->X Z n Q' [] J E [.int j 0] body)(q:∀E J,I c E J->X Z n Q K J E st k):X Z n Q K J E (.int (c:Int) t::.int 0 t'::st) (.Wz (.rng Mg) body k):=λρ hr=>
 ⟨st,_,_,⟨rfl,⟨Ms _,Ms _,Ms _,nA hc⟩,rfl⟩,ZH (f:=λj=>(j:Int)) (by have:=t8 (a:=0) (c:=c);simp only[R9] at this;exact this) h step q ρ hr⟩
theorem yC(hc:c<=1000000)(I:Nat->Loc->Sg->Prop)(h:IE (I 0) E J)(step:∀(j:Nat) E J (Q':Out->Sg->Prop),j<c->I j E J->XE (I (j+1)) (XN Q')->(∀v J',wr Z n Q K (.ret v) J'->Q' (.ret v) J')->X Z n Q' [] J E [.int j 0] body)(q:∀E J,I c E J->X Z n Q K J E st k):X Z n Q K J E (.int (c:Int) t::.int 0 t'::st) (.Wz (.rng Mg) body k):=
 my hc I h (λj E J Q' hj hI h1 a h3=>step j E J Q' hj hI h1 h3) q
theorem yX(hc:c<=1000)(I:Nat->Loc->Sg->Prop)(h:IE (I c) E J)(step:∀(j:Nat) E J (Q':Out->Sg->Prop),j<c->I (j+1) E J->XE (I j) (XN Q')->(∀v J',wr Z n Q K (.ret v) J'->Q' (.ret v) J')->X Z n Q' [] J E [.int j 0] body)(q:∀E J,I 0 E J->X Z n Q K J E st k):X Z n Q K J E (.int (-1) t::.int ((c:Int)-1) t'::st) (.Wz (.rng Mh) body k):=λρ hr=>by
 refine⟨st,_,_,⟨rfl,⟨ck 0x86000271716fa1200cd035 [] [_],af 0x1080004fe8104c63d090045c5a9032 [] [_] hc,Ms _,Ms _⟩,rfl⟩,ZH (N:=c) (f:=λj=>(c:Int)-1-j) (I:=λj E J=>I (c-j) E J) ?_ h (λj E J Q' hj hI h1 a h3=>?_) (λE J hI=>q E J (by rw[Nq] at hI;exact hI)) ρ hr⟩;·show eZ _ _=_;unfold eZ;rw[show((c:Int)-1 - -1).toNat=c from ao 0x1080004e108009c68ae3d52dc546578d15c7aa5901954150f [] [_,_] (Nh _) (ME (ck 0x43000138d1716a54082c [] [_]))]
 ·have:=step (c-(j+1)) E J Q' (af 0x432840003d51215c13769554140f [] [_,_,_] (Me (af KA [] [_,_] hj))) (by rw[show c-(j+1)+1=c-j from ao 0x422842003d08e10000f6a54234a906a242b826ed2ba88267d1c [] [_,_,_,_] (Me (af KA [] [_,_] hj)) (Me (af Kw [] [_,_] hj))];exact hI) h1 h3;rw[show((c-(j+1):Nat):Int)=(c:Int)-1-j from af 0x4210013840002751215c1376954bc571ea96e2a33 [] [_,_,_] (Me (af KA [] [_,_] hj))] at this;exact this
theorem vG{sel:Cell->Option (List Md)}(hI:IE (I 0) E J)(keep:∀j E J,I j E J->(J a).bind sel=Mc xs)(step:∀j v E J (Q':Out->Sg->Prop),xs[j]?=Mc v->I j E J->XE (I (j+1)) (XN Q')->XE (I (j+1)) (XC Q')->(∀v J',wr Z n Q K (.ret v) J'->Q' (.ret v) J')->X Z n Q' [] J E [v] body)(q:∀E J,I xs.length E J->X Z n Q K J E st k)(ρ:Loc)(hr:s4 ρ E):rU (rR sel a) (Tu Z n body) (λρ' J'=>exec Z n k st ρ' J' (wr Z n Q K)) (λv J'=>wr Z n Q K (.ret v) J') (xs.length+1) 0 ρ J:=by refine gu (λj=>(xs[j]?).map λv=>[v]) xs.length (λj hj=>by rw[MG hj];nofun) (by rw[MZ (MC _)];rfl) (λj=>Li (I j)) (λj ρ J ⟨E,r,h⟩=>by unfold rR;rw[keep j E J h];rfl) (λj vs ρ J Q' e _ ⟨E,r,h⟩ h1 h2 h3=>?_) (λρ J ⟨E,r,h⟩=>q E J h ρ r) _ 0 ρ J (Om _) (Nb _) (let ⟨_,i,w⟩:=hI;⟨_,w.up hr,i⟩);refine ae (MP.mp e) λv z1=>?_;obtain⟨hv,rfl⟩:=z1;exact step j v E J Q' hv h (XE.of h1) (XE.ofC h2) h3 ρ r
theorem uT(I:Nat->Loc->Sg->Prop)(hI:IE (I 0) E J)(keep:∀j E J,I j E J->J a=Mc (.list xs))(step:∀j v E J (Q':Out->Sg->Prop),xs[j]?=Mc v->I j E J->XE (I (j+1)) (XN Q')->XE (I (j+1)) (XC Q')->(∀v J',wr Z n Q K (.ret v) J'->Q' (.ret v) J')->X Z n Q' [] J E [v] body)(q:∀E J,I xs.length E J->X Z n Q K J E st k):X Z n Q K J E (.ref a::st) (.Wz .seq body k):=λρ hr=>
 ⟨st,_,_,⟨rfl,.inl ⟨⟨xs,let ⟨_,i,_⟩:=hI;keep _ _ _ i⟩,rfl⟩⟩,vG hI (λj E J h=>by rw[keep j E J h];rfl) step q ρ hr⟩
theorem wH(I:Nat->Loc->Sg->Prop)(hI:IE (I 0) E J)(keep:∀j E J,I j E J->J a=Mc (.tup xs))(step:∀j v E J (Q':Out->Sg->Prop),xs[j]?=Mc v->I j E J->XE (I (j+1)) (XN Q')->XE (I (j+1)) (XC Q')->(∀v J',wr Z n Q K (.ret v) J'->Q' (.ret v) J')->X Z n Q' [] J E [v] body)(q:∀E J,I xs.length E J->X Z n Q K J E st k):X Z n Q K J E (.ref a::st) (.Wz .seq body k):=λρ hr=>
 ⟨st,_,_,⟨rfl,.inr ⟨⟨xs,let ⟨_,i,_⟩:=hI;keep _ _ _ i⟩,rfl⟩⟩,vG hI (λj E J h=>by rw[keep j E J h];rfl) step q ρ hr⟩
theorem Bj{m:List (Int×Md)}(I:List (Int×Md)->Loc->Sg->Prop)(h0:IE (I m) E J)(keep:∀l E J,I l E J->J a=Mc (.W8 m))(step:∀p r E J (Q':Out->Sg->Prop),I (p::r) E J->XE (I r) (XN Q')->X Z n Q' [] J E [.int p.1 0] body)(q:∀E J,I [] E J->X Z n Q K J E st k):X Z n Q K J E (.ref a::st) (.Wz .keys body k):=λρ hr=>by
 refine⟨st,_,m.length+1,⟨rfl,m,(let ⟨_,i,_⟩:=h0;keep _ _ _ i),rfl⟩,gu (λj=>(m[j]?).map λp=>[.int p.1 0]) m.length (λj hj=>by rw[MG hj];nofun) (by rw[MZ (MC _)];rfl) (λj=>Li (I (m.drop j)))
  (λj ρ J ⟨E,r,h⟩=>by unfold Cc;rw[keep _ E J h];exact if_pos rfl) (λj vs ρ J Q' e hj ⟨E,r,h⟩ h1 _ _=>?_) (λρ J ⟨E,r,h⟩=>q E J (by rw[TS] at h;exact h) ρ r) _ 0 ρ J (Om _) (Nb _) (let ⟨_,i,w⟩:=h0;⟨_,w.up hr,i⟩)⟩
 rw[MG hj] at e;rw[<-MI e];rw[Og hj] at h;exact step _ _ E J Q' h (XE.of h1) ρ r
theorem wY{m:Nat}{hd:Nat->List Md}(hm:take? m ((as.map MJ).reverse++st)=Mc (as.map MJ,st))(I:Nat->Loc->Sg->Prop)(h0:IE (I 0) E J)(keep:∀j E J,I j E J->uD as j J=Mc (if j<N then Mc (hd j) else Mq))(step:∀j E J (Q':Out->Sg->Prop),j<N->I j E J->XE (I (j+1)) (XN Q')->(∀v J',wr Z n Q K (.ret v) J'->Q' (.ret v) J')->X Z n Q' [] J E (hd j) body)(q:∀E J,I N E J->X Z n Q K J E st k):X Z n Q K J E ((as.map MJ).reverse++st) (.Wz (.zip m) body k):=λρ hr=>
 ⟨st,_,N+1,⟨as,hm,rfl⟩,gu _ N (λj hj=>by rw[if_pos hj];nofun) (if_neg (Ry _)) (λj=>Li (I j)) (λj ρ J ⟨E,r,h⟩=>keep j E J h) (λj vs ρ J Q' e hj ⟨E,r,h⟩ h1 _ h3=>by rw[if_pos hj] at e;cases e;exact step j E J Q' hj h (XE.of h1) h3 ρ r) (λρ J ⟨E,r,h⟩=>q E J h ρ r) _ 0 ρ J (Om _) (Nb _) (let ⟨_,i,w⟩:=h0;⟨_,w.up hr,i⟩)⟩
theorem lu:s4 ρ ρ:=λa a h=>h
theorem fc(I:Nat->List Md->Sg->Prop)(h0:I 0 [] J)(keep:∀j ws J,I j ws J->J a=Mc (.list xs))(hl:xs.length<=100000)(step:∀j v ws J (Q':Out->Sg->Prop),xs[j]?=Mc v->I j ws J->(∀w E J',I (j+1) (ws++[w]) J'->XV Q' J' E w)->(∀E J',I (j+1) ws J'->XN Q' J' E)->X Z n Q' [] J [(c,v)] [] body)(q:∀ws J' x,I xs.length ws J'->J' x=Mq->X Z n Q K (upd J' x (.list ws)) E (.ref x::st) k):X Z n Q K J E (.ref a::st) (.Xn Mg c body k):=λρ hr=>
 ⟨st,_,xs.length+1,Rg hl,⟨rfl,.inl ⟨⟨xs,keep _ _ _ h0⟩,rfl⟩⟩,eU I (λj ws J h=>by unfold rR;rw[keep j ws J h];rfl) (λj v ws J Q' e h h1 h2=>step j v ws J Q' e h (λw b J' i ρ' b=>h1 w ρ' J' i) (λb J' i ρ' b=>h2 ρ' J' i) _ lu) (λws J h x hx=>q ws J x h hx ρ hr) _ 0 [] J (Om _) (Nb _) h0⟩
theorem qS(hk:Z.kl a=Mc xs)(I:Nat->List Md->Sg->Prop)(h0:I 0 [] J)(hl:xs.length<=100000)(step:∀j v ws J (Q':Out->Sg->Prop),xs[j]?=Mc v->I j ws J->(∀w E J',I (j+1) (ws++[w]) J'->XV Q' J' E w)->(∀E J',I (j+1) ws J'->XN Q' J' E)->X Z n Q' [] J [(c,v)] [] body)(q:∀ws J' x,I xs.length ws J'->J' x=Mq->X Z n Q K (upd J' x (.list ws)) E (.ref x::st) k):X Z n Q K J E (.ref a::st) (.Xn Mg c body k):=λρ hr=>
 ⟨st,_,xs.length+1,Rg hl,⟨rfl,.inr ⟨xs,hk,rfl⟩⟩,eU I (λj b b b=>rfl) (λj v ws J Q' e h h1 h2=>step j v ws J Q' e h (λw b J' i ρ' b=>h1 w ρ' J' i) (λb J' i ρ' b=>h2 ρ' J' i) _ lu) (λws J h x hx=>q ws J x h hx ρ hr) _ 0 [] J (Om _) (Nb _) h0⟩
theorem Fm{turn:Loc->Sg->(Out->Sg->Prop)->Prop}{D:Loc->Sg->Prop}{R:Md->Sg->Prop}(I:Nat->Loc->Sg->Prop)(step:∀m ρ J (Q':Out->Sg->Prop),I m ρ J->(∀m',m' < m->∀ρ' J',I m' ρ' J'->Q' (.next ρ') J')->(∀ρ' J',D ρ' J'->Q' (.brk ρ') J')->(∀v J',R v J'->Q' (.ret v) J')->turn ρ J Q'):∀(f m:Nat)(ρ:Loc)(J:Sg),m<f->I m ρ J->yS turn D R f ρ J
 |0,m,_,_,h,_=>absurd h (Qy m)
 |f+1,m,ρ,J,_,h=>step m ρ J _ h (λm' hm ρ' J' h'=>Fm I step f m' ρ' J' (by lia) h') (λa a h'=>h') λa a h'=>h'
theorem wF{m:Nat}(I:Nat->Loc->Sg->Prop)(D:Loc->Sg->Prop)(h:IE (I m) E J)(step:∀m E J (Q':Out->Sg->Prop),I m E J->(∀m',m' < m->XE (I m') (XN Q'))->XE D (XB Q')->(∀v J',wr Z n Q K (.ret v) J'->Q' (.ret v) J')->X Z n Q' [] J E [] body)(q:∀E J,D E J->X Z n Q K J E st k):X Z n Q K J E st (.whl body k):=λρ hr=>
 ⟨m+1,Fm (D:=λρ' J'=>exec Z n k st ρ' J' (wr Z n Q K)) (R:=λv J'=>wr Z n Q K (.ret v) J') (λj=>Li (I j)) (λm ρ J Q' ⟨E,r,hI⟩ h1 h2 h3=>step m E J Q' hI (λm' hm=>XE.of (h1 m' hm)) (λ⟨_,i,w⟩ ρ' r'=>h2 ρ' _ (q _ _ i _ (w.up r'))) h3 ρ r) (m+1) m ρ J (M9 m) (let ⟨_,i,w⟩:=h;⟨_,w.up hr,i⟩)⟩
end
section
variable{P:Md->Sg->Prop}
theorem pE{d:Nat}(h0:0<=j)(h1:j<2^63):end? (.int j t) d=Mc j.toNat:=if_pos ⟨h0,h1⟩
theorem sN{len:Nat}(h0:0<=j)(h1:j<2^63):cut .none (.int j t) len=Mc (0,j.toNat):=by unfold cut;rw[pE h0 h1];rfl
theorem ry{len:Nat}(h0:0<=j)(h1:j<2^63):cut (.int j t) .none len=Mc (j.toNat,len):=by unfold cut;rw[pE h0 h1];rfl
theorem zB{len:Nat}(h0:0<=i)(h1:i<2^63)(h2:0<=j)(h3:j<2^63):cut (.int i t') (.int j t) len=Mc (i.toNat,j.toNat):=by unfold cut;rw[pE h0 h1,pE h2 h3];rfl
theorem av(h:J a=Mc (.list xs))(h0:0<=j)(h1:j<2^63)(e:xs[j.toNat]?=Mc v)(q:P v J):fG Z n J P (.ref a) (.int j t):=.list h h0 h1 e q
theorem k9(h:J a=Mc (.list xs))(h0:j<0)(h2:-(2^63)<=j)(h1:0<=j+xs.length)(e:xs[(j+xs.length).toNat]?=Mc v)(q:P v J):fG Z n J P (.ref a) (.int j t):=.neg h h0 h2 h1 e q
theorem am(h:J a=Mc (.tup xs))(h0:0<=j)(h1:j<2^63)(e:xs[j.toNat]?=Mc v)(q:P v J):fG Z n J P (.ref a) (.int j t):=.tup h h0 h1 e q
theorem xR{u:UInt8}(h:J a=Mc (.WJ bs))(h0:0<=j)(h1:j<2^63)(e:bs[j.toNat]?=Mc u)(q:P (.int u.toNat 0) J):fG Z n J P (.ref a) (.int j t):=.WJ h h0 h1 e q
theorem YG(h:J a=Mc (.list xs))(h1:xs.length<=1000000)(q:P (.int xs.length 0) J):gr Z n J P (.ref a):=.list h h1 q
theorem jD(h:J a=Mc (.tup xs))(h1:xs.length<=1000000)(q:P (.int xs.length 0) J):gr Z n J P (.ref a):=.tup h h1 q
theorem qN(h:J a=Mc (.WJ bs))(h1:bs.length<=1000000)(q:P (.int bs.length 0) J):gr Z n J P (.ref a):=.WJ h h1 q
theorem Y5{P:Sg->Prop}(h:J a=Mc (.list xs))(h0:0<=j)(h1:j<xs.length)(h2:xs.length<=1000000)(q:P (upd J a (.list (xs.set j.toNat v)))):kT Z n J P (.ref a) (.int j t) v:=.list h h0 h1 h2 q
end
variable{st0:List Md}
section
variable{st:List Md}{k:T}
theorem nh(q:X Z n Q K J E st k):X Z n Q (.sq st k::K) J E st' .Wy:=q
theorem iu{r r':Bool}(h:ss J u v r)(e:(if ng then !r else r)=r')(q:X Z n Q K J E (.bool r'::st) k):X Z n Q K J E (v::u::st) (.eqv ng k):=λρ hr=>⟨r,h,e▸q ρ hr⟩
theorem DZ{A:T}(P:Md->Loc->Sg->Prop)(h:∀Q',(∀{v E J},(∃E',P v E' J/\Wk E E')->XV Q' J E v)->X Z n Q' [] J E st A)(q:∀v E J,P v E J->X Z n Q K J E (v::st0) k):X Z n Q (.bk st0 k::K) J E st A:=λρ hr=>
 h (FK λv ρ J=>exec Z n k (v::st0) ρ J (wr Z n Q K)) (λ⟨E',p,w⟩ ρ' hr'=>q _ E' _ p ρ' (w.up hr')) ρ hr
theorem wu{A:T}(P:Loc->Sg->Prop)(h:∀Q',XE P (XN Q')->(∀v J',wr Z n Q K (.ret v) J'->Q' (.ret v) J')->(∀{E J},XB (wr Z n Q K) J E->XB Q' J E)->(∀{E J},XC (wr Z n Q K) J E->XC Q' J E)->X Z n Q' [] J E st A)(q:∀E J,P E J->X Z n Q K J E st0 k):X Z n Q (.sq st0 k::K) J E st A:=λρ hr=>
 h (B6 (λρ J=>exec Z n k st0 ρ J (wr Z n Q K)) (wr Z n Q K)) (λ⟨E',p,w⟩ ρ' hr'=>q E' _ p ρ' (w.up hr')) (λa a z=>z) (λz=>z) (λz=>z) ρ hr
theorem D6{A:T}(v:Md)(R:Loc)(S:Sg)(h:∀Q',(∀{E},Wk E R->XV Q' S E v)->X Z n Q' [] J E st A)(q:X Z n Q K S R (v::st0) k):X Z n Q (.bk st0 k::K) J E st A:=λρ hr=>
 h (FK λv ρ J=>exec Z n k (v::st0) ρ J (wr Z n Q K)) (λw ρ' hr'=>q ρ' (w.up hr')) ρ hr
theorem Hj{A:T}(R:Loc)(P:Sg->Prop)(h:∀Q',(∀{E J},P J->Wk E R->XN Q' J E)->(∀v J',wr Z n Q K (.ret v) J'->Q' (.ret v) J')->X Z n Q' [] J E st A)(q:∀J,P J->X Z n Q K J R st0 k):X Z n Q (.sq st0 k::K) J E st A:=λρ hr=>
 h (B6 (λρ J=>exec Z n k st0 ρ J (wr Z n Q K)) (wr Z n Q K)) (λp w ρ' hr'=>q _ p ρ' (w.up hr')) (λa a z=>z) ρ hr
theorem Dz{A:T}(R:Loc)(S:Sg)(h:∀Q',(∀{E},Wk E R->XN Q' S E)->(∀v J',wr Z n Q K (.ret v) J'->Q' (.ret v) J')->X Z n Q' [] J E st A)(q:X Z n Q K S R st0 k):X Z n Q (.sq st0 k::K) J E st A:=λρ hr=>
 h (B6 (λρ J=>exec Z n k st0 ρ J (wr Z n Q K)) (wr Z n Q K)) (λw ρ' hr'=>q ρ' (w.up hr')) (λa a z=>z) ρ hr
end
variable{Q':Out->Sg->Prop}
section
variable{st:List Md}{k body:T}{c:Nat}{γ:Type}
inductive G3(R:α->β->γ->Loc)(I:α->β->γ->Sg->Prop)(E:Loc)(J:Sg):Prop
 |mk (a:α) (b:β) (c:γ) (e:E=R a b c) (i:I a b c J)
noncomputable def XG(R:α->β->γ->Loc)(I:α->β->γ->Sg->Prop)(Q':Out->Sg->Prop):Prop:=∀a b c {E J},I a b c J->Wk E (R a b c)->XN Q' J E
theorem G3.ie{R:α->β->γ->Loc}{I:α->β->γ->Sg->Prop}{a:α}{b:β}{c:γ}(h:I a b c J)(w:Wk E (R a b c)):IE (G3 R I) E J:=⟨_,⟨a,b,c,rfl,h⟩,w⟩
@[elab_as_elim]theorem G3.at{R:α->β->γ->Loc}{I:α->β->γ->Sg->Prop}{P:Loc->Prop}(h:G3 R I E J)(q:∀a b c,I a b c J->P (R a b c)):P E:=by cases h with|mk a b c e i=>subst e;exact q a b c i
theorem XG.of{R:α->β->γ->Loc}{I:α->β->γ->Sg->Prop}(h:XE (G3 R I) (XN Q')):XG R I Q':=λa a a a a i w=>h (G3.ie i w)
variable(R:α->β->γ->Loc)(I:Nat->α->β->γ->Sg->Prop)(v0:α)(v1:β)(v2:γ)
theorem lg(hc:c<=1000)(h:I c v0 v1 v2 J)(w:Wk E (R v0 v1 v2))(step:∀(j:Nat) u0 u1 u2 J (Q':Out->Sg->Prop),j<c->I (j+1) u0 u1 u2 J->XG R (I j) Q'->(∀v J',wr Z n Q K (.ret v) J'->Q' (.ret v) J')->X Z n Q' [] J (R u0 u1 u2) [.int j 0] body)(q:∀u0 u1 u2 J,I 0 u0 u1 u2 J->X Z n Q K J (R u0 u1 u2) st k):X Z n Q K J E (.int (-1) t::.int ((c:Int)-1) t'::st) (.Wz (.rng Mh) body k):=
 yX hc (λj=>G3 R (I j)) (G3.ie h w) (λj a J Q' hj i h1 h3=>G3.at i λu0 u1 u2 i=>step j u0 u1 u2 J Q' hj i (.of h1) h3) λa J i=>G3.at i λu0 u1 u2 i=>q u0 u1 u2 J i
theorem fF(hc:c<=1000000)(h:I 0 v0 v1 v2 J)(w:Wk E (R v0 v1 v2))(step:∀(j:Nat) u0 u1 u2 J (Q':Out->Sg->Prop),j<c->I j u0 u1 u2 J->XG R (I (j+1)) Q'->(∀v J',wr Z n Q K (.ret v) J'->Q' (.ret v) J')->X Z n Q' [] J (R u0 u1 u2) [.int j 0] body)(q:∀u0 u1 u2 J,I c u0 u1 u2 J->X Z n Q K J (R u0 u1 u2) st k):X Z n Q K J E (.int (c:Int) t::.int 0 t'::st) (.Wz (.rng Mg) body k):=
 yC hc (λj=>G3 R (I j)) (G3.ie h w) (λj a J Q' hj i h1 h3=>G3.at i λu0 u1 u2 i=>step j u0 u1 u2 J Q' hj i (.of h1) h3) λa J i=>G3.at i λu0 u1 u2 i=>q u0 u1 u2 J i
theorem eS(h:I 0 v0 v1 v2 J)(w:Wk E (R v0 v1 v2))(keep:∀j u0 u1 u2 J,I j u0 u1 u2 J->J a=Mc (.list xs))(step:∀j v u0 u1 u2 J (Q':Out->Sg->Prop),xs[j]?=Mc v->I j u0 u1 u2 J->XG R (I (j+1)) Q'->(∀v J',wr Z n Q K (.ret v) J'->Q' (.ret v) J')->X Z n Q' [] J (R u0 u1 u2) [v] body)(q:∀u0 u1 u2 J,I xs.length u0 u1 u2 J->X Z n Q K J (R u0 u1 u2) st k):X Z n Q K J E (.ref a::st) (.Wz .seq body k):=
 uT (λj=>G3 R (I j)) (G3.ie h w) (λj b J i=>G3.at i λu0 u1 u2 i=>keep j u0 u1 u2 J i) (λj v b J Q' e i h1 b h3=>G3.at i λu0 u1 u2 i=>step j v u0 u1 u2 J Q' e i (.of h1) h3) λb J i=>G3.at i λu0 u1 u2 i=>q u0 u1 u2 J i
theorem wl(hc:c<=1000000)(h:I 0 v0 v1 v2 J)(w:Wk E (R v0 v1 v2))(step:∀(j:Nat) u0 u1 u2 J (Q':Out->Sg->Prop),j<c->I j u0 u1 u2 J->XG R (I (j+1)) Q'->(∀a b c {E J},I (j+1) a b c J->Wk E (R a b c)->XC Q' J E)->X Z n Q' [] J (R u0 u1 u2) [.int j 0] body)(q:∀u0 u1 u2 J,I c u0 u1 u2 J->X Z n Q K J (R u0 u1 u2) st k):X Z n Q K J E (.int (c:Int) t::.int 0 t'::st) (.Wz (.rng Mg) body k):=
 my hc (λj=>G3 R (I j)) (G3.ie h w) (λj d J Q' hj i h1 h2 d=>G3.at i λu0 u1 u2 i=>step j u0 u1 u2 J Q' hj i (.of h1) λd d d d d i w=>h2 (G3.ie i w)) λd J i=>G3.at i λu0 u1 u2 i=>q u0 u1 u2 J i
@[elab_as_elim]theorem c2{R E':Loc}{P:Loc->Sg->Prop}(h:And (J'=J) (E'=R))(p:P R J):P E' J':=by rw[h.1,h.2];exact p
theorem rJ(R:Loc)(hx:J a=Mc (.tup xs))(w:Wk E R)(step:∀(j:Nat) v (Q':Out->Sg->Prop),xs[j]?=Mc v->(∀{E},Wk E R->XN Q' J E)->X Z n Q' [] J R [v] body)(q:X Z n Q K J R st k):X Z n Q K J E (.ref a::st) (.Wz .seq body k):=
 wH (λb E' J'=>And (J'=J) (E'=R)) ⟨_,⟨rfl,rfl⟩,w⟩ (λb b b h=>h.1▸hx) (λj v b b Q' e h h1 b b=>c2 h (step j v Q' e λw=>h1 ⟨_,⟨rfl,rfl⟩,w⟩)) λb b h=>c2 h q
theorem ue{a:Int}(R:Loc)(ha:0<=a)(ha1:a+c<=1000000)(w:Wk E R)(step:∀(j:Nat)(Q':Out->Sg->Prop),j<c->(∀{E},Wk E R->XN Q' J E)->(∀v J',wr Z n Q K (.ret v) J'->Q' (.ret v) J')->X Z n Q' [] J R [.int (a+j) 0] body)(q:X Z n Q K J R st k):X Z n Q K J E (.int (a+c) t::.int a t'::st) (.Wz (.rng Mg) body k):=
 uC ha ha1 (λb E' J'=>And (J'=J) (E'=R)) ⟨_,⟨rfl,rfl⟩,w⟩ (λj b b Q' e h h1 h3=>c2 h (step j Q' e (λw=>h1 ⟨_,⟨rfl,rfl⟩,w⟩) h3)) λb b h=>c2 h q
end
variable{j:Nat}
theorem EV{P:α->Prop}{a b c:α}(h0:P a)(h1:P b)(h2:P c){v:α}(h:[a,b,c][j]?=Mc v):P v:=
 UL.mpr ⟨h0,UL.mpr ⟨h1,List.forall_mem_singleton.mpr h2⟩⟩ v (MO h)
theorem Gk(f:Nat->α){v:α}(h:((Oh n).map f)[j]?=Mc v):j<n/\v=f j:=by
 rw[ML] at h;by_cases q:j<n;·rw[Nu q] at h;exact⟨q,(MI h).symm⟩
 ·rw[MZ (by rw[NJ];exact PF.mp q)] at h;cases h
structure ES where
 made:List UInt8
 low:Int
 span:Int
 cache:Int
 held:Int
noncomputable def u8(x:Int):UInt8:=Pz x.toNat
noncomputable def ES.put(e:ES):ES:=if e.low<4278190080∨4294967296<=e.low then
  {e with made:=e.made++[u8 ((e.cache+e.low/4294967296)%256)]++M8 (e.held-1).toNat (u8 ((255+e.low/4294967296)%256)),cache:=e.low/16777216%256,held:=0} else e
noncomputable def ES.WA(e:ES):ES:={e.put with held:=e.put.held+1,low:=e.low%16777216*256}
noncomputable def ES.fill(e:ES):ES:=if e.span<16777216 then ES.WA {e with span:=e.span*256} else e
structure ES.Wk(k:Nat)(e:ES):Prop where
 low0:0<=e.low
 Z6:0<=e.span
 aaM:e.span<4294967296
 aam:0<=e.cache
 aa9:e.cache<256
 held:1<=e.held
 Wj:e.made.length+e.held<=k+1
structure ES.Ok(k:Nat)(e:ES):Prop extends ES.Wk k e where
 low1:e.low+e.span<=8589934592
variable{e:ES}
theorem ES.Wk.WA(h:e.Wk k):e.WA.Ok (k+1):=by obtain⟨h1,h3,h4,h5,h6,h7,h8⟩:=h;unfold ES.WA ES.put;split<;>refine⟨⟨?_,?_,?_,?_,?_,?_,?_⟩,?_⟩<;>simp only[MH,NW,Ng]<;>lia
theorem ES.Ok.le{l:Nat}(h:e.Ok k)(hl:k<=l):e.Ok l:=⟨⟨h.low0,h.Z6,h.aaM,h.aam,h.aa9,h.held,by have:=h.Wj;exact ao 0x108610000f44b90f7159e0b6a42b128ae3bdc56782c [_] [_,_,_] hl this⟩,h.low1⟩
noncomputable def ES.pre(e:ES)(m b:Int):ES:=if b=0 then{e with span:=e.span/2048*m} else{e with low:=e.low+e.span/2048*m,span:=e.span-e.span/2048*m}
noncomputable def ES.WD(e:ES)(b:Int):ES:=if b=1 then{e with low:=e.low+e.span/2,span:=e.span/2} else{e with span:=e.span/2}
noncomputable def ES.bit(e:ES)(m b:Int):ES:=(e.pre m b).fill
noncomputable def ES.dir(e:ES)(b:Int):ES:=(e.WD b).fill
theorem i7{s m:Int}(hs:0<=s)(h0:0<=m)(h1:m<=2048):0<=s/2048*m/\s/2048*m<=s:=by have h:0<=s/2048:=DV hs rfl;refine⟨Int.mul_nonneg h h0,?_⟩;have:=Nr h1 h;exact ao 0x108610000f4c60001f1d055000222c8209e6080e [_,_,_] [] this (FP _ rfl)
theorem ES.Ok.pre(h:e.Ok k){m:Int}(h0:0<=m)(h1:m<=2048):(e.pre m b).Ok k:=by obtain⟨⟨q1,q3,q4,q5,q6,q7,q8⟩,q2⟩:=h;have p1:=(i7 q3 h0 h1).1;have p2:=(i7 q3 h0 h1).2;unfold ES.pre;split<;>refine⟨⟨?_,?_,?_,?_,?_,?_,?_⟩,?_⟩<;>dsimp only<;>lia
theorem ES.Ok.WD(h:e.Ok k):(e.WD b).Ok k:=by obtain⟨⟨q1,q3,q4,q5,q6,q7,q8⟩,q2⟩:=h;unfold ES.WD;split<;>refine⟨⟨?_,?_,?_,?_,?_,?_,?_⟩,?_⟩<;>dsimp only<;>lia
theorem ES.Ok.wide(h:e.Ok k)(q:e.span<16777216):ES.Wk k {e with span:=e.span*256}:=by obtain⟨⟨q1,q3,q4,q5,q6,q7,q8⟩,q2⟩:=h;refine⟨?_,?_,?_,?_,?_,?_,?_⟩<;>dsimp only<;>lia
theorem ES.Ok.fill(h:e.Ok k):e.fill.Ok (k+1):=by
 unfold ES.fill;split;·rename_i q;exact(h.wide q).WA
 ·exact h.le (Qe k)
noncomputable def Hc(b:Mk)(e:ES)(cl:Bool):Cell:=.Wu 1095 [(JI,.ref b),(LO,.int e.low 0),(JD,.int e.span 0),(JF,.int e.cache 0),(JH,.int e.held 0),(JG,.bool cl)]
inductive vw(J:Sg)(w b:Mk)(e:ES)(cl:Bool):Prop where
 |mk (w:J w=Mc (Hc b e cl))
  (b:J b=Mc (.WJ e.made))
variable{b w:Mk}
section
variable{cl:Bool}
theorem rk(G:Good Z Kg)(hn:0<n)(S:Sub H J)(hw:H w=Mq)(hb:H b=Mq)(W:vw J w b e cl)(ok:e.Wk k)(hk:k<=900):ac Z n (.ref 1036) [.ref w] J (λv J'=>v=.none/\Sub H J'/\vw J' w b e.WA cl):=by
 have hwb:w≠b:=mf W.1 W.2 rfl;have hbw:=hwb.symm;refine run G hn ?_;have W1:=W.1;have W2:=W.2;lk;refine bQ (λh=>?a) (λh=>?b);case' b=>
  lk
  refine xh (λh'=>?c) (λh'=>?d)
 case d=>
  lk
  rw[show(16777216-1:Int)=16777215 from rfl,tN ok.low0]
  lk
  rw[Cp]
  refine⟨rfl,S.upd hw _,?_,?_⟩
  ·refine(aa _ _ _).trans ?_;unfold ES.WA ES.put;rw[if_neg (by lia)];rfl
  ·refine(ag _ _ hbw).trans (W2.trans ?_);unfold ES.WA ES.put;rw[if_neg (by lia)]
 case' a=>replace h:e.low<4278190080∨4294967296<=e.low:=.inl h
 case' c=>replace h:e.low<4278190080∨4294967296<=e.low:=.inr h'
 all_goals
  have hz:=ok.Wj
  have hh:=ok.held
  have hl0:=ok.low0
  have hc0:0<=e.cache+e.low/4294967296:=by have:=ok.aam;lia
  have hc1:0<=255+e.low/4294967296:=by lia
  lk
  rw[GO,pG hc0]
  refine mH W2 (ao 0x1084004e100009c004122d0202e002098105f2a [_] [] (vy _ rfl) (Bi _ rfl)) (aS 0x845086100014e0401d15c77b8acf059c20a118d61a804131f [_] [_,_] hk hz hh) ?_
  lk
  rw[pG hc1]
  intro x hx
  have hxw:x≠w:=Ek hx ((ag _ _ hwb).trans W1)
  have hxb:x≠b:=λz=>by rw[z,aa] at hx;cases hx
  have hwx:=hxw.symm
  have hbx:=hxb.symm
  refine lD ?_ (aa _ _ _) (mh (ao 0x1084004e100009c004122d0202e002098105f2a [_] [] (vy _ rfl) (Bi _ rfl))) (MF rfl)
  lk
  refine BR ?_ (aS 0x43184308000a6110009e0401d1715eb8ed1059c2082631f408834e1106810c745 [_] [_,_] hk hz hh)
  lk
  refine xW ((ag _ _ hbx).trans (aa _ _ _)) (by simp;exact iK 0x1092114218400069aa118975c842512e43dc56782de1048563786a015104cf6e339 [_] [_,_,_,_] hk hz (ME (af 0x8400027810074080b [_] [] hh)) (V8 _ _)) ?_
  lk
  rw[GI,pG (by lia)]
  lk
  rw[show(16777216-1:Int)=16777215 from rfl,tN (by lia)]
  lk
  rw[Cp]
  refine⟨rfl,(((S.upd hb _).upd ((S.upd hb _).none hx) _).upd hb _).upd hw _,?_,?_⟩
  ·refine(aa _ _ _).trans ?_;unfold ES.WA ES.put;rw[if_pos h];rfl
  ·refine(ag _ _ hbw).trans ((aa _ _ _).trans ?_);unfold ES.WA ES.put;rw[if_pos h];simp[u8]
theorem jf(G:Good Z Kg)(hn:0<n)(W:vw J w b e Mg):ac Z n (.ref 1050) [.ref w] J (λv J'=>v=.none/\J=J'):=by have W1:=W.1;refine run G hn ?_;lk;exact⟨rfl,rfl⟩
theorem qj(G:Good Z Kg)(hn:2<=n)(S:Sub H J)(hw:H w=Mq)(hb:H b=Mq)(W:vw J w b e cl)(ok:e.Ok k)(hk:k<=900):ac Z n (.ref 1043) [.ref w] J (λv J'=>v=.none/\Sub H J'/\vw J' w b e.fill cl):=by
 have hwb:w≠b:=mf W.1 W.2 rfl;have W1:=W.1;refine run G (lq hn rfl) ?_;have h0:=ok.Z6;have h1:=ok.aaM;lk;refine bQ (λh=>?_) (λh=>?_);·lk;rw[Cp];refine(rk G (lp hn rfl) (S.upd hw _) hw hb (e:={e with span:=e.span*256}) (cl:=cl) ⟨aa _ _ _,(ag _ _ hwb.symm).trans W.2⟩ (ok.wide h) hk).XW λJ' S1 W'=>?_;lk;exact⟨rfl,S1,by unfold ES.fill;rw[if_pos h];exact W'⟩
 ·lk;exact⟨rfl,S,by unfold ES.fill;rw[if_neg h];exact W⟩
theorem Row.upd{len:Nat}(R:Row J r d len f){c:Cell}(hr:r≠a)(hd:d≠a):Row (Internal.upd J a c) r d len f:=by
 rcases R with⟨rfl,xs,e,hl,hx⟩|⟨e,m,em,hm⟩;·exact .inl ⟨rfl,xs,(ag _ _ hr).trans e,hl,hx⟩
 ·exact .inr ⟨(ag _ _ hr).trans e,m,(ag _ _ hd).trans em,hm⟩
theorem Row.neI{len:Nat}(R:Row J r d len f){C:Nat}(h:J a=Mc (.Wu C fs))(hC:C≠159):r≠a/\d≠a:=by
 rcases R with⟨rfl,xs,e,hl,hx⟩|⟨e,m,em,hm⟩;·exact An.intro (λz=>by rw[z,h] at e;cases e) (λz=>by rw[z,h] at e;cases e)
 ·exact⟨λz=>by rw[z,h] at e;cases e;exact hC rfl,mf em h rfl⟩
theorem Row.neB{len:Nat}(R:Row J r d len f)(h:J a=Mc (.WJ bs)):r≠a/\d≠a:=by
 rcases R with⟨rfl,xs,e,hl,hx⟩|⟨e,m,em,hm⟩;·exact An.intro (λz=>by rw[z,h] at e;cases e) (λz=>by rw[z,h] at e;cases e)
 ·exact⟨λz=>(by rw[z,h] at e;cases e),λz=>(by rw[z,h] at em;cases em)⟩
theorem Row.keep{len:Nat}(R:Row J r d len f)(h:∀a c,(a=r∨a=d)->J a=Mc c->J' a=Mc c):Row J' r d len f:=by
 rcases R with⟨rfl,xs,e,hl,hx⟩|⟨e,m,em,hm⟩;·exact .inl ⟨rfl,xs,h _ _ (.inl rfl) e,hl,hx⟩
 ·exact .inr ⟨h _ _ (.inl rfl) e,m,h _ _ (.inr rfl) em,hm⟩
theorem zn(G:Good Z Kg)(hn:4<=n)(S:Sub H J)(hw:H w=Mq)(hb:H b=Mq)(W:vw J w b e Mg)(ok:e.Ok k)(hk:k<=900){len:Nat}{bit:Int}(R:Row J r d len f)(hr:H r=Mq)(hd:H d=Mq)(i0:0<=i)(i1:i<len)(hlen:len<1000000)(hbit:bit=0∨bit=1)(m0:0<=f i)(m1:f i<=2048):ac Z n (.ref 1057) [.ref w,.ref r,.int i t,.int bit t'] J (λv J'=>v=.none/\Sub H J'/\vw J' w b (e.bit (f i) bit) Mg/\Row J' r d len (put f i (Xu (f i) bit))):=by
 have hwb:w≠b:=mf W.1 W.2 rfl;obtain z2:=R.neI W.1 (by decide);have hrw:=z2.1;have hdw:=z2.2;obtain z1:=R.neB W.2;have hrb:=z1.1;have hdb:=z1.2;have W1:=W.1;have ps:=i7 ok.Z6 m0 m1;refine run G (lq hn rfl) ?_;lk;refine((qo G (lp hn rfl) hbit)).k01 ?_;lk;refine((jf G (lp hn rfl) W)).k01 ?_;lk;refine R.idx G (lp hn rfl) i0 i1 hlen ?_;lk;rw[Ep];have tail:∀J1:Sg,Sub H J1->vw J1 w b (e.pre (f i) bit) Mg->Row J1 r d len f->
   ac Z (n-1) (.ref 916) [.int (f i) 0,.int bit t'] J1 λv J'=>X Z (n-1) (bY (λv J'=>v=.none/\Sub H J'/\vw J' w b (e.bit (f i) bit) Mg/\Row J' r d len (put f i (Xu (f i) bit)))) [] J' [(JL,.ref w),(Js,.ref r),(JM,.int i t)] [v] (.ld Js<|.ld JM<|.XD<|.ld JL<|.meth IY<|.XM 0<|.pop<|.cst .none<|.ret):=by
  clear W1
  intro J1 S1 W1 R1
  refine((iw G (lp hn rfl))).k01 ?_
  lk
  have V1:=W1.1
  have V2:=W1.2
  have hwr:w≠r:=hrw.symm
  refine R1.set G (lp hn rfl) i0 i1 hlen (S1.WT λa=>a=w∨a=b) (ai (λz=>z.elim hrw hrb) hr) (ai (λz=>z.elim hdw hdb) hd) ?_
  intro J2 R2 S3
  have V3:=S3.at (.inl rfl) V1
  have V4:=S3.at (.inr rfl) V2
  have S4:=S1.Xi S3
  lk
  refine(qj G (lp hn rfl) (S4.WT λa=>a=r∨a=d) (ai (λz=>z.elim (λz=>hrw z.symm) (λz=>hdw z.symm)) hw) (ai (λz=>z.elim (λz=>hrb z.symm) (λz=>hdb z.symm)) hb) ⟨V3,V4⟩ (ok.pre m0 m1) hk).XW λJ3 S6 W3=>?_
  lk
  exact⟨rfl,S4.Xi S6,W3,R2.keep λa c h e=>S6.at h e⟩
 have pb:(e.pre (f i) bit).made=e.made:=by unfold ES.pre;split<;>rfl
 refine aK (λh=>?_) (λh=>?_);·lk;refine(tail _ (S.upd hw _) ⟨(aa _ _ _).trans ?_,(ag _ _ hwb.symm).trans (by rw[pb];exact W.2)⟩ (R.upd hrw hdw)).Wq (MC _) λg g q=>fD q rfl;unfold ES.pre;rw[if_pos h];rfl
 ·lk;refine(tail _ (S.upd hw _) ⟨(aa _ _ _).trans ?_,(ag _ _ hwb.symm).trans (by rw[pb];exact W.2)⟩ (R.upd hrw hdw)).Wq (MC _) λg g q=>fD q rfl;unfold ES.pre;rw[if_neg h];rfl
end
structure Rows where
 ra:Nat->Mk
 da:Nat->Mk
 len:Nat->Nat
inductive Rows.Apt(A:Rows):Prop where
 |mk(rr:∀i j,i<18->j<18->i≠j->A.ra i≠A.ra j)
  (rd:∀i j,i<18->j<18->i≠j->A.ra i≠A.da j)
  (dd:∀i j,i<18->j<18->i≠j->A.da i≠A.da j)
  (small:∀j,A.len j<1000000)
noncomputable def uu(C:Nat->Int->Int)(j:Nat)(i v:Int):Nat->Int->Int:=λj'=>if j'=j then put (C j) i v else C j'
noncomputable def oJ(C:Nat->Int->Int):Prop:=∀j i,31<=C j i/\C j i<=2017
theorem mQ{m b:Int}(h:31<=m/\m<=2017):31<=Xu m b/\Xu m b<=2017:=by obtain⟨h,k⟩:=h;unfold Xu;split<;>constructor<;>lia
variable{v:Int}{C:Nat->Int->Int}
theorem oJ.up(h:oJ C)(j:Nat)(i:Int)(hv:31<=v/\v<=2017):oJ (uu C j i v):=λj' i'=>by
 unfold uu put;split
 ·dsimp only;split;·exact hv
  ·exact h _ _
 ·exact h _ _
noncomputable def aD(J:Sg)(A:Rows)(C:Nat->Int->Int):Prop:=∀j,j<18->Row J (A.ra j) (A.da j) (A.len j) (C j)
noncomputable def Off(H:Sg)(A:Rows):Prop:=∀j,j<18->H (A.ra j)=Mq/\H (A.da j)=Mq
inductive Ev where
 |bit(j:Nat)(i b:Int)
 |dir(b:Int)
abbrev CS:=ES×(Nat->Int->Int)
noncomputable def dq(s:CS):Ev->CS
 |.bit j i b=>(s.1.bit (s.2 j i) b,uu s.2 j i (Xu (s.2 j i) b))
 |.dir b=>(s.1.dir b,s.2)
noncomputable def ah(s:CS)(l:List Ev):CS:=l.foldl dq s
theorem dk(s:CS):ah s []=s:=rfl
theorem aA(s:CS)(v:Ev)(l:List Ev):ah s (v::l)=ah (dq s v) l:=rfl
theorem bx(s:CS)(l l':List Ev):ah s (l++l')=ah (ah s l) l':=Th ..
inductive WS(H J:Sg)(A:Rows)(w b:Mk)(s:CS)(k:Nat):Prop where
 |mk(sub:Sub H J)
  (rows:aD J A s.2)
  (wri:vw J w b s.1 Mg)
  (hw:H w=Mq)
  (hb:H b=Mq)
  (off:Off H A)
  (apt:A.Apt)
  (ok:s.1.Ok k)
  (mok:oJ s.2)
variable{A:Rows}{s:CS}{t'':Nat}
theorem aW(G:Good Z Kg)(hn:4<=n)(W:WS H J A w b s k)(hk:k<=900)(hj:j<18){bit:Int}(i0:0<=i)(i1:i<A.len j)(hbit:bit=0∨bit=1):ac Z n (.ref 1057) [.ref w,.ref (A.ra j),.int i t,.int bit t'] J (λv J'=>v=.none/\WS H J' A w b (dq s (.bit j i bit)) (k+1)):=by
 obtain⟨sub,rows,wri,hw,hb,off,apt,ok,mok⟩:=W;have m:=mok j i;have hne:∀l,l<18->l≠j->∀a,(a=A.ra l∨a=A.da l)->a≠A.ra j/\a≠A.da j:=by
  rintro l hl hlj a (rfl|rfl);·exact⟨apt.1 _ _ hl hj hlj,apt.2 _ _ hl hj hlj⟩
  ·exact⟨λz=>apt.2 _ _ hj hl (Qi hlj) z.symm,apt.3 _ _ hl hj hlj⟩
 have P:∀l,l<18->∀a,(a=A.ra l∨a=A.da l)->a≠w/\a≠b:=λl hl a ha=>by
  have h1:=(rows l hl).neI wri.1 (by decide);have h2:=(rows l hl).neB wri.2;rcases ha with rfl|rfl
  ·exact⟨h1.1,h2.1⟩
  ·exact⟨h1.2,h2.2⟩
 refine(zn G hn (sub.WT λa=>∃l,l<18/\l≠j/\(a=A.ra l∨a=A.da l)) (ai (λz=>ae z λl z=>(P l z.1 w z.2.2).1 rfl) hw) (ai (λz=>ae z λl z=>(P l z.1 b z.2.2).2 rfl) hb) wri ok hk (rows j hj)
  (ai (λz=>ae z λl z=>(hne l z.1 z.2.1 _ z.2.2).1 rfl) (off j hj).1) (ai (λz=>ae z λl z=>(hne l z.1 z.2.1 _ z.2.2).2 rfl) (off j hj).2) i0 i1 (apt.4 j) hbit (af K6 [_] [] m) (af K1 [_] [] m)).Wr λJ' r1=>?_
 refine⟨rfl,sub.Xi r1.1,λl hl=>?_,r1.2.1,hw,hb,off,apt,(ok.pre (af K6 [_] [] m) (af K1 [_] [] m)).fill,mok.up j i (mQ m)⟩;by_cases hlj:l=j;·subst hlj;show Row J' _ _ _ (uu s.2 l i _ l);unfold uu;rw[if_pos rfl];exact r1.2.2
 ·show Row J' _ _ _ (uu s.2 j i _ l);unfold uu;rw[if_neg hlj];exact(rows l hl).keep λa c h e=>r1.1.at ⟨l,hl,hlj,h⟩ e
theorem dY(G:Good Z Kg)(hn:0<n){c:Nat}(h0:0<=v)(h1:v<2^c)(hc:c<=1000):ac Z n (.ref 930) [.int v t,.int c t'] J (λr J'=>r=.none/\J=J'):=by refine run G hn ?_;lk;refine bQ (λh=>Ce 0x861080007ae290e [] [_] h) (λa=>?_);lk;refine jL (λa=>?_) (λh=>absurd h0 h);lk;rw[show((c:Int)).toNat=c from MN c];refine bQ (λa=>?_) (λh=>absurd (af 0x8400027304874c092091b [_,_] [] h1) h);lk;exact⟨rfl,rfl⟩
noncomputable def az(j:Nat)(start:Int):Nat->Int->Int->List Ev
 |0,_,_=>[]
 |c+1,node,v=>.bit j (start+node) (v/2^c%2)::az j start c (node*2+v/2^c%2) v
noncomputable def dy(j:Nat)(start:Int):Nat->Int->Int->List Ev
 |0,_,_=>[]
 |c+1,node,v=>.bit j (start+node) (v%2)::dy j start c (node*2+v%2) (v/2)
noncomputable def dK:Nat->Int->List Ev
 |0,_=>[]
 |c+1,v=>.dir (v/2^c%2)::dK c v
theorem lL{c:Nat}(hc:c<=60):(2:Int)^c<=1152921504606846976:=by
 have:=Pg (n:=2) (by decide) hc;have e:((2^c:Nat):Int)=2^c:=by simp
 exact nA this
theorem cq(x:Int):x%2=0∨x%2=1:=by lia
theorem gM{a b:Int}(ha:0<=a)(hb:b=0∨b=1):Ob (a*2^Pa 1) b=a*2+b:=by have:=o9 (k:=1) ha (b:=b) (by lia) (by lia);exact this
theorem jB(G:Good Z Kg)(hn:5<=n)(W:WS H J A w b s k){c:Nat}(hc:c<=60)(hk:k+c<=900)(hj:j<18){start:Int}(s0:0<=start)(s1:start+2^c<=A.len j)(v0:0<=v)(v1:v<2^c):ac Z n (.ref 1071) [.ref w,.ref (A.ra j),.int start t,.int c t',.int v t''] J (λr J'=>r=.none/\WS H J' A w b (ah s (az j start c 1 v)) (k+c)):=by
 have Ww:=W.3.1;refine run G (lq hn rfl) ?_;lk;refine((dY G (lp hn rfl) v0 v1 (db hc rfl))).k01 ?_;lk;refine lg (λnode d d=>[(JL,.ref w),(Js,.ref (A.ra j)),(JE,.int start t),(Kc,.int v t''),(Ka,.int node 0)]) (λm node s' k' J'=>WS H J' A w b s' k'/\ah s' (az j start m node v)=ah s (az j start c 1 v)/\k'+m=k+c/\1<=node/\(node+1)*2^m<=2^(c+1)) 1 s k (db hc rfl) ⟨W,rfl,rfl,by decide,by rw[NL];lia⟩ rfl ?_ ?_
 ·intro m node s' k' J' Q' hm z2 hnext _;have W':=z2.1;have e:=z2.2.1;have ek:=z2.2.2.1;have n1:=z2.2.2.2.1;have n2:=z2.2.2.2.2;have Ww:=W'.3.1;have hp:(0:Int)<2^m:=NU (by decide);have hp':(2:Int)^(m+1)=2^m*2:=NL ..;have hq:(2:Int)^(c+1)=2^c*2:=NL ..;lk;rw[show((m:Int)).toNat=m from MN m,js (Oa v0 (Nl hp))];have hb01:=cq (v/2^m);have h60:=lL hc;have hnl:node<2^c:=by
   have h2:(node+1)*2^m*2<=2^c*2:=by rw[<-hq,Nk,<-hp'];exact n2
   have h3:(node+1)*1<=(node+1)*2^m:=Nr hp (af 0x1080004f0200e882c0818 [_] [] n1);exact ao 0x841840023f18882ce8d829848921116260ba6090e [_,_,_] [] h2 h3
  lk;refine(aW (n:=n-1) G (lp hn rfl) W' (ao KK [] [_,_,_,_] hk ek) hj (ao KD [_,_] [] s0 n1) (ao KU [_,_,_] [_] s1 hnl) hb01).Wr λJ2 W2=>?_;lk;rw[gM (a:=node) (r9 n1 rfl) hb01];lk;refine hnext (node*2+v/2^m%2) _ _ ⟨W2,e,af KW [] [_,_,_,_] ek,ao KH [_,_] [] n1 (vy _ rfl),?_⟩ rfl;have h4:(node*2+v/2^m%2+1)*2^m<=(node+1)*2*2^m:=Pw (af 0x4200013848844a11059d2261061edc7484e [_,_] [] (Bi _ rfl)) (Nl hp);have h5:(node+1)*2*2^m=(node+1)*2^(m+1):=by rw[hp',Nk,NX 2]
  exact aS 0x42284308000a6391509e6080f988a04a6080e [_,_,_,_] [] n2 h4 h5
 ·intro node s' k' J' z1;have W':=z1.1;have e:=z1.2.1;have ek:=z1.2.2.1;lk;have e2:s'=ah s (az j start c 1 v):=e;refine⟨rfl,?_⟩;rw[<-e2,show k+c=k' from ek.symm];exact W'
variable{x node:Int}{J1:Sg}
theorem YB{c m:Nat}(hx:x=0∨x=1)(n1:1<=node)(n2:(node+1)*2^(m+1)<=2^(c+1)):node<2^c/\(node*2+x+1)*2^m<=2^(c+1):=by
 have hp:(0:Int)<2^m:=NU (by decide);have hp':(2:Int)^(m+1)=2^m*2:=NL ..;have hq:(2:Int)^(c+1)=2^c*2:=NL ..;refine⟨?_,?_⟩
 ·have h2:(node+1)*2^m*2<=2^c*2:=by rw[<-hq,Nk,<-hp'];exact n2
  have h3:(node+1)*1<=(node+1)*2^m:=Nr hp (af 0x1080004f0200e882c0818 [_] [] n1);exact ao 0x841840023f18882ce8d829848921116260ba6090e [_,_,_] [] h2 h3
 ·have h4:(node*2+x+1)*2^m<=(node+1)*2*2^m:=Pw (by lia) (Nl hp);have h5:(node+1)*2*2^m=(node+1)*2^(m+1):=by rw[hp',Nk,NX 2]
  exact aS 0x42284308000a6391509e6080f988a04a6080e [_,_,_,_] [] n2 h4 h5
theorem gz(v:Int)(m:Nat):v/2^m/2=v/2^(m+1):=by have hp:(0:Int)<2^m:=NU (by decide);rw[NL,Int.ediv_ediv,if_neg (λh=>absurd h.1 (by lia)),Uc]
theorem tB(G:Good Z Kg)(hn:5<=n)(W:WS H J A w b s k){c:Nat}(hc:c<=60)(hk:k+c<=900)(hj:j<18){start:Int}(s0:0<=start)(s1:start+2^c<=A.len j)(v0:0<=v)(v1:v<2^c):ac Z n (.ref 1078) [.ref w,.ref (A.ra j),.int start t,.int c t',.int v t''] J (λr J'=>r=.none/\WS H J' A w b (ah s (dy j start c 1 v)) (k+c)):=by
 have Ww:=W.3.1;refine run G (lq hn rfl) ?_;lk;refine((dY G (lp hn rfl) v0 v1 (db hc rfl))).k01 ?_;lk;refine fF (λnode d d=>[(JL,.ref w),(Js,.ref (A.ra j)),(JE,.int start t),(Kc,.int v t''),(Ka,.int node 0)]) (λm node s' k' J'=>m<=c/\WS H J' A w b s' k'/\ah s' (dy j start (c-m) node (v/2^m))=ah s (dy j start c 1 v)/\k'+(c-m)=k+c/\1<=node/\(node+1)*2^(c-m)<=2^(c+1)) 1 s k (c:=c) (db hc rfl) ⟨Nb _,W,by rw[N9,OY];rfl,rfl,by decide,by rw[NL];show 2*2^c<=_;exact ck 0xc20cc0587827 [_] []⟩ rfl ?_ ?_;·intro m node s' k' J' Q' hm r1 hnext _;have W':=r1.2.1;have e:=r1.2.2.1;have ek:=r1.2.2.2.1;have n1:=r1.2.2.2.2.1;have n2:=r1.2.2.2.2.2;obtain⟨l,hl⟩:∃l,c-m=l+1:=⟨c-m-1,af Kx [] [_,_] (Me (ao KL [] [_,_,_] hm (Me (af Kw [] [_,_] hm))))⟩;have hl':c-(m+1)=l:=aS Kv [] [_,_,_,_,_] hl (Me (af KA [] [_,_] hm)) (Me (af Kw [] [_,_] hm));rw[hl] at e n2 ek;have Ww:=W'.3.1;have hp:(0:Int)<2^m:=NU (by decide);lk;rw[show((m:Int)).toNat=m from MN m,js (Oa v0 (Nl hp))];have hb01:=cq (v/2^m);have h60:=lL hc;obtain z4:=YB hb01 n1 n2;have hnl:=z4.1;have hst:=z4.2;lk;refine(aW (n:=n-1) G (lp hn rfl) W' (ao KK [] [_,_,_,_] hk ek) hj (ao KD [_,_] [] s0 n1) (ao KU [_,_,_] [_] s1 hnl) hb01).Wr λJ2 r2=>?_;have W2:=r2;lk;rw[gM (a:=node) (r9 n1 rfl) hb01];lk;refine hnext (node*2+v/2^m%2) _ _ ⟨hm,W2,?_,ao 0x108e10800f422840003d150944f5215c4433826f53ad48575104cf6e538 [] [_,_,_,_,_] ek hl',ao KH [_,_] [] n1 (vy _ rfl),by rw[hl'];exact hst⟩ rfl;rw[hl',<-gz];exact e
 ·intro node s' k' J' r3;have W':=r3.2.1;have e:=r3.2.2.1;have ek:=r3.2.2.2.1;have n1:=r3.2.2.2.2.1;have n2:=r3.2.2.2.2.2;lk;rw[Nq] at e ek;have e2:s'=ah s (dy j start c 1 v):=e;refine⟨rfl,?_⟩;rw[<-e2,show k+c=k' from ek.symm];exact W'
theorem yN(G:Good Z Kg)(hn:2<=n)(W:WS H J A w b s k)(hk:k<=900)(h:J1=upd J w (.Wu 1095 [(JI,.ref b),(LO,.int (s.1.WD x).low 0),(JD,.int (s.1.WD x).span 0),(JF,.int (s.1.WD x).cache 0),(JH,.int (s.1.WD x).held 0),(JG,.bool Mg)])):ac Z n (.ref 1043) [.ref w] J1 (λv J'=>v=.none/\WS H J' A w b (dq s (.dir x)) (k+1)):=by
 obtain⟨sub,rows,wri,hw,hb,off,apt,ok,mok⟩:=W;have hwb:w≠b:=mf wri.1 wri.2 rfl;have P:∀l,l<18->∀a,(a=A.ra l∨a=A.da l)->a≠w/\a≠b:=λl hl a ha=>by
  have h1:=(rows l hl).neI wri.1 (by decide);have h2:=(rows l hl).neB wri.2;rcases ha with rfl|rfl
  ·exact⟨h1.1,h2.1⟩
  ·exact⟨h1.2,h2.2⟩
 have pb:(s.1.WD x).made=s.1.made:=by unfold ES.WD;split<;>rfl
 have sub1:Sub H J1:=by rw[h];exact sub.upd hw _
 have rows1:aD J1 A s.2:=λl hl=>by rw[h];exact(rows l hl).upd (P l hl _ (.inl rfl)).1 (P l hl _ (.inr rfl)).1
 refine(qj G hn (sub1.WT λa=>∃l,l<18/\(a=A.ra l∨a=A.da l)) (ai (λz=>ae z λl z=>(P l z.1 w z.2).1 rfl) hw) (ai (λz=>ae z λl z=>(P l z.1 b z.2).2 rfl) hb) (e:=s.1.WD x) (cl:=Mg)
  ⟨by rw[h];exact aa _ _ _,by rw[h,ag _ _ hwb.symm,pb];exact wri.2⟩ ok.WD hk).Wr λJ' r4=>?_
 have W':=r4.2;exact⟨rfl,sub1.Xi r4.1,λl hl=>(rows1 l hl).keep λa c h e=>r4.1.at ⟨l,hl,h⟩ e,W',hw,hb,off,apt,ok.WD.fill,mok⟩
theorem yQ(G:Good Z Kg)(hn:5<=n)(W:WS H J A w b s k){c:Nat}(hc:c<=60)(hk:k+c<=900)(v0:0<=v)(v1:v<2^c):ac Z n (.ref 1064) [.ref w,.int c t',.int v t''] J (λr J'=>r=.none/\WS H J' A w b (ah s (dK c v)) (k+c)):=by
 have Ww:=W.3.1;refine run G (lq hn rfl) ?_;lk;refine((dY G (lp hn rfl) v0 v1 (db hc rfl))).k01 ?_;lk;refine((jf (n:=n-1) G (lp hn rfl) W.3)).k01 ?_;lk;refine lg (λ_ _ (_:Unit)=>[(JL,.ref w),(Kc,.int v t'')]) (λm s' k' a J'=>WS H J' A w b s' k'/\ah s' (dK m v)=ah s (dK c v)/\k'+m=k+c) s k () (c:=c) (db hc rfl) ⟨W,rfl,rfl⟩ rfl ?_ ?_
 ·intro m s' k' _ J' Q' hm z2 hnext _;have W':=z2.1;have e:=z2.2.1;have ek:=z2.2.2;have Ww:=W'.3.1;have hp:(0:Int)<2^m:=NU (by decide);lk;rw[FD,show((m:Int)).toNat=m from MN m,js (Oa v0 (Nl hp))];have hb01:=cq (v/2^m);have tail:∀J1,J1=upd J' w (.Wu 1095 [(JI,.ref b),(LO,.int (s'.1.WD (v/2^m%2)).low 0),(JD,.int (s'.1.WD (v/2^m%2)).span 0),(JF,.int (s'.1.WD (v/2^m%2)).cache 0),(JH,.int (s'.1.WD (v/2^m%2)).held 0),(JG,.bool Mg)])->
    ac Z (n-1) (.ref 1043) [.ref w] J1 (λu J2=>X Z (n-1) Q' [] J2 [(JL,.ref w),(Kc,.int v t'')] [u] (.pop .Wy)):=by
   intro J1 h1
   refine(yN (n:=n-1) G (lp hn rfl) W' (ao KK [] [_,_,_,_] hk ek) h1).Wr λJ2 W2=>?_
   lk
   refine hnext _ _ () ⟨W2,e,af KW [] [_,_,_,_] ek⟩ rfl
  refine aK (λh=>?_) (λh=>?_);·lk;refine(tail _ ?_).Wq (MC _) λa a q=>fD q rfl;unfold ES.WD;rw[if_pos h];rfl
  ·lk;refine(tail _ ?_).Wq (MC _) λa a q=>fD q rfl;unfold ES.WD;rw[if_neg h];rfl
 ·intro s' k' _ J' z1;have W':=z1.1;have e:=z1.2.1;have ek:=z1.2.2;lk;have e2:s'=ah s (dK c v):=e;refine⟨rfl,?_⟩;rw[<-e2,show k+c=k' from ek.symm];exact W'
structure MA where
 m:Mk
 p:Mk
 l1:Mk
 l2:Mk
 lc:Nat
 lp:Nat
 pb:Nat
noncomputable def sY(pb:Nat)(w:Nat->Md)(o:Nat):Cell:=.Wu 293 [(LY,.int (2^pb) 0),(LC,w o),(LO,w (o+1)),(7170404,w (o+2)),(Lg,w (o+3))]
noncomputable def yP(lc lp pb:Nat):Cell:=.Wu 209 [(27747,.int lc 0),(27760,.int lp 0),(28770,.int pb 0)]
noncomputable def Ck(B:MA)(w:Nat->Md):Cell:=.Wu 349 [(Jm,.ref B.p),(LL,w 0),(LT,w 1),(Jh,w 2),(Jj,w 3),(Jk,w 4),(Ji,w 5),(Jo,w 6),(Jp,w 7),(Mb,w 8),(IC,w 9),(Jl,.ref B.l1),(Jn,.ref B.l2)]
noncomputable def wa(A:Rows)(j:Nat):Value:=.ref (A.ra j)
noncomputable def WL(B:MA):List Nat:=[192,12,12,12,12,192,256,115,16,768*2^(B.lc+B.lp),2,8*2^B.pb,8*2^B.pb,256,2,8*2^B.pb,8*2^B.pb,256]
inductive aj(H:Sg)(A:Rows)(B:MA):Prop where
 |mk (m:H B.m=Mc (Ck B (wa A)))
  (p:H B.p=Mc (yP B.lc B.lp B.pb))
  (l1:H B.l1=Mc (sY B.pb (wa A) 10))
  (l2:H B.l2=Mc (sY B.pb (wa A) 14))
  (lc:B.lc<=1)
  (lp:B.lp<=1)
  (pb:B.pb<=4)
  (ln:∀j,j<18->A.len j=(WL B).getD j 0)
variable{B:MA}
section
variable(M:aj H A B)
include M
theorem aj.n0:A.len 0=192:=M.8 0 (by decide)
theorem aj.n1:A.len 1=12:=M.8 1 (by decide)
theorem aj.n2:A.len 2=12:=M.8 2 (by decide)
theorem aj.n3:A.len 3=12:=M.8 3 (by decide)
theorem aj.n4:A.len 4=12:=M.8 4 (by decide)
theorem aj.n5:A.len 5=192:=M.8 5 (by decide)
theorem aj.n6:A.len 6=256:=M.8 6 (by decide)
theorem aj.n7:A.len 7=115:=M.8 7 (by decide)
theorem aj.n8:A.len 8=16:=M.8 8 (by decide)
theorem aj.n9:A.len 9=768*2^(B.lc+B.lp):=M.8 9 (by decide)
theorem aj.n10:A.len 10=2:=M.8 10 (by decide)
theorem aj.n11:A.len 11=8*2^B.pb:=M.8 11 (by decide)
theorem aj.n12:A.len 12=8*2^B.pb:=M.8 12 (by decide)
theorem aj.n13:A.len 13=256:=M.8 13 (by decide)
theorem aj.n14:A.len 14=2:=M.8 14 (by decide)
theorem aj.n15:A.len 15=8*2^B.pb:=M.8 15 (by decide)
theorem aj.n16:A.len 16=8*2^B.pb:=M.8 16 (by decide)
theorem aj.n17:A.len 17=256:=M.8 17 (by decide)
end
noncomputable def MA.cell(B:MA)(state place:Int):Int:=state*16+place%2^B.pb
noncomputable def MA.lit(B:MA)(place before:Int):Int:=768*(place%2^B.lp*2^B.lc+before/2^(8-B.lc))
noncomputable def cy(length:Int):Int:=64*(if 3<length-2 then 3 else length-2)
noncomputable def bD(slot:Int):Int×Int:=if slot<4 then(0,slot) else(slot/2-1,(2+slot%2)*2^(slot/2-1).toNat)
noncomputable def aR(distance:Int):Int×Int×Int:=if distance-1<4 then(distance-1,0,distance-1) else
 (2*((distance-1).toNat.log2:Int)+(distance-1)/2^((distance-1).toNat.log2-1)%2,bD (2*((distance-1).toNat.log2:Int)+(distance-1)/2^((distance-1).toNat.log2-1)%2))
variable{place state length slot before distance:Int}
theorem dh{m:Nat}(h:m<=4):(1:Int)<=2^m/\(2:Int)^m<=16:=by
 have:m=0∨m=1∨m=2∨m=3∨m=4:=by lia
 rcases this with rfl|rfl|rfl|rfl|rfl<;>decide
theorem cI(G:Good Z Kg)(hn:0<n)(S:Sub H J)(M:aj H A B)(h0:0<=place):ac Z n (.ref 206) [.ref B.p,.int place t] J (λv J'=>v=.int (place%2^B.pb) 0/\J=J'):=by have hp:=S _ _ M.2;have:=M.7;refine run G hn ?_;lk;rw[MN,Py,eJ h0];lk;exact⟨rfl,rfl⟩
theorem c4(G:Good Z Kg)(hn:2<=n)(S:Sub H J)(M:aj H A B)(h0:0<=place):ac Z n (.ref 325) [.ref B.m,.int state t,.int place t'] J (λv J'=>v=.int (B.cell state place) 0/\J=J'):=by have hm:=S _ _ M.1;have hp:=S _ _ M.2;refine run G (lq hn rfl) ?_;lk;refine((cI (n:=n-1) G (lp hn rfl) S M h0)).k01 ?_;lk;exact⟨rfl,rfl⟩
theorem kU(G:Good Z Kg)(hn:0<n):ac Z n (.ref 255) [.int length t] J (λv J'=>v=.int (if 3<length-2 then 3 else length-2) 0/\J=J'):=by refine run G hn ?_;lk;exact⟨rfl,rfl⟩
theorem ix(G:Good Z Kg)(hn:2<=n){m:Md}(h:2<=length):ac Z n (.ref 332) [m,.int length t] J (λv J'=>v=.int (cy length) 0/\J=J'):=by refine run G (lq hn rfl) ?_;lk;refine((kU (n:=n-1) G (lp hn rfl))).k01 ?_;lk;exact⟨rfl,rfl⟩
theorem gd(G:Good Z Kg)(hn:0<n):ac Z n (.ref 248) [.int state t] J (λv J'=>v=.bool (M0 (state<7))/\J=J'):=by refine run G hn ?_;lk;refine tV ?_;lk;exact⟨rfl,rfl⟩
theorem fH(G:Good Z Kg)(hn:0<n)(h0:0<=slot)(h1:slot<=63):ac Z n (.ref 262) [.int slot 0] J (λv J'=>∃x,J x=Mq/\v=.ref x/\J'=upd J x (.tup [.int (bD slot).1 0,.int (bD slot).2 0])):=by
 refine run G hn ?_;lk;refine bQ (λh=>?_) (λh=>?_);·lk;intro x hx;lk;refine⟨x,hx,rfl,?_⟩;unfold bD;rw[if_pos h]
 ·lk;rw[FD,js h0];have e2:Ob 2 (slot%2)=2+slot%2:=by have:=o9 (a:=1) (k:=1) (by decide) (b:=slot%2) (Nv _ (by decide)) (Ni _ (by decide));exact this
  lk;rw[e2];lk;intro x hx;lk;refine⟨x,hx,rfl,?_⟩;unfold bD;rw[if_neg h]
theorem eC(G:Good Z Kg)(hn:2<=n){m:Md}(h0:0<=slot)(h1:slot<=63):ac Z n (.ref 339) [m,.int slot 0] J (λv J'=>v=.int ((bD slot).2-slot) 0/\bM λx c=>J x=Mq/\J'=upd J x c):=by refine run G (lq hn rfl) ?_;lk;refine(fH (n:=n-1) G (lp hn rfl) h0 h1).kst λx z6=>?_;refine dQ ?_ (aa _ _ _) rfl;lk;exact⟨rfl,x,_,z6,rfl⟩
theorem e7(G:Good Z Kg)(hn:0<n)(S:Sub H J)(M:aj H A B)(h0:0<=place)(b0:0<=before):ac Z n (.ref 346) [.ref B.m,.int place t,.int before t'] J (λv J'=>v=.int (B.lit place before) 0/\J=J'):=by have hm:=S _ _ M.1;have hp:=S _ _ M.2;have q1:=M.6;have q2:=M.5;have z1:=dh (m:=B.lp) (db q1 rfl);have z2:=dh (m:=B.lc) (db q2 rfl);refine run G hn ?_;lk;rw[MN,Py,eJ h0];have z3:0<=place%2^B.lp:=Nv _ (λzz=>fb K7 [_] [] zz z1);have z4:=Ni place z1.1;have y1:=z1.2;lk;rw[MN,show((8:Int)-(B.lc:Int)).toNat=8-B.lc from aS 0x108e10000f424842003d0254234a914bc01edc544d797803d601354150f [] [_,_,_] (Nh _) (ME (af 0x1080004e20987de00f4081f [] [_] q2)) (Me (af 0x8400027104c3e041312 [] [_] q2))];lk;exact⟨rfl,rfl⟩
theorem tQ{x:Nat}(h:x<2^32)(h0:x≠0):x.log2<=31:=by have:=(UK h0).mpr h;exact af 0x2100009c020a0a7c41313 [] [_] this
theorem sr(G:Good Z Kg)(hn:2<=n)(h0:1<=distance)(h1:distance<=2^32):ac Z n (.ref 269) [.int distance 0] J (λv J'=>∃x,v=.ref x/\J' x=Mc (.tup [.int (aR distance).1 0,.int (aR distance).2.1 0,.int (aR distance).2.2 0])/\Sub J J'):=by
 refine run G (lq hn rfl) ?_;lk;refine bQ (λh=>?_) (λh=>?_);·lk;intro x hx;lk;refine⟨x,rfl,?_,Sub.rfl.upd hx _⟩;unfold aR;rw[if_pos h];exact aa _ _ _
 ·lk;refine Df (af 0x42000138220d38e2088340918 [_] [] h) ?_;have hl:=tQ (x:=(distance-1).toNat) (aS 0x42384308000a600000000244463106dc5439304074000000004142f [_,_] [_] h1 (ME (af 0x42000138220d38e2088340818 [_] [] h)) vK) (λzz=>CF 0x84708a100014de20d380e411069c7104150b [_] [_] zz h (Nh _));have hl1:2<=(distance-1).toNat.log2:=(Nat.le_log2 (λzz=>CF 0x84708a100014de20d380e411069c7104150b [_] [_] zz h (Nh _))).mpr (ao 0x421840003d78834e0390441a71c41403311 [_] [_] h (Nh _));generalize hg:(distance-1).toNat.log2=g at*;lk;have e1:((g:Int)+1-1)=g:=ck 0x403788b8ad2afa2d [] [_];have e2:((g:Int)-1).toNat=g-1:=aS 0x847080007a12421001e94508d1a3f12e45b8a88ef12e455411d4150f [] [_,_,_] (Nh _) (ME (af 0x4200013a02b108b8b4081c [] [_] hl1)) (Me (af LP [] [_] hl1));rw[e1,e2,js (Oa (by lia) (Nl (NU (by decide))))];have hb:=cq ((distance-1)/2^(g-1));refine(fH (n:=n-1) G (lp hn rfl) (by exact ao 0x1086100007e0405d015886f01626c0827 [_] [_] hl1 (vy _ rfl)) (by lia)).kst λx z5=>?_;refine dQ ?_ (aa _ _ _) rfl;lk;intro y hy;lk;refine⟨y,rfl,(aa _ _ _).trans ?_,(Sub.rfl.upd z5 _).upd ((Sub.rfl.upd z5 _).none hy) _⟩;unfold aR;rw[if_neg h,hg]
noncomputable def bU(start:Int):Nat->Int->Int->Int->List Ev
 |0,_,_,_=>[]
 |c+1,node,o,m=>.bit 9 (start+(1+m/2^c%2)*256+node) (o/2^c%2)::if o/2^c%2=m/2^c%2 then bU start c (node*2+o/2^c%2) o m else az 9 start c (node*2+o/2^c%2) o
theorem fA(start:Int)(c:Nat)(node o m:Int):bU start (c+1) node o m=.bit 9 (start+(1+m/2^c%2)*256+node) (o/2^c%2)::if o/2^c%2=m/2^c%2 then bU start c (node*2+o/2^c%2) o m else az 9 start c (node*2+o/2^c%2) o:=rfl
noncomputable def ct(j:Nat)(row length:Int):List Ev:=
 if length-2<8 then .bit j 0 0::az (j+1) row 3 1 (length-2)
 else .bit j 0 1::if length-2<16 then .bit j 1 0::az (j+2) row 3 1 (length-2-8) else .bit j 1 1::az (j+3) 0 8 1 (length-2-16)
noncomputable def bP(distance length:Int):List Ev:=
 az 6 (cy length) 6 1 (aR distance).1++
  if(aR distance).2.1=0 then[] else
   if(aR distance).1<14 then dy 7 ((bD (aR distance).1).2-(aR distance).1) (aR distance).2.1.toNat 1 (distance-1-(aR distance).2.2)
   else dK ((aR distance).2.1-4).toNat ((distance-1-(aR distance).2.2)/16)++dy 8 0 4 1 ((distance-1-(aR distance).2.2)%16)
noncomputable def MA.Xo(B:MA)(state place before octet matched:Int):List Ev:=
 .bit 0 (B.cell state place) 0::if state<7 then az 9 (B.lit place before) 8 1 octet else bU (B.lit place before) 8 1 octet matched
noncomputable def MA.WV(B:MA)(state place distance length:Int):List Ev:=
 .bit 0 (B.cell state place) 1::.bit 1 state 0::(ct 10 (8*(place%2^B.pb)) length++bP distance length)
noncomputable def MA.Xf(B:MA)(state place index:Int):List Ev:=
 if index=0 then[.bit 2 state 0,.bit 5 (B.cell state place) 1] else
  .bit 2 state 1::if index=1 then[.bit 3 state 0] else[.bit 3 state 1,.bit 4 state (index-2)]
noncomputable def MA.XY(B:MA)(state place index length:Int):List Ev:=
 .bit 0 (B.cell state place) 1::.bit 1 state 1::(B.Xf state place index++ct 14 (8*(place%2^B.pb)) length)
noncomputable def MA.Xs(B:MA)(state place:Int):List Ev:=
 [.bit 0 (B.cell state place) 1,.bit 1 state 1,.bit 2 state 0,.bit 5 (B.cell state place) 0]
inductive yr(H:Sg)(y:Mk)(m w:Mk)(pl stt:Int)(rp:Mk):Prop where
 |mk (o:H y=Mc (.Wu 822 [(Js,.ref m),(Jy,.ref w),(Ju,.int pl 0),(Jw,.int stt 0),(Jv,.ref rp)]))
variable{y rp:Mk}{pl stt octet mt':Int}
theorem jr(G:Good Z Kg)(hn:5<=n)(W:WS H J A w b s k)(M:aj H A B)(Y:yr H y B.m w pl stt rp){c d:Nat}(hd:d<=8)(hk:k+c<=900){start:Int}(s0:0<=start)(s1:start+2^d<=A.len 9)(n0:1<=node)(n9:(node+1)*2^c<=2^(d+1))(hc:c<=8)(v0:0<=octet):ac Z n (.ref 644) [.ref y,.int start 0,.int node 0,.int octet 0,.int c 0] J (λr J'=>r=.none/\WS H J' A w b (ah s (az 9 start c node octet)) (k+c)):=by
 refine run G (lq hn rfl) ?_;lk;refine lg (λnode' a a=>[(JL,.ref y),(JE,.int start 0),(IB,.int octet 0),(Ka,.int node' 0)]) (λm node' s' k' J'=>WS H J' A w b s' k'/\ah s' (az 9 start m node' octet)=ah s (az 9 start c node octet)/\k'+m=k+c/\1<=node'/\(node'+1)*2^m<=2^(d+1)) node s k (c:=c) (db hc rfl) ⟨W,rfl,rfl,n0,n9⟩ rfl ?_ ?_;·intro m node' s' k' J' Q' hm z6 hnext _;have W':=z6.1;have e:=z6.2.1;have ek:=z6.2.2.1;have n1:=z6.2.2.2.1;have n2:=z6.2.2.2.2;have Ww:=W'.3.1;have Yy:=W'.1 _ _ Y.1;have Mm:=W'.1 _ _ M.1;have hp:(0:Int)<2^m:=NU (by decide);lk;rw[MN,js (Oa v0 (Nl hp))];have hb01:=cq (octet/2^m);obtain z5:=YB hb01 n1 n2;have hnl:=z5.1;have hst:=z5.2;lk;refine(aW (n:=n-1) G (lp hn rfl) W' (ao KK [] [_,_,_,_] hk ek) (Mr _ _) (ao KD [_,_] [] s0 n1) (ao KU [_,_,_] [_] s1 hnl) hb01).Wr λJ2 W2=>?_;lk;rw[NX 2 node'];refine hnext _ _ _ ⟨W2,e,af KW [] [_,_,_,_] ek,ao KH [_,_] [] n1 (vy _ rfl),hst⟩ rfl
 ·intro node' s' k' J' z4;have W':=z4.1;have e:=z4.2.1;have ek:=z4.2.2.1;have n1:=z4.2.2.2.1;have n2:=z4.2.2.2.2;lk;have e2:s'=ah s (az 9 start c node octet):=e;refine⟨rfl,?_⟩;rw[<-e2,show k+c=k' from ek.symm];exact W'
theorem nk(G:Good Z Kg)(hn:6<=n)(W:WS H J A w b s k)(M:aj H A B)(Y:yr H y B.m w pl stt rp)(hk:k+8<=900){start:Int}(s0:0<=start)(s1:start+768<=A.len 9)(v0:0<=octet)(m0:0<=mt'):ac Z n (.ref 651) [.ref y,.int start 0,.int octet 0,.int mt' 0] J (λr J'=>r=.none/\WS H J' A w b (ah s (bU start 8 1 octet mt')) (k+8)):=by
 refine run G (lq hn rfl) ?_;lk;refine lg (λnode' a a=>[(JL,.ref y),(JE,.int start 0),(IB,.int octet 0),(L9,.int mt' 0),(Ka,.int node' 0)]) (λm node' s' k' J'=>WS H J' A w b s' k'/\ah s' (bU start m node' octet mt')=ah s (bU start 8 1 octet mt')/\k'+m=k+8/\1<=node'/\(node'+1)*2^m<=2^(8+1)) 1 s k (c:=8) (Mr _ _) ⟨W,rfl,rfl,by decide,by decide⟩ rfl ?_ ?_
 ·intro m node' s' k' J' Q' hm z3 hnext hret;have W':=z3.1;have e:=z3.2.1;have ek:=z3.2.2.1;have n1:=z3.2.2.2.1;have n2:=z3.2.2.2.2;have Ww:=W'.3.1;have Yy:=W'.1 _ _ Y.1;have Mm:=W'.1 _ _ M.1;have hp:(0:Int)<2^m:=NU (by decide);lk;rw[MN,js (Oa m0 (Nl hp))];have hm01:=cq (mt' / 2^m);lk;rw[js (Oa v0 (Nl hp))];have hb01:=cq (octet/2^m);obtain z2:=YB hb01 n1 n2;have hnl:=z2.1;have hst:=z2.2;lk;rw[Cp];have h256:node' < 256:=hnl;refine(aW (n:=n-1) G (lp hn rfl) W' (ao 0x10ca10c20002981423890ae09bb4eb84102846a32ae1041318 [] [_,_,_] hk ek) (Mr _ _) (by exact aS Lf [_,_,_] [] s0 n1 (vy _ rfl)) (iK 0x8470048a10c20003c800c8a86a122112cc452277c00416b825bc600260468c82f07f14c [_,_,_,_] [_] s1 hnl (Bi _ rfl) Bo) hb01).Wr λJ2 W2=>?_;have Yy:=W2.1 _ _ Y.1;lk;rw[NX 2 node'];rw[fA,aA] at e;refine aK (λh=>?_) (λh=>?_);·rw[if_pos h] at e;lk;refine hnext _ _ _ ⟨W2,e,af 0x2108009c20001381215c508e09b94ea048575104cf6e53a [] [_,_,_] ek,ao KH [_,_] [] n1 (vy _ rfl),hst⟩ rfl
  ·rw[if_neg h] at e;lk;refine(jr (n:=n-1) (d:=8) G (lp hn rfl) W2 M Y (MC _) (ao 0x108610000f4090ae284704dca75c2081215aacaf8415104cf6e332 [] [_,_,_] hk ek) s0 (ao 0x843080007a002444337c00416b825bcc16701c [_,_] [_] s1 Bo) (ao KH [_,_] [] n1 (vy _ rfl)) hst (Np hm) v0).Wr λJ3 W3=>?_;lk;refine hret _ _ ⟨rfl,?_⟩;rw[<-e,show k+8=k'+1+m from af 0x2100009c2100138104e242ba11bf4ea5142345c0826953a [] [_,_,_] ek];exact W3
 ·intro node' s' k' J' z1;have W':=z1.1;have e:=z1.2.1;have ek:=z1.2.2.1;have n1:=z1.2.2.2.1;have n2:=z1.2.2.2.2;lk;have e2:s'=ah s (bU start 8 1 octet mt'):=e;refine⟨rfl,?_⟩;rw[<-e2,show k+8=k' from ek.symm];exact W'
theorem oO(M:aj H A B)(h0:0<=place)(b0:0<=before)(b1:before<=255):0<=B.lit place before/\B.lit place before+768<=A.len 9:=by
 have q1:=M.6;have q2:=M.5;rw[M.n9];unfold MA.lit;have h1:B.lp=0∨B.lp=1:=by lia
 have h2:B.lc=0∨B.lc=1:=by lia
 rcases h1 with e1|e1<;>rcases h2 with e2|e2<;>rw[e1,e2]<;>constructor<;>simp<;>lia
theorem WS.le{l:Nat}(W:WS H J A w b s k)(h:k<=l):WS H J A w b s l:=⟨W.1,W.2,W.3,W.4,W.5,W.6,W.7,W.8.le h,W.9⟩
theorem WS.Xe(W:WS H J A w b s k){x:Mk}(hx:J x=Mq)(c:Cell):WS H (upd J x c) A w b s k:=by
 have hn:∀a d,J a=Mc d->a≠x:=λa d h z=>by rw[z,hx] at h;cases h
 refine⟨W.1.upd (W.1.none hx) _,λj hj=>?_,⟨(ag _ _ (hn _ _ W.3.1)).trans W.3.1,(ag _ _ (hn _ _ W.3.2)).trans W.3.2⟩,W.4,W.5,W.6,W.7,W.8,W.9⟩;refine(W.2 j hj).keep λa d f e=>(ag _ _ (hn _ _ e)).trans e
theorem WS.sup(W:WS H J A w b s k)(h:Sub J J'):WS H J' A w b s k:=
 ⟨W.1.trans h,λj hj=>(W.2 j hj).keep λa d c e=>h a d e,⟨h _ _ W.3.1,h _ _ W.3.2⟩,W.4,W.5,W.6,W.7,W.8,W.9⟩
theorem bH(M:aj H A B)(h0:0<=state)(h1:state<=11):0<=B.cell state place/\B.cell state place<192:=by have z:=dh (m:=B.pb) M.7;have z1:=Nv place (b:=2^B.pb) (λzz=>fb K7 [_] [] zz z);have z2:=Ni place (b:=2^B.pb) z.1;unfold MA.cell;exact Dx 0x109611c0a1002d8490280008a32211290203a022288c0812e63620811810178026020c49be66020c498114f65 [_,_,_] [] h0 h1 z z1 z2
theorem m4(G:Good Z Kg)(hn:7<=n)(W:WS H J A w b s k)(M:aj H A B)(Y:yr H y B.m w pl stt rp)(hk:k+9<=900)(st0:0<=state)(st1:state<=11)(p0:0<=place)(b0:0<=before)(b1:before<=255)(v0:0<=octet)(m0:0<=mt'):ac Z n (.ref 637) [.ref y,.int state 0,.int place 0,.int before 0,.int octet 0,.int mt' 0] J (λr J'=>r=.none/\WS H J' A w b (ah s (B.Xo state place before octet mt')) (k+9)):=by
 have Ww:=W.3.1;have Yy:=W.1 _ _ Y.1;have Mm:=W.1 _ _ M.1;obtain z4:=bH M (place:=place) st0 st1;obtain z3:=oO M p0 b0 b1;refine run G (lq hn rfl) ?_;lk;refine((c4 (n:=n-1) G (lp hn rfl) W.1 M p0)).k01 ?_;lk;refine(aW (n:=n-1) G (lp hn rfl) W (af 0x4200013e10488269328e1041318 [] [_] hk) (Mr _ _) z4.1 (by rw[M.n0];exact z4.2) (.inl rfl)).Wr λJ2 W2=>?_;have Yy:=W2.1 _ _ Y.1;have Mm:=W2.1 _ _ M.1;lk;refine((e7 (n:=n-1) G (lp hn rfl) W2.1 M p0 b0)).k01 ?_;lk;refine((gd (n:=n-1) G (lp hn rfl))).k01 ?_;refine xV (λh=>?_) (λh=>?_);·have h:=of_decide_eq_true h;lk;refine(jr (n:=n-1) (d:=8) (c:=8) G (lp hn rfl) W2 M Y (Mr _ _) hk z3.1 (ao 0x843080007a002444337c00416b825bcc16701c [_,_] [_] z3.2 Bo) (Ms _) (by decide) (Mr _ _) v0).Wr λJ3 W3=>?_;lk;refine⟨rfl,?_⟩;unfold MA.Xo;rw[if_pos h,aA];exact W3
 ·have h:=of_decide_eq_false h;lk;refine(nk (n:=n-1) G (lp hn rfl) W2 M Y hk z3.1 z3.2 v0 m0).Wr λJ3 W3=>?_;lk;refine⟨rfl,?_⟩;unfold MA.Xo;rw[if_neg h,aA];exact W3
inductive tW(H:Sg)(A:Rows)(l:Mk)(j pb:Nat):Prop where
 |mk (o:H l=Mc (sY pb (wa A) j))
  (low:j+3<18)
  (n0:A.len j=2)
  (n1:A.len (j+1)=8*2^pb)
  (n2:A.len (j+2)=8*2^pb)
  (n3:A.len (j+3)=256)
theorem aj.aax(M:aj H A B):tW H A B.l1 10 B.pb:=⟨M.3,by decide,M.n10,M.n11,M.n12,M.n13⟩
theorem aj.aa6(M:aj H A B):tW H A B.l2 14 B.pb:=⟨M.4,by decide,M.n14,M.n15,M.n16,M.n17⟩
theorem iB(G:Good Z Kg)(hn:6<=n)(W:WS H J A w b s k)(M:aj H A B)(Y:yr H y B.m w pl stt rp){l:Mk}(L:tW H A l j B.pb)(hk:k+10<=900)(p0:0<=place)(h0:2<=length)(h1:length<=273):ac Z n (.ref 658) [.ref y,.ref l,.int place 0,.int length 0] J (λr J'=>r=.none/\WS H J' A w b (ah s (ct j (8*(place%2^B.pb)) length)) (k+10)):=by
 have Ww:=W.3.1;have Yy:=W.1 _ _ Y.1;have Mm:=W.1 _ _ M.1;have Ll:=W.1 _ _ L.1;have Pp:=W.1 _ _ M.2;have hj:=L.2;have z:=dh (m:=B.pb) M.7;have z1:=Nv place (b:=2^B.pb) (λzz=>fb K7 [_] [] zz z);have z2:=Ni place (b:=2^B.pb) z.1;have q1:(A.len (j+1):Int)=8*2^B.pb:=by rw[L.4];simp
 have q2:(A.len (j+2):Int)=8*2^B.pb:=by rw[L.5];simp
 refine run G (lq hn rfl) ?_;lk;refine((cI (n:=n-1) G (lp hn rfl) W.1 M p0)).k01 ?_;lk;unfold ct;refine bQ (λh=>?_) (λh=>?_);·rw[if_pos h];lk;refine(aW (n:=n-1) G (lp hn rfl) W (af 0x4200013e10508269328e1041318 [] [_] hk) (by exact af KJ [] [_] hj) (Ms _) (by rw[L.3];decide) (.inl rfl)).Wr λJ2 W2=>?_;have Ww:=W2.3.1;have Yy:=W2.1 _ _ Y.1;have Ll:=W2.1 _ _ L.1;lk;refine(jB (n:=n-1) (c:=3) G (lp hn rfl) W2 (Mr _ _) (af 0x2100009f0828413499470831104cf6eb33 [] [_] hk) (by exact af 0x840002721882684219088267c20 [] [_] hj) (by exact af Lv [_] [] z1) (by rw[q1];lia) (OM h0) h).Wr λJ3 W3=>?_;lk;refine⟨rfl,?_⟩;simp only[aA];exact W3.le (ck 0x1a104f1104cf6eb38 [] [_])
 ·rw[if_neg h];lk;refine(aW (n:=n-1) G (lp hn rfl) W (af 0x4200013e10508269328e1041318 [] [_] hk) (by exact af KJ [] [_] hj) (Ms _) (by rw[L.3];decide) (.inr rfl)).Wr λJ2 W2=>?_;have Ww:=W2.3.1;have Yy:=W2.1 _ _ Y.1;have Ll:=W2.1 _ _ L.1;lk;refine bQ (λh'=>?_) (λh'=>?_);·rw[if_pos h'];lk;refine(aW (n:=n-1) G (lp hn rfl) W2 (af 0x8400027c20a104d2651c2088267b25 [] [_] hk) (by exact af KJ [] [_] hj) (Ms _) (by rw[L.3];decide) (.inl rfl)).Wr λJ3 W3=>?_;have Ww:=W3.3.1;have Yy:=W3.1 _ _ Y.1;have Ll:=W3.1 _ _ L.1;lk;refine(jB (n:=n-1) (c:=3) G (lp hn rfl) W3 (Mr _ _) (af 0x4200013e10508269328e106222099edc75340 [] [_] hk) (Np hj) (by exact af Lv [_] [] z1) (by rw[q2];lia) (by exact af 0x2100009c0841a79c45021069f40829 [_] [] h) (by lia)).Wr λJ4 W4=>?_;lk;refine⟨rfl,?_⟩;simp only[aA];exact W4.le (ck 0x34209e222099edc75345 [] [_])
  ·rw[if_neg h'];lk;refine(aW (n:=n-1) G (lp hn rfl) W2 (af 0x8400027c20a104d2651c2088267b25 [] [_] hk) (by exact af KJ [] [_] hj) (Ms _) (by rw[L.3];decide) (.inr rfl)).Wr λJ3 W3=>?_;have Ww:=W3.3.1;have Yy:=W3.1 _ _ Y.1;have Ll:=W3.1 _ _ L.1;lk;refine(jB (n:=n-1) (c:=8) G (lp hn rfl) W3 (Mr _ _) hk hj (Ms _) (by rw[L.6];decide) (by exact af 0x8400027010834f388e021069f4082a [_] [] h') (ao 0x211420001e8009110cc444102d3010834fb012d [_,_] [] h1 Bo)).Wr λJ4 W4=>?_;lk;refine⟨rfl,?_⟩;simp only[aA];exact W4.le (MC _)
inductive Er(d:Int):Prop
 |small (hd:d<=4) (e:aR d=(d-1,0,d-1))
 |big (g:Nat) (h:Int) (g0:2<=g) (g1:g<=31) (hh:h=0∨h=1) (q0:0<=h) (q1:h<=1) (e:aR d=(2*g+h,(g:Int)-1,(2+h)*2^(g-1))) (eb:bD (2*g+h)=((g:Int)-1,(2+h)*2^(g-1)))
  (r0:0<=d-1-(2+h)*2^(g-1)) (r1:d-1-(2+h)*2^(g-1)<2^(g-1))
variable{d:Int}
theorem dS(h0:1<=d)(h1:d<=2^32):Er d:=by
 by_cases hd:d-1<4;·exact .small (af 0x84000270441a711d820810 [_] [] hd) (by unfold aR;rw[if_pos hd])
 ·obtain⟨x,hx⟩:∃x:Nat,d-1=x:=⟨(d-1).toNat,af 0x2100009c2100138836e2a1cbc41a721c [_] [_] (ME (af 0x42000138220d38e2088340818 [_] [] hd))⟩;have hx4:4<=x:=ao 0x421840003d78834e4390441a71c41403311 [_] [_] hd hx;have hl:=tQ (x:=x) (aS 0x42384508000a60000000024446378834e439304074000000004142f [_,_] [_] h1 hx vK) (λzz=>CF La [_] [_] zz hd hx);have hl1:2<=x.log2:=(Nat.le_log2 (λzz=>CF La [_] [_] zz hd hx)).mpr (ao 0x421840003d78834e4390441a71c41403311 [_] [_] hd hx);have b1:2^x.log2<=x:=Nat.log2_self_le (λzz=>CF La [_] [_] zz hd hx);have b2:x<2^(x.log2+1):=Nat.lt_log2_self;obtain⟨g,hg⟩:∃g,x.log2=g+1:=⟨x.log2-1,af Kx [] [_,_] (Me (af LP [] [_] hl1))⟩;have e0:aR d=(2*((g+1:Nat):Int)+(x:Int)/2^g%2,bD (2*((g+1:Nat):Int)+(x:Int)/2^g%2)):=by unfold aR;rw[if_neg hd,hx,MN,hg];rfl
  rw[hg] at b1 b2 hl hl1;have hp:0<2^g:=Nat.pow_pos (by decide);have p1:2^(g+1)=2*2^g:=by rw[TY];exact ck 0x403405908288529 [] [_]
  have p2:2^(g+1+1)=4*2^g:=by rw[TY,TY];exact ck 0x201a01a42105108f538 [] [_]
  have q1:2<=x/2^g:=(Nat.le_div_iff_mul_le hp).mpr (p1▸b1);have q2:x/2^g<4:=(Nat.div_lt_iff_lt_mul hp).mpr (p2▸b2);have q3:x/2^g*2^g+x%2^g=x:=by rw[QS];exact Nat.div_add_mod x (2^g)
  have q4:x%2^g<2^g:=Nat.mod_lt _ hp;have pc:((2^g:Nat):Int)=2^g:=by simp
  have e1:(x:Int)/2^g%2=((x/2^g-2:Nat):Int):=by rw[<-pc,<-Int.natCast_ediv];exact Fk _ q2 q1
  have hh:=Et _ q2 q1;have e2:(2+((x/2^g-2:Nat):Int))*2^g=((x/2^g*2^g:Nat):Int):=by rw[show(2:Int)+((x/2^g-2:Nat):Int)=((x/2^g:Nat):Int) from af 0x2108009c200013a8413428ed7bc0569a23 [] [_,_] (Me q1),Int.natCast_mul,pc]
  rw[e1] at e0;have e3:bD (2*((g+1:Nat):Int)+((x/2^g-2:Nat):Int))=(((g+1:Nat):Int)-1,(2+((x/2^g-2:Nat):Int))*2^g):=by
   unfold bD;rw[if_neg (by exact af 0x218c20000fc41380ac760af104fc05903c0e42 [] [_,_] hl1)];have a1:(2*((g+1:Nat):Int)+((x/2^g-2:Nat):Int))/2-1=(g:Int):=Dx 0x84908e100094c2584508404a612211290203a180b0f75e209f80b2078156af104fc05903c0587848af22214bc41a721c [_,_] [_,_] e1 (FP _ rfl) (Hz _ rfl) (vy _ rfl) (Bi _ rfl);have a2:(2*((g+1:Nat):Int)+((x/2^g-2:Nat):Int))%2=((x/2^g-2:Nat):Int):=by rw[Int.mul_add_emod_self_left];exact hh.elim (λz=>by rw[z];rfl) (λz=>by rw[z];rfl)
   rw[a1,a2,MN];refine Wd (by show(g:Int)=_;lia) rfl
  refine .big (g+1) ((x/2^g-2:Nat):Int) hl1 hl hh (Ms _) (ao 0x211421001e84121f78283e2e2812 [_] [_] e1 (Bi _ rfl)) ?_ e3 ?_ ?_;·rw[e0,e3];rfl
  ·rw[hx,Vh,e2];exact af 0x219420001ea54234a8ed7b8b4081f [] [_,_,_] q3
  ·rw[hx,Vh,e2,<-pc];exact ao 0x845084007a5a1609daa11a54765ebdc5aa926 [] [_,_,_,_] q3 q4
theorem wO(h0:1<=d)(h1:d<=2^32):0<=(aR d).1/\(aR d).1<=63:=by
 cases dS h0 h1 with
 |small hd e=>rw[e];exact⟨by show 0<=d-1;exact OM h0,by show d-1<=63;exact af 0x4200013820810fc441a7020 [_] [] hd⟩
 |big g h g0 g1 hh q0 q1 e=>rw[e];exact⟨by show 0<=2*(g:Int)+h;exact ao 0x1086100007e0405d015886f01626c0827 [_] [_] g0 q0,by show 2*(g:Int)+h<=63;exact ao 0x421840001f88203be20989fe3780b136e82f [_] [_] g1 q1⟩
theorem fS(h:2<=length):0<=cy length/\cy length+64<=256:=by unfold cy;split<;>constructor<;>lia
theorem qd:∀g:Fin 7,∀b:Fin 2,2<=g.val->And (0<=(2+(b.val:Int))*2^(g.val-1)-(2*(g.val:Int)+b.val)) ((2+(b.val:Int))*2^(g.val-1)-(2*(g.val:Int)+b.val)+2^(g.val-1)<=115):=by decide +kernel
theorem kI{g:Nat}{q:Int}(g0:2<=g)(h:2*(g:Int)+q<14)(hq:q=0∨q=1):0<=(2+q)*2^(g-1)-(2*(g:Int)+q)/\(2+q)*2^(g-1)-(2*(g:Int)+q)+2^(g-1)<=115:=by
 rcases hq with rfl|rfl;·exact an (qd ⟨g,af 0x8400227c2f01626dc259c41411 [] [_] h⟩ 0 g0)
 ·exact an (qd ⟨g,af 0x8400227c22f01626e0261c41411 [] [_] h⟩ 1 g0)
theorem kQ(G:Good Z Kg)(hn:6<=n)(W:WS H J A w b s k)(M:aj H A B)(Y:yr H y B.m w pl stt rp)(hk:k+40<=900)(d0:1<=distance)(d1:distance<=2^32)(h0:2<=length):ac Z n (.ref 665) [.ref y,.int distance 0,.int length 0] J (λr J'=>r=.none/\WS H J' A w b (ah s (bP distance length)) (k+40)):=by
 obtain z5:=fS h0;refine run G (lq hn rfl) ?_;lk;refine(sr (n:=n-1) G (lp hn rfl) d0 d1).aaz λJ1 x hx S1=>?_;have W1:=W.sup S1;have Ww:=W1.3.1;have Yy:=W1.1 _ _ Y.1;have Mm:=W1.1 _ _ M.1;refine dQ ?_ hx rfl;lk;refine((ix (n:=n-1) G (lp hn rfl) h0)).k01 ?_;have sl:=wO d0 d1;lk;refine(jB (n:=n-1) (c:=6) G (lp hn rfl) W1 (Mr _ _) (af 0x8400027c20a04135195708308268b27 [] [_] hk) (Mr _ _) z5.1 (by rw[M.n6];exact z5.2) sl.1 (by have:=sl.2;exact ill this rfl)).Wr λJ2 W2=>?_;have Ww:=W2.3.1;have Yy:=W2.1 _ _ Y.1;have Mm:=W2.1 _ _ M.1;lk;unfold bP;refine aK (λh=>?_) (λh=>?_);·rw[if_pos h,NF];lk;exact⟨rfl,W2.le (ck 0x68104f08268b2e [] [_])⟩
 ·rw[if_neg h,bx];cases dS d0 d1 with
  |small _ e=>rw[e] at h;exact absurd rfl h
  |big g q g0 g1 hq q0 q1 e eb r0 r1=>
  generalize ah s (az 6 (cy length) 6 1 (aR distance).1)=s2 at*;rw[e] at sl ⊢;rw[eb];dsimp only at sl ⊢;lk;refine bQ (λh14=>?_) (λh14=>?_);·rw[if_pos h14];lk;refine(eC (n:=n-1) G (lp hn rfl) sl.1 sl.2).Wr λa r2=>?_;refine bI r2 λx' c' z4=>?_;rw[z4.2];have W3:=W2.Xe z4.1 c';rw[eb];dsimp only;have bounds:=kI g0 h14 hq;lk;have eg:((g:Int)-1)=((g-1:Nat):Int):=af 0x8400027084004e8a11a3472bc5c5a9222 [] [_,_] (Me (af LP [] [_] g0));rw[eg,MN];refine(tB (n:=n-1) (c:=g-1) G (lp hn rfl) W3 (ao 0x108a10000f5e2b8f54445f142315f041314 [] [_,_] g1 eg) (aS 0x211c2184000535e25c8aaa25f890ac5b84140826a32ae1056104d16f334 [] [_,_,_] hk g1 eg) (Mr _ _) bounds.1 (by rw[M.n7];exact bounds.2) r0 r1).Wr λJ3 W4=>?_;lk;exact⟨rfl,W4.le (ao 0x845080007abc4b915544bf12158b50209d6104d16f33b [] [_,_,_] g1 eg)⟩
  ·rw[if_neg h14,bx];have g7:7<=g:=ao 0x108610008f70de02c4dba71844101d703311 [_] [_] q1 h14;lk;rw[HJ];have eg:((g:Int)-1-4)=((g-5:Nat):Int):=af 0x1080004e108009d4508d3a3d5e08b8b52b0a31 [] [_,_] (Me (af 0x1080004ee06623503311 [] [_] g7));have er:(2:Int)^(g-1)=2^(g-5)*16:=by rw[show g-1=(g-5)+4 from ao Ld [] [_,_,_] eg (Me (af 0x218c21001eaf045c5a958518d0230f [] [_,_] eg)),Ti];rfl
   generalize distance-1-(2+q)*2^(g-1)=rest at*;rw[er] at r1;rw[eg,MN];refine(yQ (n:=n-1) (c:=g-5) G (lp hn rfl) W2 (ao K5 [] [_,_] g1 eg) (aS 0x108e10c200029af044b9155b2234f890ac5b84140826a32ae1056104d16f334 [] [_,_,_] hk g1 eg) (DV r0 rfl) (ao 0x4218401e3d1c011120410122488a48e6090e [_,_,_] [] r1 (FP _ rfl))).Wr λJ3 W3=>?_;have Ww:=W3.3.1;have Yy:=W3.1 _ _ Y.1;have Mm:=W3.1 _ _ M.1;lk;rw[show(1*2^Pa 4-1:Int)=15 from rfl,BH r0];refine(tB (n:=n-1) (c:=4) G (lp hn rfl) W3 (Mr _ _) (aS 0x847086100014d78225c8aad911a7c48562dc20a0413519570820ac209a2de76b43 [] [_,_,_] hk g1 eg) (Mr _ _) (by decide) (by rw[M.n8];decide) (Nv _ (by decide)) (Ni _ (by decide))).Wr λJ4 W4=>?_;lk;exact⟨rfl,W4.le (ao 0x211420001eaf044b9155b2234f890ac5a8104e0ac209a2de76b4a [] [_,_,_] g1 eg)⟩
theorem jQ(G:Good Z Kg)(hn:7<=n)(W:WS H J A w b s k)(M:aj H A B)(Y:yr H y B.m w pl stt rp)(hk:k+52<=900)(st0:0<=state)(st1:state<=11)(p0:0<=place)(d0:1<=distance)(d1:distance<=2^32)(h0:2<=length)(h1:length<=273):ac Z n (.ref 672) [.ref y,.int state 0,.int place 0,.int distance 0,.int length 0] J (λr J'=>r=.none/\WS H J' A w b (ah s (B.WV state place distance length)) (k+52)):=by have Ww:=W.3.1;have Yy:=W.1 _ _ Y.1;have Mm:=W.1 _ _ M.1;obtain z3:=bH M (place:=place) st0 st1;refine run G (lq hn rfl) ?_;lk;refine((c4 (n:=n-1) G (lp hn rfl) W.1 M p0)).k01 ?_;lk;refine(aW (n:=n-1) G (lp hn rfl) W (af 0x1080004f841a0826a32ae1041318 [] [_] hk) (Mr _ _) z3.1 (by rw[M.n0];exact z3.2) (.inr rfl)).Wr λJ2 W2=>?_;have Ww:=W2.3.1;have Yy:=W2.1 _ _ Y.1;have Mm:=W2.1 _ _ M.1;lk;refine(aW (n:=n-1) G (lp hn rfl) W2 (af 0x2100009f0834104d4655c2088267b25 [] [_] hk) (Mr _ _) st0 (by rw[M.n1];exact ill st1 rfl) (.inl rfl)).Wr λJ3 W3=>?_;have Yy:=W3.1 _ _ Y.1;have Mm:=W3.1 _ _ M.1;lk;refine(iB (n:=n-1) G (lp hn rfl) W3 M Y M.aax (af 0x4200013e1068209a8cab8414222099edc76342 [] [_] hk) p0 h0 h1).Wr λJ4 W4=>?_;have Yy:=W4.1 _ _ Y.1;lk;refine(kQ (n:=n-1) G (lp hn rfl) W4 M Y hk d0 d1 h0).Wr λJ5 W5=>?_;lk;refine⟨rfl,?_⟩;unfold MA.WV;simp only[aA,bx];exact W5.le (MC _)
theorem oZ(G:Good Z Kg)(hn:5<=n)(W:WS H J A w b s k)(M:aj H A B)(Y:yr H y B.m w pl stt rp)(hk:k+3<=900){index:Int}(st0:0<=state)(st1:state<=11)(p0:0<=place)(i0:0<=index)(i1:index<=3):ac Z n (.ref 679) [.ref y,.int state 0,.int place 0,.int index 0] J (λr J'=>r=.none/\WS H J' A w b (ah s (B.Xf state place index)) (k+3)):=by
 have Ww:=W.3.1;have Yy:=W.1 _ _ Y.1;have Mm:=W.1 _ _ M.1;obtain z2:=bH M (place:=place) st0 st1;refine run G (lq hn rfl) ?_;lk;unfold MA.Xf;refine aK (λh=>?_) (λh=>?_);·rw[if_pos h];lk;refine(aW (n:=n-1) G (lp hn rfl) W (af 0x1080004f84188268326e1041318 [] [_] hk) (Mr _ _) st0 (by rw[M.n2];exact ill st1 rfl) (.inl rfl)).Wr λJ2 W2=>?_;have Ww:=W2.3.1;have Yy:=W2.1 _ _ Y.1;have Mm:=W2.1 _ _ M.1;lk;refine((c4 (n:=n-1) G (lp hn rfl) W2.1 M p0)).k01 ?_;lk;refine(aW (n:=n-1) G (lp hn rfl) W2 (af Lq [] [_] hk) (Mr _ _) z2.1 (by rw[M.n5];exact z2.2) (.inr rfl)).Wr λJ3 W3=>?_;lk;refine⟨rfl,?_⟩;simp only[aA,dk];exact W3.le (ck 0x388271104cf6e335 [] [_])
 ·rw[if_neg h];lk;refine(aW (n:=n-1) G (lp hn rfl) W (af 0x1080004f84188268326e1041318 [] [_] hk) (Mr _ _) st0 (by rw[M.n2];exact ill st1 rfl) (.inr rfl)).Wr λJ2 W2=>?_;have Ww:=W2.3.1;have Yy:=W2.1 _ _ Y.1;have Mm:=W2.1 _ _ M.1;lk;refine aK (λh'=>?_) (λh'=>?_);·rw[if_pos h'];lk;refine(aW (n:=n-1) G (lp hn rfl) W2 (af Lq [] [_] hk) (Mr _ _) st0 (by rw[M.n3];exact ill st1 rfl) (.inl rfl)).Wr λJ3 W3=>?_;lk;refine⟨rfl,?_⟩;simp only[aA,dk];exact W3.le (ck 0x388271104cf6e335 [] [_])
  ·rw[if_neg h'];lk;refine(aW (n:=n-1) G (lp hn rfl) W2 (af Lq [] [_] hk) (Mr _ _) st0 (by rw[M.n3];exact ill st1 rfl) (.inr rfl)).Wr λJ3 W3=>?_;have Ww:=W3.3.1;have Yy:=W3.1 _ _ Y.1;have Mm:=W3.1 _ _ M.1;lk;refine(aW (n:=n-1) G (lp hn rfl) W3 (Np hk) (Mr _ _) st0 (by rw[M.n4];exact ill st1 rfl) (by lia)).Wr λJ4 W4=>?_;lk;refine⟨rfl,?_⟩;simp only[aA,dk];exact W4.le (MC _)
theorem pB(G:Good Z Kg)(hn:5<=n)(W:WS H J A w b s k)(M:aj H A B)(Y:yr H y B.m w pl stt rp)(hk:k+4<=900)(st0:0<=state)(st1:state<=11)(p0:0<=place):ac Z n (.ref 693) [.ref y,.int state 0,.int place 0] J (λr J'=>r=.none/\WS H J' A w b (ah s (B.Xs state place)) (k+4)):=by have Ww:=W.3.1;have Yy:=W.1 _ _ Y.1;have Mm:=W.1 _ _ M.1;obtain z1:=bH M (place:=place) st0 st1;refine run G (lq hn rfl) ?_;lk;refine((c4 (n:=n-1) G (lp hn rfl) W.1 M p0)).k01 ?_;lk;refine(aW (n:=n-1) G (lp hn rfl) W (af 0x2100009f08208268b27e1041318 [] [_] hk) (Mr _ _) z1.1 (by rw[M.n0];exact z1.2) (.inr rfl)).Wr λJ2 W2=>?_;have Ww:=W2.3.1;have Yy:=W2.1 _ _ Y.1;have Mm:=W2.1 _ _ M.1;lk;refine(aW (n:=n-1) G (lp hn rfl) W2 (af 0x4200013e104104d164fc2088267b25 [] [_] hk) (Mr _ _) st0 (by rw[M.n1];exact ill st1 rfl) (.inr rfl)).Wr λJ3 W3=>?_;have Ww:=W3.3.1;have Yy:=W3.1 _ _ Y.1;have Mm:=W3.1 _ _ M.1;lk;refine(aW (n:=n-1) G (lp hn rfl) W3 (af 0x8400027c208209a2c9f8411104cf6e332 [] [_] hk) (Mr _ _) st0 (by rw[M.n2];exact ill st1 rfl) (.inl rfl)).Wr λJ4 W4=>?_;have Ww:=W4.3.1;have Yy:=W4.1 _ _ Y.1;have Mm:=W4.1 _ _ M.1;lk;refine((c4 (n:=n-1) G (lp hn rfl) W4.1 M p0)).k01 ?_;lk;refine(aW (n:=n-1) G (lp hn rfl) W4 (Np hk) (Mr _ _) z1.1 (by rw[M.n5];exact z1.2) (.inl rfl)).Wr λJ5 W5=>?_;lk;refine⟨rfl,?_⟩;unfold MA.Xs;simp only[aA,dk];exact W5.le (MC _)
noncomputable def gR(state:Int):Int:=if state<4 then 0 else if state<10 then state-3 else state-6
noncomputable def bG(state:Int):Int:=if state<7 then 7 else 10
noncomputable def gn(state:Int):Int:=if state<7 then 8 else 11
noncomputable def cJ(state:Int):Int:=if state<7 then 9 else 11
noncomputable def bt(l:List Int):List Value:=l.map λi=>.int i 0
variable{i:Nat}
theorem eK(G:Good Z Kg)(hn:0<n):ac Z n (.ref 220) [.int x 0] J (λv J'=>v=.int (gR x) 0/\J=J'):=by
 refine run G hn ?_;unfold gR;lk;refine bQ (λh=>?_) (λh=>?_);·rw[if_pos h];lk;exact⟨rfl,rfl⟩
 ·rw[if_neg h];lk;refine bQ (λh=>?_) (λh=>?_);·rw[if_pos h];lk;exact⟨rfl,rfl⟩
  ·rw[if_neg h];lk;exact⟨rfl,rfl⟩
theorem b8(G:Good Z Kg)(hn:0<n):ac Z n (.ref 227) [.int x 0] J (λv J'=>v=.int (bG x) 0/\J=J'):=by
 refine run G hn ?_;unfold bG;lk;refine bQ (λh=>?_) (λh=>?_);·rw[if_pos h];lk;exact⟨rfl,rfl⟩
 ·rw[if_neg h];lk;exact⟨rfl,rfl⟩
theorem jk(G:Good Z Kg)(hn:0<n):ac Z n (.ref 234) [.int x 0] J (λv J'=>v=.int (gn x) 0/\J=J'):=by
 refine run G hn ?_;unfold gn;lk;refine bQ (λh=>?_) (λh=>?_);·rw[if_pos h];lk;exact⟨rfl,rfl⟩
 ·rw[if_neg h];lk;exact⟨rfl,rfl⟩
theorem gk(G:Good Z Kg)(hn:0<n):ac Z n (.ref 241) [.int x 0] J (λv J'=>v=.int (cJ x) 0/\J=J'):=by
 refine run G hn ?_;unfold cJ;lk;refine bQ (λh=>?_) (λh=>?_);·rw[if_pos h];lk;exact⟨rfl,rfl⟩
 ·rw[if_neg h];lk;exact⟨rfl,rfl⟩
theorem cD(G:Good Z Kg)(hn:0<n):ac Z n (.ref 588) [.int x 0,u] J (λv J'=>v=.none/\J=J'):=by refine run G hn ?_;lk;refine ir (r:=Mh) ?_ .int;lk;refine ir (r:=Mg) ?_ .aaS;lk;exact⟨rfl,rfl⟩
theorem aZ(G:Good Z Kg)(hn:2<=n){lo hi:Int}(h0:lo<=x)(h1:x<=hi):ac Z n (.ref 595) [.int x 0,.int lo 0,.int hi 0,u] J (λv J'=>v=.none/\J=J'):=by refine run G (lq hn rfl) ?_;lk;refine((cD (n:=n-1) G (lp hn rfl))).k01 ?_;lk;refine bQ (λh=>fb 0x210c20001ec8843a6080e [_,_] [] h0 h) (λa=>?_);lk;lk;refine nG (λh=>fb 0x210c20001ec8843a6080e [_,_] [] h1 h) (λa=>?_);lk;exact⟨rfl,rfl⟩
theorem su(G:Good Z Kg)(hn:7<=n)(W:WS H J A w b s k)(M:aj H A B)(Y:yr H y B.m w pl stt rp)(hk:k+15<=900){index:Int}(st0:0<=state)(st1:state<=11)(p0:0<=place)(i0:0<=index)(i1:index<=3)(h0:2<=length)(h1:length<=273):ac Z n (.ref 686) [.ref y,.int state 0,.int place 0,.int index 0,.int length 0] J (λr J'=>r=.none/\WS H J' A w b (ah s (B.XY state place index length)) (k+15)):=by have Ww:=W.3.1;have Yy:=W.1 _ _ Y.1;have Mm:=W.1 _ _ M.1;obtain z1:=bH M (place:=place) st0 st1;refine run G (lq hn rfl) ?_;lk;refine((aZ (n:=n-1) G (lp hn rfl) i0 i1)).k01 ?_;lk;refine((c4 (n:=n-1) G (lp hn rfl) W.1 M p0)).k01 ?_;lk;refine(aW (n:=n-1) G (lp hn rfl) W (af 0x4200013e10788269328e1041318 [] [_] hk) (Mr _ _) z1.1 (by rw[M.n0];exact z1.2) (.inr rfl)).Wr λJ2 W2=>?_;have Ww:=W2.3.1;have Yy:=W2.1 _ _ Y.1;have Mm:=W2.1 _ _ M.1;lk;refine(aW (n:=n-1) G (lp hn rfl) W2 (af 0x8400027c20f104d2651c2088267b25 [] [_] hk) (Mr _ _) st0 (by rw[M.n1];exact ill st1 rfl) (.inr rfl)).Wr λJ3 W3=>?_;have Yy:=W3.1 _ _ Y.1;have Mm:=W3.1 _ _ M.1;lk;refine(oZ (n:=n-1) G (lp hn rfl) W3 M Y (af 0x4200013e10788269328e106222099edc75340 [] [_] hk) st0 st1 p0 i0 i1).Wr λJ4 W4=>?_;have Yy:=W4.1 _ _ Y.1;have Mm:=W4.1 _ _ M.1;lk;refine(iB (n:=n-1) G (lp hn rfl) W4 M Y M.aa6 hk p0 h0 h1).Wr λJ5 W5=>?_;lk;refine⟨rfl,?_⟩;unfold MA.XY;simp only[aA,bx];exact W5.le (MC _)
inductive eE(J:Sg)(rp q:Mk)(l:List Int):Prop where
 |mk (o:J rp=Mc (.Wu 407 [(Jq,.ref q)]))
  (q:J q=Mc (.list (bt l)))
  (len:l.length=4)
noncomputable def fT(l:List Int)(i:Nat):List Int:=l.getD i 0::(l.take i++l.drop (i+1))
theorem fL(h:i<l.length):(bt l)[i]?=Mc (.int (l.getD i 0) 0):=by unfold bt;rw[ML,MG h,Mw,MG h];rfl
theorem br(G:Good Z Kg)(hn:0<n)(R:eE J rp q l):ac Z n (.ref 383) [.ref rp] J (λv J'=>v=.int (l.getD 0 0) 0/\J=J'):=by have h1:=R.1;refine run G hn ?_;lk;refine av R.2 (by decide) (by decide) (fL (i:=0) (by rw[R.3];decide)) ?_;lk;exact⟨rfl,rfl⟩
theorem l5(G:Good Z Kg)(hn:0<n)(S:Sub H J)(R:eE J rp q l)(hr:H rp=Mq):ac Z n (.ref 397) [.ref rp,.int d 0] J (λv J'=>v=.none/\Sub H J'/\∃q',J q'=Mq/\eE J' rp q' (d::l.take 3)/\∀a c,a≠rp->J a=Mc c->J' a=Mc c):=by
 have h1:=R.1;have hlen:(bt l).length=4:=by unfold bt;rw[Mt];exact R.3
 have ne:∀{a x:Mk}{c:Cell}{τ:Sg},τ a=Mc c->τ x=Mq->a≠x:=λe e' z=>by rw[z,e'] at e;cases e
 refine run G hn ?_;lk;intro x hx;have e1:=(ag J (.list [.int d 0]) (ne h1 hx)).trans h1;have e2:=(ag J (.list [.int d 0]) (ne R.2 hx)).trans R.2;lk;refine iA e2 (i:=0) (j:=3) rfl (Dn hlen rfl) ?_;intro z hz;have hxz:x≠z:=ne (aa J x (.list [.int d 0])) hz;refine d5 ((ag _ _ hxz).trans (aa _ _ _)) (aa _ _ _) (by simp[hlen]) ?_;intro v hv;have e3:=(ag (upd J x (.list [.int d 0])) (.list (((bt l).take 3).drop 0)) (ne e1 hz)).trans e1;have e4:=(ag _ (.list ([OC d 0]++((bt l).take 3).drop 0)) (ne e3 hv)).trans e3;refine jc ?_ rfl;refine gc e4 rfl rfl ?_;lk;have S1:=S.upd (S.none hx) (.list [.int d 0]);have S2:=S1.upd (S1.none hz) (.list (((bt l).take 3).drop 0));have S3:=S2.upd (S2.none hv) (.list ([OC d 0]++((bt l).take 3).drop 0));have hvr:v≠rp:=(ne e3 hv).symm;have hσv:J v=none:=by
  have hvz:v≠z:=λe=>by rw[e,aa] at hv;cases hv
  have hvx:v≠x:=λe=>by rw[e,ag _ _ hxz,aa] at hv;cases hv
  rw[ag _ _ hvz,ag _ _ hvx] at hv;exact hv
 refine⟨rfl,S3.upd hr _,v,hσv,⟨aa _ _ _,(ag _ _ hvr).trans ((aa _ _ _).trans ?_),?_⟩,λa c ha e=>?_⟩;·simp[bt,Rw]
 ·simp[R.3]
 ·have a1:=(ag J (.list [.int d 0]) (ne e hx)).trans e;have a2:=(ag _ (.list (((bt l).take 3).drop 0)) (ne a1 hz)).trans a1;have a3:=(ag _ (.list ([OC d 0]++((bt l).take 3).drop 0)) (ne a2 hv)).trans a2;exact(ag _ _ ha).trans a3
theorem Wt{x:Mk}(h:J x=Mq)(c:Cell):Sub J (upd J x c):=Sub.rfl.upd h c
theorem mI(G:Good Z Kg)(hn:0<n)(hi:i<=3)(S:Sub H J)(R:eE J rp q l)(hr:H rp=Mq):ac Z n (.ref 390) [.ref rp,.int i 0] J (λv J'=>v=.int (l.getD i 0) 0/\Sub H J'/\∃q',J q'=Mq/\eE J' rp q' (fT l i)/\∀a c,a≠rp->J a=Mc c->J' a=Mc c):=by
 have h1:=R.1;have hlen:(bt l).length=4:=by unfold bt;rw[Mt];exact R.3
 refine run G hn ?_;lk;refine av R.2 (Ms _) (FG hi rfl) (fL (i:=i) (by rw[R.3];exact kG hi rfl)) ?_;lk;intro x hx;have T1:=Wt hx (.list [.int (l.getD i 0) 0]);have e1:=T1 _ _ h1;lk;refine iA (T1 _ _ R.2) (i:=0) (j:=i) ((sN (Ms _) (FG hi rfl)).trans (by rw[MN])) (Dn hlen rfl) ?_;intro z hz;have T2:=T1.trans (Wt hz (.list (((bt l).take i).drop 0)));refine d5 (Wt hz _ _ _ (aa _ _ _)) (aa _ _ _) (by simp[hlen];exact ao 0x421840003d504c3f142312c3500a0467b2c [] [_,_] hi (OR _ _)) ?_;intro v hv;have T3:=T2.trans (Wt hv (.list ([OC (l.getD i 0) 0]++((bt l).take i).drop 0)));have e3:=T3 _ _ h1;refine jc (AK ?_ e3 rfl) rfl;lk;refine iA (T3 _ _ R.2) (i:=i+1) (j:=4) ((ry (Ms _) (ao 0x422840003d000000000000000020a4dc41310c413e911c [_] [_] hi ej)).trans (by rw[hlen];congr 1)) (Dn hlen rfl) ?_;intro u hu;have T4:=T3.trans (Wt hu (.list (((bt l).take 4).drop (i+1))));refine d5 (Wt hu _ _ _ (aa _ _ _)) (aa _ _ _) (by simp[hlen];exact ao 0x421840003d89508d2a4128262186a015104cf6e339 [] [_,_,_] (OR _ _) (Me hi)) ?_;intro p hp;have T5:=T4.trans (Wt hp (.list (([OC (l.getD i 0) 0]++((bt l).take i).drop 0)++((bt l).take 4).drop (i+1))));refine jc ?_ rfl;refine gc (T5 _ _ h1) rfl rfl ?_;lk;have hσp:J p=none:=by
  cases e:J p with
  |none=>rfl
  |some c=>have:=T4 _ _ e;rw[hp] at this;cases this
 have hpr:p≠rp:=Ek hσp h1;refine⟨rfl,(S.trans T5).upd hr _,p,hσp,⟨aa _ _ _,(ag _ _ hpr).trans ((aa _ _ _).trans ?_),?_⟩,λa c ha e=>(ag _ _ ha).trans (T5 _ _ e)⟩;·have:(bt l).take 4=bt l:=PJ (Oq hlen);rw[this];simp[bt,fT,Rw,Tw]
 ·simp[fT,R.3];exact AD _ hi
structure LS where
 pl:Int
 st:Int
 back:List Int
inductive LW(H J:Sg)(A:Rows)(B:MA)(w b y rp q:Mk)(s:CS)(k:Nat)(v:LS):Prop where
 |mk(W:WS H J A w b s k)
  (yo:J y=Mc (.Wu 822 [(Js,.ref B.m),(Jy,.ref w),(Ju,.int v.pl 0),(Jw,.int v.st 0),(Jv,.ref rp)]))
  (hy:H y=Mq)
  (R:eE J rp q v.back)
  (hr:H rp=Mq)
  (off:∀j,j<18->A.ra j≠q/\A.da j≠q)
  (st0:0<=v.st)
  (st1:v.st<=11)
  (pl0:0<=v.pl)
noncomputable def mL(y rp q:Mk):Mk->Prop:=λa=>a=y∨a=rp∨a=q
theorem aj.Wq(M:aj H A B)(S:Sub H H'):aj H' A B:=⟨S _ _ M.1,S _ _ M.2,S _ _ M.3,S _ _ M.4,M.5,M.6,M.7,M.8⟩
theorem Sub.Xw(S:Sub H J)(P:Mk->Prop):Sub H (aV H J P):=λa c e=>by
 unfold aV;split;·exact S a c e
 ·exact e
theorem WS.held(W:WS H J A w b s k)(hw:¬P w)(hb:¬P b)(hP:∀j,j<18->¬P (A.ra j)/\¬P (A.da j)):WS (aV H J P) J A w b s k:=
 ⟨W.1.WT P,W.2,W.3,ai hw W.4,ai hb W.5,λj hj=>⟨ai (hP j hj).1 (W.6 j hj).1,ai (hP j hj).2 (W.6 j hj).2⟩,W.7,W.8,W.9⟩
theorem WS.Zh{s':CS}{k':Nat}(W:WS H J A w b s k)(W':WS (aV H J P) J' A w b s' k'):WS H J' A w b s' k':=
 ⟨W.1.Xi W'.1,W'.2,W'.3,W.4,W.5,W.6,W'.7,W'.8,W'.9⟩
theorem WS.upd(W:WS H J A w b s k)(ha:H a=Mq)(c:Cell)(hw:w≠a)(hb:b≠a)(hr:∀j,j<18->A.ra j≠a/\A.da j≠a):WS H (Internal.upd J a c) A w b s k:=
 ⟨W.1.upd ha c,λj hj=>(W.2 j hj).upd (hr j hj).1 (hr j hj).2,⟨(ag _ _ hw).trans W.3.1,(ag _ _ hb).trans W.3.2⟩,W.4,W.5,W.6,W.7,W.8,W.9⟩
theorem WS.neI(W:WS H J A w b s k){C:Nat}(h:J a=Mc (.Wu C fs))(h1:C≠159)(h2:C≠1095):w≠a/\b≠a/\∀j,j<18->A.ra j≠a/\A.da j≠a:=
 ⟨λz=>by have:=W.3.1;rw[z,h] at this;cases this;exact h2 rfl,λz=>by(have:=W.3.2;rw[z,h] at this;cases this),λj hj=>(W.2 j hj).neI h h1⟩
section
variable{st:List Md}{k body:T}
end
variable{v:LS}
theorem LW.hyp(L:LW H J A B w b y rp q s k v):¬mL y rp q w/\¬mL y rp q b/\∀j,j<18->¬mL y rp q (A.ra j)/\¬mL y rp q (A.da j):=by
 have a1:=L.1.neI L.2 (by decide) (by decide);have a2:=L.1.neI L.4.1 (by decide) (by decide);have a3:w≠q:=mf L.1.3.1 L.4.2 rfl;have a4:b≠q:=mf L.1.3.2 L.4.2 rfl;refine⟨?_,?_,λj hj=>⟨?_,?_⟩⟩
 ·rintro(z|z|z);·exact a1.1 z
  ·exact a2.1 z
  ·exact a3 z
 ·rintro(z|z|z);·exact a1.2.1 z
  ·exact a2.2.1 z
  ·exact a4 z
 ·rintro(z|z|z);·exact(a1.2.2 j hj).1 z
  ·exact(a2.2.2 j hj).1 z
  ·exact(L.6 j hj).1 z
 ·rintro(z|z|z);·exact(a1.2.2 j hj).2 z
  ·exact(a2.2.2 j hj).2 z
  ·exact(L.6 j hj).2 z
theorem LW.WH(L:LW H J A B w b y rp q s k v):WS (aV H J (mL y rp q)) J A w b s k:=L.1.held L.hyp.1 L.hyp.2.1 L.hyp.2.2
theorem tP{c:Cell}(hp:P a)(e:J a=Mc c):aV H J P a=Mc c:=by unfold aV;rw[if_pos hp];exact e
theorem LW.cod(L:LW H J A B w b y rp q s k v):yr (aV H J (mL y rp q)) y B.m w v.pl v.st rp:=⟨tP (.inl rfl) L.2⟩
theorem LW.next(L:LW H J A B w b y rp q s k v){s':CS}{k':Nat}(W':WS (aV H J (mL y rp q)) J' A w b s' k'):LW H J' A B w b y rp q s' k' v:=
 ⟨L.1.Zh W',W'.1.at (.inl rfl) L.2,L.3,⟨W'.1.at (.inr (.inl rfl)) L.4.1,W'.1.at (.inr (.inr rfl)) L.4.2,L.4.3⟩,L.5,L.6,L.7,L.8,L.9⟩
theorem LW.set(L:LW H J A B w b y rp q s k v){st:Int}(h0:0<=st)(h1:st<=11)(h2:0<=pl)(e:J'=Internal.upd J y (.Wu 822 [(Js,.ref B.m),(Jy,.ref w),(Ju,.int pl 0),(Jw,.int st 0),(Jv,.ref rp)])):LW H J' A B w b y rp q s k ⟨pl,st,v.back⟩:=by have a1:=L.1.neI L.2 (by decide) (by decide);have n1:rp≠y:=ub L.4.1 L.2 (by decide);have n2:q≠y:=mf L.4.2 L.2 rfl;subst e;exact⟨L.1.upd L.3 _ a1.1 a1.2.1 a1.2.2,aa _ _ _,L.3,⟨(ag _ _ n1).trans L.4.1,(ag _ _ n2).trans L.4.2,L.4.3⟩,L.5,L.6,h0,h1,h2⟩
theorem ju(h0:0<=x)(h1:x<=11):0<=gR x/\gR x<=11:=by unfold gR;split<;>(try split)<;>constructor<;>lia
theorem sG(G:Good Z Kg)(hn:8<=n)(L:LW H J A B w b y rp q s k v)(M:aj H A B)(hk:k+9<=900)(o0:0<=octet)(o1:octet<=255)(b0:0<=before)(b1:before<=255)(m0:0<=mt')(m1:mt'<=255):ac Z n (.ref 756) [.ref y,.int octet 0,.int before 0,.int mt' 0] J (λr J'=>r=.none/\LW H J' A B w b y rp q (ah s (B.Xo v.st v.pl before octet mt')) (k+9) ⟨v.pl+1,gR v.st,v.back⟩):=by
 have Yy:=L.2;refine run G (lq hn rfl) ?_;lk;intro x hx;have hq:q≠x:=yx L.4.2 hx;have L1:LW H (upd J x (.tup [.int octet 0,.int before 0,.int mt' 0])) A B w b y rp q s k v:=
  ⟨L.1.Xe hx _,Wt hx _ _ _ L.2,L.3,⟨Wt hx _ _ _ L.4.1,Wt hx _ _ _ L.4.2,L.4.3⟩,L.5,L.6,L.7,L.8,L.9⟩
 generalize hσ1:upd J x (.tup [.int octet 0,.int before 0,.int mt' 0])=J1 at*;have hx1:J1 x=Mc (.tup [.int octet 0,.int before 0,.int mt' 0]):=by rw[<-hσ1];exact aa _ _ _
 refine rJ [(JL,.ref y),(IB,.int octet 0),(JU,.int before 0),(L9,.int mt' 0)] hx1 rfl ?_ ?_;·intro j u Q' hu hnext;refine ae (EV (P:=λu=>∃i:Int,u=.int i 0/\0<=i/\i<=255) ⟨octet,rfl,o0,o1⟩ ⟨before,rfl,b0,b1⟩ ⟨mt',rfl,m0,m1⟩ hu) λi z9=>?_;have i0:=z9.2.1;have i1:=z9.2.2;rw[z9.1];lk;refine((aZ (n:=n-1) G (lp hn rfl) i0 i1)).k01 ?_;lk;exact hnext rfl
 ·clear Yy;have Yy:=L1.2;lk;refine(m4 (n:=n-1) G (lp hn rfl) L1.WH (M.Wq (L1.1.1.Xw _)) L1.cod hk L1.7 L1.8 L1.9 b0 b1 o0 m0).Wr λJ2 W2=>?_;have L2:=L1.next W2;have Yy:=L2.2;lk;refine((eK (n:=n-1) G (lp hn rfl))).k01 ?_;lk;obtain z2:=ju L.7 L.8;have z0:=z2.1;have z1:=z2.2;exact⟨rfl,L2.set z0 z1 (by have:=L.9;exact CM this rfl) rfl⟩
theorem bN{d:Mk}{len:Nat}(R:Row J r d len f):J r≠Mq/\J d≠none:=by
 rcases R with⟨rfl,xs,e,_⟩|⟨e,m,em,_⟩;·exact⟨by rw[e];exact nofun,by rw[e];exact nofun⟩
 ·exact⟨by rw[e];exact nofun,by rw[em];exact nofun⟩
theorem LW.Zg(L:LW H J A B w b y rp q s k v){q':Mk}(hq:J q'=Mq)(R:eE J' rp q' l)(keep:∀a c,a≠rp->J a=Mc c->J' a=Mc c):LW H J' A B w b y rp q' s k ⟨v.pl,v.st,l⟩:=by
 have a2:=L.1.neI L.4.1 (by decide) (by decide);have n1:y≠rp:=ub L.2 L.4.1 (by decide);refine⟨⟨λa c e=>keep a c (yx e L.5) (L.1.1 a c e),λj hj=>(L.1.2 j hj).keep λa c h e=>keep a c (λz=>?_) e,⟨keep _ _ a2.1 L.1.3.1,keep _ _ a2.2.1 L.1.3.2⟩,L.1.4,L.1.5,L.1.6,L.1.7,L.1.8,L.1.9⟩,
  keep _ _ n1 L.2,L.3,R,L.5,λj hj=>⟨λz=>(bN (L.1.2 j hj)).1 (by rw[z];exact hq),λz=>(bN (L.1.2 j hj)).2 (by rw[z];exact hq)⟩,L.7,L.8,L.9⟩
 rcases h with h|h;·exact(a2.2.2 j hj).1 (h.symm.trans z)
 ·exact(a2.2.2 j hj).2 (h.symm.trans z)
theorem cB(G:Good Z Kg)(hn:2<=n)(L:LW H J A B w b y rp q s k v)(h0:1<=d)(h1:d<=v.pl):ac Z n (.ref 742) [.ref y,.int d 0] J (λr J'=>r=.none/\J=J'):=by have Yy:=L.2;refine run G (lq hn rfl) ?_;lk;refine((cD (n:=n-1) G (lp hn rfl))).k01 ?_;lk;refine jL (λa=>?_) (λh=>fb 0x108610000f60418470200e [_] [] h0 h);lk;refine wZ (λa=>?_) (λh=>fb 0x108610000f4c118466080e [_,_] [] h1 h);lk;exact⟨rfl,rfl⟩
theorem fW(G:Good Z Kg)(hn:3<=n)(h0:2<=d)(h1:d<=273):ac Z n (.ref 749) [u,.int d 0] J (λr J'=>r=.none/\J=J'):=by refine run G (lq hn rfl) ?_;lk;refine((aZ (n:=n-1) G (lp hn rfl) h0 h1)).k01 ?_;lk;exact⟨rfl,rfl⟩
theorem bT:(0<=bG x/\bG x<=11)/\(0<=gn x/\gn x<=11)/\0<=cJ x/\cJ x<=11:=by unfold bG gn cJ;refine⟨?_,?_,?_⟩<;>split<;>exact⟨by decide,by decide⟩
theorem xN(G:Good Z Kg)(hn:8<=n)(L:LW H J A B w b y rp q s k v)(M:aj H A B)(hk:k+52<=900)(d0:1<=distance)(d1:distance<=v.pl)(d2:v.pl<=2^32)(h0:2<=length)(h1:length<=273):ac Z n (.ref 763) [.ref y,.int distance 0,.int length 0] J (λr J'=>r=.none/\∃q',LW H J' A B w b y rp q' (ah s (B.WV v.st v.pl distance length)) (k+52) ⟨v.pl+length,bG v.st,distance::v.back.take 3⟩):=by have Yy:=L.2;refine run G (lq hn rfl) ?_;lk;refine((cB (n:=n-1) G (lp hn rfl) L d0 d1)).k01 ?_;lk;refine((fW (n:=n-1) G (lp hn rfl) h0 h1)).k01 ?_;lk;refine(jQ (n:=n-1) G (lp hn rfl) L.WH (M.Wq (L.1.1.Xw _)) L.cod hk L.7 L.8 L.9 d0 (OU d1 d2) h0 h1).Wr λJ2 W2=>?_;have L2:=L.next W2;have Yy:=L2.2;have Rr:=L2.4.1;lk;refine(l5 (n:=n-1) G (lp hn rfl) L2.1.1 L2.4 L2.5).Wr λJ3 r1=>?_;refine ae r1.2 λq' z2=>?_;have L3:=L2.Zg z2.1 z2.2.1 z2.2.2;have Yy:=L3.2;lk;refine((b8 (n:=n-1) G (lp hn rfl))).k01 ?_;lk;have z:=(bT (x:=v.st)).1;exact⟨rfl,q',L3.set z.1 z.2 (by have:=L.9;show 0<=v.pl+length;exact aS 0x845086100014cc0502588a03e302012982c0818 [_,_,_] [] d0 d1 h0) rfl⟩
theorem BI(G:Good Z Kg)(hn:8<=n)(L:LW H J A B w b y rp q s k v)(M:aj H A B)(hk:k+15<=900)(hi:i<=3)(d0:1<=v.back.getD i 0)(d1:v.back.getD i 0<=v.pl)(h0:2<=length)(h1:length<=273):ac Z n (.ref 770) [.ref y,.int i 0,.int length 0] J (λr J'=>r=.none/\∃q',LW H J' A B w b y rp q' (ah s (B.XY v.st v.pl i length)) (k+15) ⟨v.pl+length,gn v.st,fT v.back i⟩):=by have Yy:=L.2;have Rr:=L.4.1;refine run G (lq hn rfl) ?_;lk;refine((aZ (n:=n-1) G (lp hn rfl) (Ms _) (nA hi))).k01 ?_;lk;refine av L.4.2 (Ms _) (FG hi rfl) (fL (i:=i) (by rw[L.4.3];exact kG hi rfl)) ?_;lk;refine((cB (n:=n-1) G (lp hn rfl) L d0 d1)).k01 ?_;lk;refine((fW (n:=n-1) G (lp hn rfl) h0 h1)).k01 ?_;lk;refine(su (n:=n-1) G (lp hn rfl) L.WH (M.Wq (L.1.1.Xw _)) L.cod hk L.7 L.8 L.9 (Ms _) (nA hi) h0 h1).Wr λJ2 W2=>?_;have L2:=L.next W2;have Yy:=L2.2;have Rr:=L2.4.1;lk;refine(mI (n:=n-1) G (lp hn rfl) hi L2.1.1 L2.4 L2.5).Wr λJ3 r2=>?_;refine ae r2.2 λq' z1=>?_;have L3:=L2.Zg z1.1 z1.2.1 z1.2.2;have Yy:=L3.2;lk;refine((jk (n:=n-1) G (lp hn rfl))).k01 ?_;lk;have z:=(bT (x:=v.st)).2.1;exact⟨rfl,q',L3.set z.1 z.2 (by have:=L.9;show 0<=v.pl+length;exact aS 0x845086100014cc0502588a03e302012982c0818 [_,_,_] [] d0 d1 h0) rfl⟩
theorem vT(G:Good Z Kg)(hn:8<=n)(L:LW H J A B w b y rp q s k v)(M:aj H A B)(hk:k+4<=900)(d0:1<=v.back.getD 0 0)(d1:v.back.getD 0 0<=v.pl):ac Z n (.ref 777) [.ref y] J (λr J'=>r=.none/\LW H J' A B w b y rp q (ah s (B.Xs v.st v.pl)) (k+4) ⟨v.pl+1,cJ v.st,v.back⟩):=by have Yy:=L.2;have Rr:=L.4.1;refine run G (lq hn rfl) ?_;lk;refine((br (n:=n-1) G (lp hn rfl) L.4)).k01 ?_;lk;refine((cB (n:=n-1) G (lp hn rfl) L d0 d1)).k01 ?_;lk;refine(pB (n:=n-1) G (lp hn rfl) L.WH (M.Wq (L.1.1.Xw _)) L.cod hk L.7 L.8 L.9).Wr λJ2 W2=>?_;have L2:=L.next W2;have Yy:=L2.2;lk;refine((gk (n:=n-1) G (lp hn rfl))).k01 ?_;lk;have z:=(bT (x:=v.st)).2.2;exact⟨rfl,L2.set z.1 z.2 (by have:=L.9;show 0<=v.pl+1;exact ao 0x108610000f64401d302011882c0818 [_,_] [] d0 d1) rfl⟩
theorem rn(G:Good Z Kg)(hn:8<=n)(L:LW H J A B w b y rp q s k v)(M:aj H A B)(hk:k+52<=900):ac Z n (.ref 784) [.ref y] J (λr J'=>r=.none/\LW H J' A B w b y rp q (ah s (B.WV v.st v.pl (2^32) 2)) (k+52) ⟨v.pl,bG v.st,v.back⟩):=by have Yy:=L.2;refine run G (lq hn rfl) ?_;lk;refine(jQ (n:=n-1) (distance:=4294967296) G (lp hn rfl) L.WH (M.Wq (L.1.1.Xw _)) L.cod hk L.7 L.8 L.9 (by decide) (by decide) (by decide) (by decide)).Wr λJ2 W2=>?_;have L2:=L.next W2;have Yy:=L2.2;lk;refine((b8 (n:=n-1) G (lp hn rfl))).k01 ?_;lk;have z:=(bT (x:=v.st)).1;exact⟨rfl,L2.set z.1 z.2 L.9 rfl⟩
section
variable{st:List Md}{k body:T}
end
noncomputable def au(o:Array UInt8)(i:Int):Int:=((o.getD i.toNat 0).toNat:Int)
theorem aJ(o:Array UInt8)(i:Int):0<=au o i/\au o i<=255:=by unfold au;have:=(o.getD i.toNat 0).toNat_lt;exact af 0x2100009c3000138008282ffe2e28b8107f31 [] [_] this
variable{p:aH}{o:Array UInt8}{at':Int}
theorem jy{i:Int}{Q:Md->Sg->Prop}(hs:o.size<=1000000)(h0:0<=i)(h1:i<o.size)(h:Q (.int (au o i) 0) J):fG Z n J Q (.bytes o t) (.int i t'):=by have hl:i.toNat<o.size:=ao 0x108610000f6e2a0faf0488d4140f [_] [_,_] h1 (ME h0);refine .bytes hs h0 (aS 0x847086100014c0000000000000000911285e090ff4240104c8a6090e [_,_] [_] hs h1 ej) (Qo hl) ?_;unfold au at h;rw[P7,Qo hl] at h;exact h
theorem fQ(G:Good Z Kg)(hn:0<n)(hs:o.size<=1000000)(d0:1<=d)(d1:d<=at')(d2:at'<=o.size):ac Z n (.ref 616) [.bytes o 0,.int at' 0,.int d 0] J (λr J'=>r=.int (au o (at' - d)) 0/\J=J'):=by refine run G hn ?_;lk;refine nG (λh=>fb 0x210c20001ec8843a6080e [_,_] [] d1 h) (λa=>?_);lk;refine jy hs (OM d1) (ao 0x210c20001ebc101f302011bcc1a711c [_,_] [_] d0 d2) ?_;lk;exact⟨rfl,rfl⟩
theorem ku(G:Good Z Kg)(hn:2<=n)(L:LW H J A B w b y rp q s k v)(hs:o.size<=1000000)(d0:¬v.st<7->1<=v.back.getD 0 0/\v.back.getD 0 0<=at')(d2:at'<=o.size):ac Z n (.ref 791) [.ref y,.bytes o 0,.int at' 0] J (λr J'=>r=.int (if v.st<7 then 0 else au o (at' - v.back.getD 0 0)) 0/\J=J'):=by
 have Yy:=L.2;have Rr:=L.4.1;refine run G (lq hn rfl) ?_;lk;refine((gd (n:=n-1) G (lp hn rfl))).k01 ?_;refine xV (λh=>?_) (λh=>?_);·have h:=of_decide_eq_true h;lk;exact⟨by rw[if_pos h],rfl⟩
 ·have h:=of_decide_eq_false h;lk;refine((br (n:=n-1) G (lp hn rfl) L.4)).k01 ?_;lk;refine((fQ (n:=n-1) G (lp hn rfl) hs (d0 h).1 (d0 h).2 d2)).k01 ?_;lk;exact⟨by rw[if_neg h],rfl⟩
theorem sC(G:Good Z Kg)(hn:0<n){len:Nat}(hs:o.size<=100000)(d0:1<=d)(d1:d<=at')(d2:at'+len<=o.size)(same:∀j:Nat,j<len->au o (at'+j)=au o (at'+j-d)):ac Z n (.ref 609) [.bytes o 0,.int at' 0,.int d 0,.int len 0] J (λr J'=>r=.bool Mh/\J=J'):=by
 refine run G hn ?_;lk;refine jL (λa=>?_) (λh=>fb 0x108610000f60418470200e [_] [] d0 h);lk;refine wZ (λa=>?_) (λh=>fb 0x108610000f4c118466080e [_,_] [] d1 h);lk;refine .bytes (db hs rfl) ?_;refine nG (λh=>fb 0x843080007af05d71c8fd7bc16781f [_] [_,_] d2 h) (λa=>?_);lk;refine ue (c:=len) [(IX,.bytes o 0),(JS,.int d 0)] (ao 0x843080007b2200e981008c080b [_,_] [] d0 d1) (ao 0x108610000f57bc16781fc3500a1190fa1200bc16782f [_] [_,_] hs d2) rfl ?_ ?_;·intro j Q' hj hnext _;lk;refine jy (db hs rfl) (ao 0x10c210c200029c8803a604023782c0819 [_,_] [_] d0 d1) (ao 0x421840003d2828215e5e0b481157bc16791f [_] [_,_,_] d2 hj) ?_;lk;refine jy (db hs rfl) (af 0x218420001ec8803a6f059f40826 [_,_] [_] d1) (aS 0x845086100014ca0a08579782d2045302011af3782cfae12c [_,_] [_,_,_] d0 d2 hj) ?_;lk;refine aK (λa=>?_) (λh=>absurd (same j hj) h);lk;exact hnext rfl
 ·lk;exact⟨rfl,rfl⟩
inductive aH where
 |lit
 |mat(d sz:Int)
 |rep(i:Nat)(sz:Int)
 |short
noncomputable def aH.vals:aH->List Md
 |.lit=>[.str "lit" 0]
 |.mat d sz=>[.str "match" 0,.int d 0,.int sz 0]
 |.rep i sz=>[.str "rep" 0,.int i 0,.int sz 0]
 |.short=>[.str "short" 0]
noncomputable def aH.len:aH->Int
 |.lit=>1
 |.mat _ sz=>sz
 |.rep _ sz=>sz
 |.short=>1
theorem l7(G:Good Z Kg)(hn:3<=n)(h:J a=Mc (.tup p.vals))(l0:1<=p.len)(l1:p.len<=273)(l2:∀d sz,p=.mat d sz->2<=sz)(l3:∀i sz,p=.rep i sz->2<=sz):ac Z n (.ref 602) [.ref a] J (λr J'=>r=.int p.len 0/\J=J'):=by
 refine run G (lq hn rfl) ?_;lk;refine ir (r:=Mh) ?_ (.tup h);lk;refine jD h (by cases p<;>exact MF rfl) ?_;refine aB (aK (λz=>by cases p<;>exact absurd (Int.ofNat.inj z) (Nat.succ_ne_zero _)) (λb=>?_));induction p with
 |lit=>lk;refine am h (by decide) (by decide) rfl ?_;refine cu (r:=Mh) (r':=Mg) ?_ (by decide) rfl;lk;refine am h (by decide) (by decide) rfl ?_;refine cu (r:=Mh) (r':=Mh) ?_ (by decide) rfl;lk;refine jD h (MF rfl) ?_;refine aB (aK (λb=>?_) (λz=>absurd rfl z));lk;exact⟨rfl,rfl⟩
 |mat d sz=>lk;refine am h (by decide) (by decide) rfl ?_;refine cu (r:=Mh) (r':=Mg) ?_ (by decide) rfl;lk;refine am h (by decide) (by decide) rfl ?_;refine cu (r:=Mg) (r':=Mg) ?_ (by decide) rfl;lk;refine jD h (MF rfl) ?_;refine aB (aK (λb=>?_) (λz=>absurd rfl z));lk;refine am h (by decide) (by decide) rfl ?_;lk;refine((cD (n:=n-1) G (lp hn rfl))).k01 ?_;lk;refine am h (by decide) (by decide) rfl ?_;lk;refine((aZ (n:=n-1) G (lp hn rfl) (l2 _ _ rfl) l1)).k01 ?_;lk;refine am h (by decide) (by decide) rfl ?_;lk;exact⟨rfl,rfl⟩
 |rep i sz=>lk;refine am h (by decide) (by decide) rfl ?_;refine cu (r:=Mh) (r':=Mg) ?_ (by decide) rfl;lk;refine am h (by decide) (by decide) rfl ?_;refine cu (r:=Mg) (r':=Mg) ?_ (by decide) rfl;lk;refine jD h (MF rfl) ?_;refine aB (aK (λb=>?_) (λz=>absurd rfl z));lk;refine am h (by decide) (by decide) rfl ?_;lk;refine((cD (n:=n-1) G (lp hn rfl))).k01 ?_;lk;refine am h (by decide) (by decide) rfl ?_;lk;refine((aZ (n:=n-1) G (lp hn rfl) (l3 _ _ rfl) l1)).k01 ?_;lk;refine am h (by decide) (by decide) rfl ?_;lk;exact⟨rfl,rfl⟩
 |short=>lk;refine am h (by decide) (by decide) rfl ?_;refine cu (r:=Mh) (r':=Mg) ?_ (by decide) rfl;lk;refine am h (by decide) (by decide) rfl ?_;refine cu (r:=Mh) (r':=Mh) ?_ (by decide) rfl;lk;refine jD h (MF rfl) ?_;refine aB (aK (λb=>?_) (λz=>absurd rfl z));lk;exact⟨rfl,rfl⟩
noncomputable def aH.Zd(v:LS):aH->Int
 |.mat d _=>d
 |.rep i _=>v.back.getD i 0
 |_=>v.back.getD 0 0
noncomputable def aH.next(v:LS):aH->LS
 |.lit=>⟨v.pl+1,gR v.st,v.back⟩
 |.mat d sz=>⟨v.pl+sz,bG v.st,d::v.back.take 3⟩
 |.rep i sz=>⟨v.pl+sz,gn v.st,fT v.back i⟩
 |.short=>⟨v.pl+1,cJ v.st,v.back⟩
noncomputable def aH.evs(B:MA)(o:Array UInt8)(v:LS):aH->List Ev
 |.lit=>B.Xo v.st v.pl (if 0<v.pl then au o (v.pl-1) else 0) (au o v.pl) (if v.st<7 then 0 else au o (v.pl-v.back.getD 0 0))
 |.mat d sz=>B.WV v.st v.pl d sz
 |.rep i sz=>B.XY v.st v.pl i sz
 |.short=>B.Xs v.st v.pl
inductive aH.X8(o:Array UInt8)(v:LS)(p:aH):Prop where
 |mk (small:o.size<=1000)
  (fit:v.pl+p.len<=o.size)
  (mat:∀d sz,p=.mat d sz->2<=sz/\sz<=273)
  (rep:∀i sz,p=.rep i sz->i<=3/\2<=sz/\sz<=273)
  (lit:p=.lit->¬v.st<7->1<=v.back.getD 0 0/\v.back.getD 0 0<=v.pl)
  (far:p≠.lit->1<=p.Zd v/\p.Zd v<=v.pl)
  (same:p≠.lit->∀j:Nat,j<p.len->au o (v.pl+j)=au o (v.pl+j-p.Zd v))
theorem mA(G:Good Z Kg)(hn:3<=n)(L:LW H J A B w b y rp q s k v)(h:J a=Mc (.tup p.vals))(hl:p≠.lit)(hr:∀i sz,p=.rep i sz->i<=3):ac Z n (.ref 798) [.ref y,.ref a] J (λr J'=>r=.int (p.Zd v) 0/\J=J'):=by
 have Yy:=L.2;have Rr:=L.4.1;refine run G (lq hn rfl) ?_;induction p with
 |lit=>exact absurd rfl hl
 |mat d sz=>lk;refine am h (by decide) (by decide) rfl ?_;refine aB (aO (r:=Mh) ?_ (by decide));lk;refine am h (by decide) (by decide) rfl ?_;lk;exact⟨rfl,rfl⟩
 |rep i sz=>have hi:=hr i sz rfl;lk;refine am h (by decide) (by decide) rfl ?_;refine aB (aO (r:=Mg) ?_ (by decide));lk;refine am h (by decide) (by decide) rfl ?_;refine aB (aO (r:=Mh) ?_ (by decide));lk;refine am h (by decide) (by decide) rfl ?_;lk;refine((aZ (n:=n-1) G (lp hn rfl) (Ms _) (nA hi))).k01 ?_;lk;refine am h (by decide) (by decide) rfl ?_;refine EB ?_;refine av L.4.2 (Ms _) (FG hi rfl) (fL (i:=i) (by rw[L.4.3];exact kG hi rfl)) ?_;lk;exact⟨rfl,rfl⟩
 |short=>lk;refine am h (by decide) (by decide) rfl ?_;refine aB (aO (r:=Mg) ?_ (by decide));lk;refine am h (by decide) (by decide) rfl ?_;refine aB (aO (r:=Mg) ?_ (by decide));lk;refine((br (n:=n-1) G (lp hn rfl) L.4)).k01 ?_;lk;exact⟨rfl,rfl⟩
theorem nN(G:Good Z Kg)(hn:9<=n)(L:LW H J A B w b y rp q s k v)(M:aj H A B)(hk:k+52<=900)(ha:H a=Mc (.tup p.vals))(V:p.X8 o v):ac Z n (.ref 805) [.ref y,.ref a,.bytes o 0,.int v.pl 0] J (λr J'=>r=.int (v.pl+p.len) 0/\∃q',LW H J' A B w b y rp q' (ah s (p.evs B o v)) (k+52) (p.next v)):=by
 have Yy:=L.2;have pa:=L.1.1 _ _ ha;have hs:=V.1;have hf:=V.2;have hp0:=L.9;have hlen:1<=p.len/\p.len<=273:=by
  induction p with
  |lit=>exact⟨by decide,by decide⟩
  |mat d sz=>have:=V.3 d sz rfl;exact⟨by show 1<=sz;exact af 0x42000138888230141fcbb0200e [_] [] this,this.2⟩
  |rep i sz=>have:=V.4 i sz rfl;exact⟨by show 1<=sz;exact af 0x84200271110460283fe209a1d1f0200e [_] [_] this,this.2.2⟩
  |short=>exact⟨by decide,by decide⟩
 refine run G (lq hn rfl) ?_;lk;refine((l7 (n:=n-1) G (lp hn rfl) pa hlen.1 hlen.2 (λd sz e=>(V.3 d sz e).1) (λi sz e=>(V.4 i sz e).2.1))).k01 ?_;lk;refine .bytes (db hs rfl) ?_;refine nG (λh=>fb 0x210c20001e982ee291cbcc16701c [_,_] [_] hf h) (λc=>?_);lk;by_cases hl:p=.lit
 ·subst hl;refine am pa (by decide) (by decide) rfl ?_;refine aB (aO (r:=Mh) ?_ (by decide));lk;have tail:∀before:Int,before=(if 0<v.pl then au o (v.pl-1) else 0)->0<=before->before<=255->∀Q':Out->Sg->Prop,(∀r J',(r=.int (v.pl+aH.lit.len) 0/\∃q',LW H J' A B w b y rp q' (ah s (aH.lit.evs B o v)) (k+52) (aH.lit.next v))->Q' (.ret r) J')->
    X Z (n-1) Q' [] J [(JL,.ref y),(IX,.bytes o 0),(IW,.int v.pl 0)] [.int before 0] (.st JU<|.ld JL<|.meth 30515246123868524<|.ld IX<|.ld IW<|.idx<|.ld JU<|.ld JL<|.meth IV<|.ld IX<|.ld IW<|.XM 2<|.XM 3<|.pop<|.ld IW<|.cst (.int 1 0)<|.bin .add<|.ret):=by
   intro before hb b0 b1 Q' hQ
   lk
   refine jy (db hs rfl) hp0 (by have:v.pl+1<=o.size:=hf;exact this) ?_
   lk
   refine((ku (n:=n-1) G (lp hn rfl) L (db hs rfl) (V.5 rfl) (Nl hf))).k01 ?_
   have z1:=aJ o v.pl
   have z2:=aJ o (v.pl-v.back.getD 0 0)
   lk
   refine(sG (n:=n-1) G (lp hn rfl) L M (af 0x1080004f841a0826a32ae10488269328 [] [_] hk) z1.1 z1.2 b0 b1 (by split<;>exact Ms _) (by have:=z2.2;split<;>lia)).Wr λJ2 L2=>?_
   lk
   refine hQ _ _ ⟨rfl,q,?_⟩
   rw[hb] at L2
   exact⟨L2.1.le (ck 0xe8209c8826932f [] [_]),L2.2,L2.3,L2.4,L2.5,L2.6,L2.7,L2.8,L2.9⟩
  refine nG (λh=>?_) (λh=>?_);·lk;refine((fQ (n:=n-1) G (lp hn rfl) (db hs rfl) (Ms _) h (Nl hf))).k01 ?_;have z:=aJ o (v.pl-1);exact s9 (fD (tail _ (if_pos h).symm z.1 z.2 _ λr J' hr=>hr) rfl)
  ·exact aB (s9 (fD (tail _ (if_neg h).symm (by decide) (by decide) _ λr J' hr=>hr) rfl))
 ·refine am (v:=p.vals.headD .none) pa (by decide) (by decide) (by cases p<;>rfl) ?_;have e0:∃x:Nn,p.vals.headD .none=.str x 0/\M0 (x=("lit":Nn))=false:=by
   cases p with
   |lit=>exact absurd rfl hl
   |mat d sz=>exact⟨_,rfl,by decide⟩
   |rep i sz=>exact⟨_,rfl,by decide⟩
   |short=>exact⟨_,rfl,by decide⟩
  refine ae e0 λx z5=>?_;rw[z5.1];refine aB (aO (r:=Mg) ?_ z5.2);lk;refine((mA (n:=n-1) G (lp hn rfl) L pa hl (λi sz e=>(V.4 i sz e).1))).k01 ?_;have hd:=V.6 hl;lk;refine((cB (n:=n-1) G (lp hn rfl) L hd.1 hd.2)).k01 ?_;lk;have el:p.len=((p.len.toNat:Nat):Int):=ao 0x42100138400027b8a83ef0407de0a0f [_] [_] (Nh _) (ME (af 0x42000138888230203b96c080b [_] [] hlen));rw[el];refine((sC (n:=n-1) G (lp hn rfl) (db hs rfl) hd.1 hd.2 (ao 0x108a10000f5e444255e60b380f57bc16781f [_,_] [_,_] hf el) (λj hj=>V.7 hl j (ao 0x108a10800f54140faf0508ee290f [_] [_,_] el hj)))).k01 ?_;lk;induction p with
  |lit=>exact absurd rfl hl
  |mat d sz=>obtain z4:=V.3 d sz rfl;refine am pa (by decide) (by decide) rfl ?_;refine aB (aO (r:=Mh) ?_ (by decide));lk;rw[<-el];refine(xN (n:=n-1) G (lp hn rfl) L M hk hd.1 hd.2 (iK 0x10961142184000690000000012223188888a230204b9ade3059e077e8104c626080e [_,_,_] [_] hs hf hlen vK) z4.1 z4.2).Wr λJ2 r1=>?_;refine ae r1 λq' L2=>?_;lk;exact⟨rfl,q',L2⟩
  |rep i sz=>obtain z3:=V.4 i sz rfl;refine am pa (by decide) (by decide) rfl ?_;refine aB (aO (r:=Mg) ?_ (by decide));lk;refine am pa (by decide) (by decide) rfl ?_;refine aB (aO (r:=Mh) ?_ (by decide));lk;refine am pa (by decide) (by decide) rfl ?_;lk;rw[<-el];refine(BI (n:=n-1) G (lp hn rfl) L M (af 0x1080004f841a0826a32ae10788269328 [] [_] hk) z3.1 hd.1 hd.2 z3.2.1 z3.2.2).Wr λJ2 r2=>?_;refine ae r2 λq' L2=>?_;lk;exact⟨rfl,q',L2.1.le (ck 0xe8209f8826932f [] [_]),L2.2,L2.3,L2.4,L2.5,L2.6,L2.7,L2.8,L2.9⟩
  |short=>refine am pa (by decide) (by decide) rfl ?_;refine aB (aO (r:=Mg) ?_ (by decide));lk;refine am pa (by decide) (by decide) rfl ?_;refine aB (aO (r:=Mg) ?_ (by decide));lk;refine(vT (n:=n-1) G (lp hn rfl) L M (af 0x8400027c20d04135195708208268b27 [] [_] hk) hd.1 hd.2).Wr λJ2 L2=>?_;lk;exact⟨rfl,q,L2.1.le (ck 0x74104e08268b2e [] [_]),L2.2,L2.3,L2.4,L2.5,L2.6,L2.7,L2.8,L2.9⟩
noncomputable def dO(H:Sg)(sa:Mk)(ps:List aH):Prop:=∃as:List Mk,H sa=Mc (.list (as.map MJ))/\as.length=ps.length/\∀(j:Nat)(p:aH),ps[j]?=Mc p->∃a,as[j]?=Mc a/\H a=Mc (.tup p.vals)
noncomputable def f7(B:MA)(o:Array UInt8):CS->LS->List aH->CS×LS
 |s,v,[]=>(s,v)
 |s,v,p::r=>f7 B o (ah s (p.evs B o v)) (p.next v) r
noncomputable def aX(o:Array UInt8):LS->List aH->Prop
 |_,[]=>True
 |v,p::r=>p.X8 o v/\aX o (p.next v) r
theorem gZ(v:LS)(p:aH):(p.next v).pl=v.pl+p.len:=by cases p<;>rfl
variable{ps:List aH}{sa:Mk}
theorem mu(G:Good Z Kg)(hn:10<=n)(L:LW H J A B w b y rp q s k v)(M:aj H A B)(hk:k+52*ps.length<=900)(hs:dO H sa ps)(V:aX o v ps):ac Z n (.ref 812) [.ref y,.ref sa,.bytes o 0,.int v.pl 0] J (λr J'=>r=.int (f7 B o s v ps).2.pl 0/\∃q',LW H J' A B w b y rp q' (f7 B o s v ps).1 (k+52*ps.length) (f7 B o s v ps).2):=by
 refine ae hs λas z7=>?_;refine run G (lq hn rfl) ?_;lk;refine eS (xs:=as.map MJ) (λ_ (v':LS) _=>[(JL,.ref y),(IX,.bytes o 0),(IW,.int v'.pl 0)]) (λj s' v' q' J'=>∃k',j<=ps.length/\LW H J' A B w b y rp q' s' k' v'/\aX o v' (ps.drop j)/\f7 B o s' v' (ps.drop j)=f7 B o s v ps/\k'+52*(ps.length-j)=k+52*ps.length) s v q ⟨k,Nb _,L,V,rfl,rfl⟩ (by rfl) ?_ ?_ ?_;·exact λc c c c c I0=>I0.elim λc z6=>z6.2.1.1.1 _ _ z7.1
 ·intro j u s' v' q' J' Q' hu I0 hnext _;refine ae I0 λk' z5=>?_;have V':=z5.2.2.1;have e:=z5.2.2.2.1;have hlt:j<ps.length:=by have:=(MK.mp hu).1;rw[Mt] at this;exact ao 0x422840003d28282152168954140f [] [_,_,_] z7.2.1 this
  refine ae (z7.2.2 j _ (MG hlt)) λa z4=>?_;rw[ML,z4.1] at hu;obtain rfl:MJ a=u:=MI hu;rw[Og hlt] at V' e;have Yy:=z5.2.1.2;lk;refine(nN (n:=n-1) G (lp hn rfl) z5.2.1 M (iK 0x6862e861c21840007d28b42b52914a21a0a4b404ca11eb404c827154fe104b404ca11c8ceb841a0826a32a [] [_,_,_,_,_] hk z5.2.2.2.2 hlt (Me (af Kw [] [_,_] hlt))) z4.2 V'.1).Wr λJ2 r1=>?_;refine ae r1 λq2 L2=>?_;lk;exact hnext _ _ q2 ⟨_,hlt,L2,V'.2,e,aS 0x1a189a18708400cf4317430a100019eaa8866ad23d45433a11c14bb5a026485716809904e3aa3ad013242bad01334104d479d61 [] [_,_,_,_,_,_] z5.2.2.2.2 (Me (af KA [] [_,_] hlt)) (Me (af Kw [] [_,_] hlt))⟩ (by show Wk _ [_,_,(IW,.int (aH.next v' ps[j]).pl 0)];rw[gZ];rfl)
 ·intro s' v' q' J' r2;refine ae r2 λk' z3=>?_;have e:=z3.2.2.2.1;rw[Mt,z7.2.1] at*;rw[TS] at e;have e1:s'=(f7 B o s v ps).1:=congrArg RB e;have e2:v'=(f7 B o s v ps).2:=congrArg Vm e;lk;refine⟨by rw[<-e2],q',?_⟩;rw[<-e1,<-e2];have:k'=k+52*ps.length:=ao 0x1a185084008f430e100011ca5a15a74865a026508f5a0264138aa7cb404ca11c152f [] [_,_,_,_] z3.2.2.2.2 (Me (ck 0x34130d [] [_]));rw[<-this];exact z3.2.1
noncomputable def ES.init:ES:=⟨[],0,4294967295,0,1⟩
theorem pO:ES.init.Ok 0:=⟨⟨by decide,by decide,by decide,by decide,by decide,by decide,by decide⟩,by decide⟩
theorem bz(G:Good Z Kg)(hn:0<n){C f:Mk}{Q:Md->Sg->Prop}(hf:mt C 6872327479327219551=Mc f)(h:∀x,J x=Mq->ac Z (n-1) (.ref f) (.ref x::args) (upd J x (.Wu C [])) (λv J'=>v=.none/\Q (.ref x) J')):ac Z n (.ref C) args J Q:=by obtain⟨m,rfl⟩:∃m,n=m+1:=⟨n-1,af Kx [] [_,_] (Me (af 0x2100009c060650230f [] [_] hn))⟩;exact aaE G.base hf h
theorem m7(G:Good Z Kg)(hn:2<=n):ac Z n (.ref 1095) [] J (λr J'=>bM λw b=>r=.ref w/\J w=Mq/\J b=Mq/\Sub J J'/\vw J' w b ES.init Mg):=by
 refine bz G (lq hn rfl) fa λx hx=>?_;refine run G (Ov hn) ?_;lk;refine pd λz hz=>?_;have hxz:x≠z:=λe=>by rw[<-e,aa] at hz;cases hz
 have hzx:=hxz.symm;have hσz:J z=none:=by rw[ag _ _ hzx] at hz;exact hz
 lk;refine⟨rfl,x,z,rfl,hx,hσz,((Sub.rfl.upd hx _).upd hσz _).upd hx _,aa _ _ _,(ag _ _ hzx).trans (aa _ _ _)⟩
noncomputable def ES.WW(e:ES):ES:=e.WA.WA.WA.WA.WA
noncomputable def vS:Nat->ES->ES
 |0,e=>e
 |c+1,e=>vS c e.WA
theorem tF(G:Good Z Kg)(hn:2<=n)(W:WS H J A w b s k)(hk:k+5<=900):ac Z n (.ref 1092) [.ref w] J (λr J'=>r=.bytes s.1.WW.made.toArray 0/\Sub H J'/\aD J' A s.2):=by
 obtain⟨sub,rows,wri,hw,hb,off,apt,ok,mok⟩:=W;have hwb:w≠b:=mf wri.1 wri.2 rfl;have hbw:=hwb.symm;have Ww:=wri.1;have P:∀l,l<18->∀a,(a=A.ra l∨a=A.da l)->a≠w/\a≠b:=λl hl a ha=>by
  have h1:=(rows l hl).neI wri.1 (by decide);have h2:=(rows l hl).neB wri.2;rcases ha with rfl|rfl
  ·exact⟨h1.1,h2.1⟩
  ·exact⟨h1.2,h2.2⟩
 refine run G (lq hn rfl) ?_;lk;refine fF (λ_ (_ _:Unit)=>[(JL,.ref w)]) (λj e' d d J'=>j<=5/\Sub (aV H J λa=>∃l,l<18/\(a=A.ra l∨a=A.da l)) J'/\vw J' w b e' Mg/\ES.Ok (k+j) e'/\vS (5-j) e'=s.1.WW)
  s.1 () () (c:=5) (by decide) ⟨by decide,sub.WT _,wri,ok,rfl⟩ rfl ?_ ?_
 ·intro j e' _ _ J' Q' hj z2 hnext _;have Ww:=z2.2.2.1.1;lk;refine(rk (n:=n-1) G (lp hn rfl) z2.2.1 (ai (λz=>ae z λl z=>(P l z.1 w z.2).1 rfl) hw) (ai (λz=>ae z λl z=>(P l z.1 b z.2).2 rfl) hb) z2.2.2.1 z2.2.2.2.1.toWk (ao 0x108610000f5142413e105104d164fc20a8267b25 [] [_,_] hk hj)).XW λJ2 S2 W2=>?_;lk;refine hnext e'.WA () () ⟨hj,S2,W2,z2.2.2.2.1.toWk.WA,?_⟩ rfl;·rw[<-z2.2.2.2.2,show 5-j=(5-(j+1))+1 from ao 0x108a10800f423840003d4448574237e97512826851f8a11c151c [] [_,_,_] (Me (af 0x1080004e882823441311 [] [_] hj)) (Me (af 0x2100009d105046888267b1e [] [_] hj))];rfl
 ·intro e' _ _ J' z1;have Ww:=z1.2.2.1.1;have Bb:=z1.2.2.1.2;have e5:e'=s.1.WW:=z1.2.2.2.2;lk;refine rg ?_ ((ag _ _ hbw).trans Bb) (by have:=z1.2.2.2.1.Wj;have:=z1.2.2.2.1.held;lia);lk;refine⟨by rw[<-e5],(sub.Xi z1.2.1).upd hw _,λl hl=>?_⟩;have r0:Row J' (A.ra l) (A.da l) (A.len l) (s.2 l):=(rows l hl).keep λa c h e=>z1.2.1.at ⟨l,hl,h⟩ e;exact r0.upd (P l hl _ (.inl rfl)).1 (P l hl _ (.inr rfl)).1
variable{marked:Bool}
theorem kB(G:Good Z Kg)(hn:2<=n)(HT:Z.kt 361=Mc (bt [1,1,1,1])):ac Z n (.ref 407) [] J (λr J'=>bM λrp q=>r=.ref rp/\J rp=Mq/\J q=Mq/\Sub J J'/\eE J' rp q [1,1,1,1]):=by
 refine bz G (lq hn rfl) kh λx hx=>?_;have T1:=Wt hx (.Wu 407 []);refine run G (Ov hn) ?_;lk;refine wD HT (by decide) λz hz=>?_;have T2:=T1.trans (Wt hz (.list (bt [1,1,1,1])));have hxz:x≠z:=λe=>by rw[<-e,aa] at hz;cases hz
 have hzx:=hxz.symm;lk;exact⟨rfl,x,z,rfl,hx,T1.none hz,T2.upd hx _,aa _ _ _,(ag _ _ hzx).trans (aa _ _ _),rfl⟩
theorem pI(G:Good Z Kg)(hn:4<=n)(HT:Z.kt 361=Mc (bt [1,1,1,1])){m:Mk}:ac Z n (.ref 822) [.ref m,.ref w] J (λr J'=>oz λy rp q=>r=.ref y/\J y=Mq/\J rp=Mq/\J q=Mq/\Sub J J'/\ J' y=Mc (.Wu 822 [(Js,.ref m),(Jy,.ref w),(Ju,.int 0 0),(Jw,.int 0 0),(Jv,.ref rp)])/\eE J' rp q [1,1,1,1]):=by
 refine bz G (lq hn rfl) fk λx hx=>?_;refine run G (yw hn rfl) ?_;lk;refine run G (aS KY [] [_,_,_] hn (Me (af KI [] [_] hn)) (Me (ao KO [] [_,_] hn (Me (af KI [] [_] hn))))) ?_;lk;lk;have T1:=Wt hx (.Wu 822 (sf (sf (sf (sf [] Js (.ref m)) Jy (.ref w)) Ju (.int 0 0)) Jw (.int 0 0)));refine(kB (n:=n-1-1) G (aS Lw [] [_,_,_] hn (Me (af KI [] [_] hn)) (Me (ao KO [] [_,_] hn (Me (af KI [] [_] hn))))) HT).Wq (MC _) ?_;intro _ J2 I0;refine bI I0 λrp q z1=>?_;rw[z1.1];have h1:=z1.2.1;have h2:=z1.2.2.1;have Xx:=z1.2.2.2.1 _ _ (aa _ _ _);have hxr:rp≠x:=λe=>by rw[e,aa] at h1;cases h1
 have hxq:q≠x:=λe=>by rw[e,aa] at h2;cases h2
 lk;refine⟨rfl,x,rp,q,rfl,hx,T1.none h1,T1.none h2,(T1.trans z1.2.2.2.1).upd hx _,aa _ _ _,(ag _ _ hxr).trans z1.2.2.2.2.1,(ag _ _ hxq).trans z1.2.2.2.2.2,rfl⟩
noncomputable def v0:LS:=⟨0,0,[1,1,1,1]⟩
noncomputable def fq(B:MA)(o:Array UInt8)(C:Nat->Int->Int)(ps:List aH)(marked:Bool):CS:=
 if marked then ah (f7 B o (ES.init,C) v0 ps).1 (B.WV (f7 B o (ES.init,C) v0 ps).2.st (f7 B o (ES.init,C) v0 ps).2.pl (2^32) 2) else(f7 B o (ES.init,C) v0 ps).1
theorem gQ(G:Good Z Kg)(hn:12<=n)(S:Sub H J)(R:aD J A C)(off:Off H A)(apt:A.Apt)(M:aj H A B)(mok:oJ C)(HT:Z.kt 361=Mc (bt [1,1,1,1]))(hps:ps.length<=4)(hs:dO H sa ps)(osm:o.size<=1000)(V:aX o v0 ps)(fin:(f7 B o (ES.init,C) v0 ps).2.pl=o.size):ac Z n (.ref 1160) [.ref B.m,.ref sa,.bytes o 0,.bool marked] J (λr J'=>r=.bytes (fq B o C ps marked).1.WW.made.toArray 0/\Sub H J'/\aD J' A (fq B o C ps marked).2/\oJ (fq B o C ps marked).2):=by
 refine run G (lq hn rfl) ?_;lk;refine(m7 (n:=n-1) G (lp hn rfl)).Z7 λJ1 w b hw hb S1 W1=>?_;lk;refine(pI (n:=n-1) G (lp hn rfl) HT).aa4 λJ2 y rp q hy hr hq S2 Yo Rp=>?_;have L:LW H J2 A B w b y rp q (ES.init,C) 0 v0:=by have S12:=S1.trans S2;refine⟨⟨S.trans S12,λj hj=>(R j hj).keep λa c a e=>S12 _ _ e,⟨S2 _ _ W1.1,S2 _ _ W1.2⟩,S.none hw,S.none hb,off,apt,pO,mok⟩,Yo,(S.trans S1).none hy,Rp,(S.trans S1).none hr,λj hj=>?_,by decide,by decide,by decide⟩;have hsome:=bN ((R j hj).keep (J':=J1) λa c a e=>S1 _ _ e);exact⟨λz=>hsome.1 (by rw[z];exact hq),λz=>hsome.2 (by rw[z];exact hq)⟩
 have Yy:=L.2;lk;refine(mu (n:=n-1) (v:=v0) G (yw hn rfl) L M (af 0x1a1800031041311e105a026016f334 [] [_] hps) hs V).Wr λJ3 r1=>?_;refine ae r1 λq3 L3=>?_;have Yy:=L3.2;have Ww:=L3.1.3.1;lk;refine .bytes (db osm rfl) ?_;refine aK (λa=>?_) (λh=>absurd fin h);lk;induction marked with
 |true=>lk;refine(rn (n:=n-1) G (lp hn rfl) L3 M (af 0x6860000c4104c47841a0b404c02de78346 [] [_] hps)).Wr λJ4 L4=>?_;have Yy:=L4.2;have Ww:=L4.1.3.1;lk;refine(tF (n:=n-1) G (lp hn rfl) L4.1 (af 0x343000062082623c20a3416809805bcf07fb55 [] [_] hps)).XW λJ5 S5 R5=>?_;lk;exact⟨rfl,S5,R5,L4.1.9⟩
 |false=>lk;refine(tF (n:=n-1) G (lp hn rfl) L3.1 (af 0xd0c00018820988f0828b404c02de76b43 [] [_] hps)).XW λJ5 S5 R5=>?_;lk;exact⟨rfl,S5,R5,L3.1.9⟩
structure DS where
 place:Int
 span:Int
 WE:Int
inductive uX(J:Sg)(r:Mk)(o:Array UInt8)(d:DS):Prop where
 |mk (r:J r=Mc (.Wu 1011 [(JC,.bytes o 0),(1937010544,.int o.size 0),(JE,.int 0 0),(Ju,.int d.place 0),(JD,.int d.span 0),(JB,.int d.WE 0)]))
inductive DS.Ok(d:DS):Prop where
 |mk (p0:0<=d.place)
  (c0:0<=d.WE)
  (c1:d.WE<d.span)
  (s1:d.span<4294967296)
noncomputable def DS.room(o:Array UInt8)(d:DS):Prop:=d.span<16777216->d.place<o.size
noncomputable def DS.fill(o:Array UInt8)(d:DS):DS:=if d.span<16777216 then⟨d.place+1,d.span*256,d.WE*256+au o d.place⟩ else d
noncomputable def DS.get(d:DS)(m:Int):Int:=if d.span/2048*m<=d.WE then 1 else 0
noncomputable def DS.pre(d:DS)(m:Int):DS:=if d.span/2048*m<=d.WE then⟨d.place,d.span-d.span/2048*m,d.WE-d.span/2048*m⟩ else⟨d.place,d.span/2048*m,d.WE⟩
noncomputable def DS.YT(d:DS):Int:=if d.span/2<=d.WE then 1 else 0
noncomputable def DS.WD(d:DS):DS:=if d.span/2<=d.WE then⟨d.place,d.span/2,d.WE-d.span/2⟩ else⟨d.place,d.span/2,d.WE⟩
variable{d:DS}
theorem DS.Ok.pre(h:d.Ok){m:Int}(m0:0<=m)(m1:m<=2048):(d.pre m).Ok:=by obtain⟨h1,h2,h3,h4⟩:=h;obtain z3:=i7 (s:=d.span) (ao 0x108610000f64421d204074080b [_,_] [] h2 h3) m0 m1;have p1:=z3.1;have p2:=z3.2;unfold DS.pre;split<;>refine⟨?_,?_,?_,?_⟩<;>dsimp only<;>lia
theorem DS.Ok.fill(h:d.Ok)(o:Array UInt8):(d.fill o).Ok:=by
 obtain⟨h1,h2,h3,h4⟩:=h;obtain z2:=aJ o d.place;have p1:=z2.1;have p2:=z2.2;unfold DS.fill;split;·refine⟨?_,?_,?_,?_⟩<;>dsimp only<;>lia
 ·exact⟨h1,h2,h3,h4⟩
theorem kq(G:Good Z Kg)(hn:0<n)(S:Sub H J)(hr:H r=Mq)(D:uX J r o d)(os:o.size<=1000000)(p0:0<=d.place)(p1:d.place<o.size):ac Z n (.ref 952) [.ref r] J (λv J'=>v=.int (au o d.place) 0/\Sub H J'/\uX J' r o ⟨d.place+1,d.span,d.WE⟩):=by have Rr:=D.1;refine run G hn ?_;lk;refine xh (λh=>fb 0x843080007b71407de090f [_] [_] p1 h) (λa=>?_);lk;refine jy os (af 0x42000138101711059d40825 [_] [] p0) (af 0x4200013bc121f78882cead929 [_] [_] p1) ?_;lk;exact⟨by rw[show d.place+1-1=d.place from ck 0x4038882ceada25 [_] []],S.upd hr _,⟨aa _ _ _⟩⟩
theorem ru(G:Good Z Kg)(hn:2<=n)(S:Sub H J)(hr:H r=Mq)(D:uX J r o d)(os:o.size<=1000000)(ok:d.Ok)(rm:d.room o):ac Z n (.ref 980) [.ref r] J (λv J'=>v=.none/\Sub H J'/\uX J' r o (d.fill o)):=by
 have Rr:=D.1;have c0:=ok.2;have c1:=ok.3;have s1:=ok.4;refine run G (lq hn rfl) ?_;lk;refine bQ (λh=>?_) (λh=>?_);·lk;rw[Cp];refine(kq (n:=n-1) (d:=⟨d.place,d.span*256,d.WE⟩) G (lp hn rfl) (S.upd hr _) hr ⟨aa _ _ _⟩ os ok.1 (rm h)).XW λJ2 S2 D2=>?_;have Rr:=D2.1;have z:=aJ o d.place;have eo:Ob (d.WE*256) (au o d.place)=d.WE*256+au o d.place:=o9 (k:=8) c0 z.1 (ao 0x211c21001e8009110cff88220417ca66090e [_,_] [] z Bo);lk;rw[show({place:=d.place,span:=d.span*256,WE:=d.WE}:DS).place=d.place from rfl,eo];refine⟨rfl,S2.upd hr _,⟨(aa _ _ _).trans ?_⟩⟩;unfold DS.fill;rw[if_pos h];rfl
 ·lk;exact⟨rfl,S,by unfold DS.fill;rw[if_neg h];exact D⟩
theorem zY(G:Good Z Kg)(hn:4<=n)(S:Sub H J)(hr:H r=Mq)(D:uX J r o d)(os:o.size<=1000000)(ok:d.Ok){e:Mk}{len:Nat}{i:Int}(R:Row J a e len f)(ha:H a=Mq)(he:H e=Mq)(i0:0<=i)(i1:i<len)(hlen:len<1000000)(m0:0<=f i)(m1:f i<=2048)(rm:(d.pre (f i)).room o):ac Z n (.ref 987) [.ref r,.ref a,.int i 0] J (λv J'=>v=.int (d.get (f i)) 0/\Sub H J'/\uX J' r o ((d.pre (f i)).fill o)/\Row J' a e len (put f i (Xu (f i) (d.get (f i))))):=by
 have Rr:=D.1;obtain z1:=R.neI Rr (by decide);have har:=z1.1;have her:=z1.2;have c0:=ok.2;have c1:=ok.3;have s1:=ok.4;have ps:=i7 (s:=d.span) (ao 0x108610000f64421d204074080b [_,_] [] c0 c1) m0 m1;refine run G (lq hn rfl) ?_;lk;refine R.idx G (lp hn rfl) i0 i1 hlen ?_;lk;rw[Ep];refine tV (tZ ?_);have ef:(if yn .ge d.WE (d.span/2048*f i)=Mh then(1:Int) else 0)=d.get (f i):=by
  unfold DS.get yn;by_cases z:d.span/2048*f i<=d.WE;·simp[z]
  ·simp[z]
 rw[ef];have tail:∀J1:Sg,Sub H J1->uX J1 r o (d.pre (f i))->Row J1 a e len f->
   ac Z (n-1) (.ref 916) [.int (f i) 0,.int (d.get (f i)) 0] J1 λv J'=>X Z (n-1) (bY (λv J'=>v=.int (d.get (f i)) 0/\Sub H J'/\uX J' r o ((d.pre (f i)).fill o)/\Row J' a e len (put f i (Xu (f i) (d.get (f i)))))) [] J' [(JL,.ref r),(Js,.ref a),(JM,.int i 0),(JW,.int (d.get (f i)) 0)] [v] (.ld Js<|.ld JM<|.XD<|.ld JL<|.meth IY<|.XM 0<|.pop<|.ld JW<|.ret):=by
  clear Rr
  intro J1 S1 D1 R1
  refine((iw G (lp hn rfl))).k01 ?_
  lk
  refine R1.set G (lp hn rfl) i0 i1 hlen (S1.WT λx=>x=r) (ai har ha) (ai her he) ?_
  intro J2 R2 S3
  have V3:=S3.at rfl D1.1
  have S4:=S1.Xi S3
  lk
  refine(ru (n:=n-1) G (lp hn rfl) (S4.WT λx=>x=a∨x=e) (ai (λz=>z.elim (λz=>har z.symm) (λz=>her z.symm)) hr) ⟨V3⟩ os (ok.pre m0 m1) rm).XW λJ3 S6 D3=>?_
  lk
  exact⟨rfl,S4.Xi S6,D3,R2.keep λx c h e=>S6.at h e⟩
 lk;refine aK (λh=>?_) (λh=>?_)
 ·have hz:¬d.span/2048*f i<=d.WE:=λz=>by unfold DS.get at h;rw[if_pos z] at h;cases h
  lk;refine(tail _ (S.upd hr _) ⟨(aa _ _ _).trans ?_⟩ (R.upd har her)).Wq (MC _) λb b q=>fD q rfl;unfold DS.pre;rw[if_neg hz];rfl
 ·have hz:d.span/2048*f i<=d.WE:=by
   by_cases z:d.span/2048*f i<=d.WE;·exact z
   ·exact absurd (by unfold DS.get;rw[if_neg z]) h
  lk;refine(tail _ (S.upd hr _) ⟨(aa _ _ _).trans ?_⟩ (R.upd har her)).Wq (MC _) λb b q=>fD q rfl;unfold DS.pre;rw[if_pos hz];rfl
abbrev RT:=DS×(Nat->Int->Int)
noncomputable def gj(o:Array UInt8)(x:RT):Ev->RT
 |.bit j i b=>((x.1.pre (x.2 j i)).fill o,uu x.2 j i (Xu (x.2 j i) b))
 |.dir _=>(x.1.WD.fill o,x.2)
noncomputable def ak(o:Array UInt8)(x:RT)(l:List Ev):RT:=l.foldl (gj o) x
noncomputable def Zt(o:Array UInt8)(x:RT):Ev->Prop
 |.bit j i b=>x.1.get (x.2 j i)=b/\(x.1.pre (x.2 j i)).room o
 |.dir b=>x.1.YT=b/\x.1.WD.room o/\x.1.WD.WE<x.1.WD.span
noncomputable def ay(o:Array UInt8):RT->List Ev->Prop
 |_,[]=>True
 |x,v::l=>Zt o x v/\ay o (gj o x v) l
theorem sx(o:Array UInt8)(x:RT):ak o x []=x:=rfl
theorem cN(o:Array UInt8)(x:RT)(v:Ev)(l:List Ev):ak o x (v::l)=ak o (gj o x v) l:=rfl
theorem bw(o:Array UInt8)(x:RT)(l l':List Ev):ak o x (l++l')=ak o (ak o x l) l':=Th ..
theorem aY{o:Array UInt8}:∀{l l':List Ev}{x:RT},ay o x (l++l')↔ay o x l/\ay o (ak o x l) l'
 |[],l',x=>⟨λh=>⟨trivial,h⟩,λh=>h.2⟩
 |v::l,l',x=>by show(Zt o x v/\ay o (gj o x v) (l++l'))↔(Zt o x v/\ay o (gj o x v) l)/\ay o (ak o (gj o x v) l) l';rw[aY,qG]
inductive RS(H J:Sg)(A:Rows)(r:Mk)(o:Array UInt8)(x:RT):Prop where
 |mk(sub:Sub H J)
  (rows:aD J A x.2)
  (rdr:uX J r o x.1)
  (hr:H r=Mq)
  (off:Off H A)
  (apt:A.Apt)
  (ok:x.1.Ok)
  (mok:oJ x.2)
  (os:o.size<=100000)
variable{b v:Int}{x:RT}
theorem bq(G:Good Z Kg)(hn:4<=n)(R:RS H J A r o x)(hj:j<18){i:Int}(i0:0<=i)(i1:i<A.len j)(h:Zt o x (.bit j i b)):ac Z n (.ref 987) [.ref r,.ref (A.ra j),.int i 0] J (λv J'=>v=.int b 0/\RS H J' A r o (gj o x (.bit j i b))):=by
 obtain⟨sub,rows,rdr,hr,off,apt,ok,mok,os⟩:=R;have m:=mok j i;have hne:∀l,l<18->l≠j->∀a,(a=A.ra l∨a=A.da l)->a≠A.ra j/\a≠A.da j:=by
  rintro l hl hlj a (rfl|rfl);·exact⟨apt.1 _ _ hl hj hlj,apt.2 _ _ hl hj hlj⟩
  ·exact⟨λz=>apt.2 _ _ hj hl (Qi hlj) z.symm,apt.3 _ _ hl hj hlj⟩
 have P:∀l,l<18->∀a,(a=A.ra l∨a=A.da l)->a≠r:=λl hl a ha=>by
  have h1:=(rows l hl).neI rdr.1 (by decide);rcases ha with rfl|rfl
  ·exact h1.1
  ·exact h1.2
 refine(zY G hn (sub.WT λa=>∃l,l<18/\l≠j/\(a=A.ra l∨a=A.da l)) (ai (λz=>ae z λl z=>P l z.1 r z.2.2 rfl) hr) rdr (db os rfl) ok (rows j hj)
  (ai (λz=>ae z λl z=>(hne l z.1 z.2.1 _ z.2.2).1 rfl) (off j hj).1) (ai (λz=>ae z λl z=>(hne l z.1 z.2.1 _ z.2.2).2 rfl) (off j hj).2) i0 i1 (apt.4 j) (af K6 [_] [] m) (af K1 [_] [] m) h.2).Wr λJ' r1=>?_
 have R:=r1.2.2;rw[h.1] at R;refine⟨by rw[h.1],sub.Xi r1.1,λl hl=>?_,r1.2.1,hr,off,apt,(ok.pre (af K6 [_] [] m) (af K1 [_] [] m)).fill o,mok.up j i (mQ m),os⟩;by_cases hlj:l=j;·subst hlj;show Row J' _ _ _ (uu x.2 l i _ l);unfold uu;rw[if_pos rfl];exact R
 ·show Row J' _ _ _ (uu x.2 j i _ l);unfold uu;rw[if_neg hlj];exact(rows l hl).keep λa c h e=>r1.1.at ⟨l,hl,hlj,h⟩ e
theorem i4(G:Good Z Kg)(hn:5<=n)(R:RS H J A r o x){c:Nat}(hc:c<=60)(hj:j<18){start:Int}(s0:0<=start)(s1:start+2^c<=A.len j)(v0:0<=v)(v1:v<2^c)(F:ay o x (az j start c 1 v)):ac Z n (.ref 1001) [.ref r,.ref (A.ra j),.int start 0,.int c 0] J (λu J'=>u=.int v 0/\RS H J' A r o (ak o x (az j start c 1 v))):=by
 refine run G (lq hn rfl) ?_;lk;refine fF (λnode b b=>[(JL,.ref r),(Js,.ref (A.ra j)),(JE,.int start 0),(I8,.int c 0),(Ka,.int node 0)]) (λm node x' b J'=>m<=c/\node=2^m+v/2^(c-m)/\RS H J' A r o x'/\ay o x' (az j start (c-m) node v)/\ak o x' (az j start (c-m) node v)=ak o x (az j start c 1 v)) 1 x () (db hc rfl) ⟨Nb _,by rw[Vt,Ud v0 v1];rfl,R,F,rfl⟩ rfl ?_ ?_
 ·intro m node x' _ J' Q' hm I0 hnext _;have F':=I0.2.2.2.1;have e:=I0.2.2.2.2;obtain⟨l,hl⟩:∃l,c-m=l+1:=⟨c-m-1,af Kx [] [_,_] (Me (ao KL [] [_,_,_] hm (Me (af Kw [] [_,_] hm))))⟩;have hl':c-(m+1)=l:=aS Kv [] [_,_,_,_,_] hl (Me (af KA [] [_,_] hm)) (Me (af Kw [] [_,_] hm));have Rr:=I0.2.2.1.3.1;have p1:(0:Int)<2^m:=NU (by decide);have p2:(0:Int)<2^l:=NU (by decide);have q0:0<=v/2^l:=Oa v0 (Nl p2);have eq:v/2^(c-m)=v/2^l/2:=by rw[hl,gz]
  have hlt:v/2^(c-m)<2^m:=by rw[Int.ediv_lt_iff_lt_mul (NU (by decide)),<-Ti,show m+(c-m)=c from af 0x8420027080004e5508cfa3b2a8267d1d [] [_,_,_] (Me (af Kw [] [_,_] hm))];exact v1
  have hmc:(2:Int)^(m+1)<=2^c:=by
   have:=Pg (n:=2) (by decide) (show m+1<=c from hm);have e1:((2^(m+1):Nat):Int)=2^(m+1):=by simp
   have e2:((2^c:Nat):Int)=2^c:=by simp
   exact nA this
  have hm2:(2:Int)^(m+1)=2^m*2:=NL ..;have h60:=lL hc;have hv0:0<=v/2^(c-m):=by rw[eq];exact DV q0 rfl
  have hb01:=cq (v/2^l);have enode:node*2+v/2^l%2=2^(m+1)+v/2^l:=by rw[I0.2.1,hm2,eq];exact af 0x8420027080004f330164457022ecc20c3dc613059d1c75250 [_,_,_,_] [] (Hl _ _)
  have hN:=I0.2.1.symm;rw[hl] at F' e hlt hv0 hN;lk;refine(bq (n:=n-1) G (lp hn rfl) I0.2.2.1 hj (by exact iK 0x108e1142184000693988ad344190203e20487c080b982c0818 [_,_,_,_] [] s0 p1 hv0 hN) (by lia) F'.1).Wr λJ2 R2=>?_;lk;rw[gM (a:=node) (aS 0x108a10c200029c6446921c88101f204874080b [_,_,_] [] p1 hv0 hN) hb01,enode];lk;refine hnext (2^(m+1)+v/2^l) _ () ⟨hm,by rw[hl'],R2,?_,?_⟩ rfl;·rw[hl',<-enode];exact F'.2
  ·rw[hl',<-enode];exact e
 ·intro node x' _ J' I0;have e:=I0.2.2.2.2;have e1:=I0.2.1;rw[Nq] at e e1;rw[N9,OY] at e1;have h60:=lL hc;lk;rw[MN];have e2:x'=ak o x (az j start c 1 v):=e;refine⟨by rw[show node-1*2^c=v from af 0x421001384000271911c14391981241ada29 [_,_,_] [] e1],?_⟩;rw[<-e2];exact I0.2.2.1
theorem uY(x l:Nat):Ob (x:Int) (l:Int)=((x ||| l:Nat):Int):=by
 unfold Ob We OA;have h1:M0 ((0:Int)<=-(x:Int)-1)=false:=by simp;exact ck 0x860002717c4115 [] [_]
 have h2:M0 ((0:Int)<=-(l:Int)-1)=false:=by simp;exact ck 0x860002717c4115 [] [_]
 simp only[h1,h2];have h3:(-(-(x:Int)-1)-1).toNat=x:=af KT [] [_,_] (ME (ck Lu [] [_]));have h4:(-(-(l:Int)-1)-1).toNat=l:=af KT [] [_,_] (ME (ck Lu [] [_]));show -(-(((-(-(x:Int)-1)-1).toNat ||| (-(-(l:Int)-1)-1).toNat:Nat):Int)-1)-1=_;rw[h3,h4];exact ck 0x100de22f88b98b2a33 [] [_]
theorem Ca{m:Nat}(h:0<=v):Ob (v%2^m) (v/2^m%2*2^m)=v%2^(m+1):=by
 refine ae (MW h) λx z4=>?_;rw[z4];have e1:(x:Int)%2^m=((x%2^m:Nat):Int):=by simp
 have e2:(x:Int)/2^m%2*2^m=((x/2^m%2*2^m:Nat):Int):=by simp
 have e3:(x:Int)%2^(m+1)=((x%2^(m+1):Nat):Int):=by simp
 rw[e1,e2,e3,uY,Nat.or_comm,Nat.mod_pow_succ,QS,<-Sm (Nat.mod_lt _ (Nat.pow_pos (by decide))),Nat.add_comm]
theorem RS.Xe(R:RS H J A r o x)(ha:J a=Mq)(c:Cell):RS H (upd J a c) A r o x:=by have S:=Wt ha c;exact⟨R.1.trans S,λj hj=>(R.2 j hj).keep λb d b e=>S _ _ e,⟨S _ _ R.3.1⟩,R.4,R.5,R.6,R.7,R.8,R.9⟩
theorem tU(G:Good Z Kg)(hn:5<=n)(R:RS H J A r o x){c:Nat}(hc:c<=60)(hj:j<18){start:Int}(s0:0<=start)(s1:start+2^c<=A.len j)(v0:0<=v)(v1:v<2^c)(F:ay o x (dy j start c 1 v)):ac Z n (.ref 1008) [.ref r,.ref (A.ra j),.int start 0,.int c 0] J (λu J'=>u=.int v 0/\RS H J' A r o (ak o x (dy j start c 1 v))):=by
 refine run G (lq hn rfl) ?_;lk;intro z hz;have R1:=R.Xe hz (.tup [.int 1 0,.int 0 0]);refine dQ ?_ (aa _ _ _) rfl;lk;refine fF (λnode val b=>[(JL,.ref r),(Js,.ref (A.ra j)),(JE,.int start 0),(Kc,.int val 0),(Ka,.int node 0)]) (λm node val x' J'=>m<=c/\val=v%2^m/\RS H J' A r o x'/\ay o x' (dy j start (c-m) node (v/2^m))/\ak o x' (dy j start (c-m) node (v/2^m))=ak o x (dy j start c 1 v)/\1<=node/\(node+1)*2^(c-m)<=2^(c+1)) 1 0 x (db hc rfl) ⟨Nb _,by rw[N9,Int.emod_one],R1,?_,?_,by decide,by rw[NL];show 2*2^c<=_;exact ck 0xc20cc0587827 [_] []⟩ rfl ?_ ?_;·rw[N9,OY];exact F
 ·rw[N9,OY];rfl
 ·intro m node val x' J' Q' hm I0 hnext _;have R':=I0.2.2.1;have F':=I0.2.2.2.1;have e:=I0.2.2.2.2.1;have n1:=I0.2.2.2.2.2.1;have n2:=I0.2.2.2.2.2.2;obtain⟨l,hl⟩:∃l,c-m=l+1:=⟨c-m-1,af Kx [] [_,_] (Me (ao KL [] [_,_,_] hm (Me (af Kw [] [_,_] hm))))⟩;have hl':c-(m+1)=l:=aS Kv [] [_,_,_,_,_] hl (Me (af KA [] [_,_] hm)) (Me (af Kw [] [_,_] hm));rw[hl] at F' e n2;have Rr:=R'.3.1;have hb01:=cq (v/2^m);have h60:=lL hc;obtain z2:=YB hb01 n1 n2;have hnl:=z2.1;have hst:=z2.2;lk;refine(bq (n:=n-1) G (lp hn rfl) R' hj (ao KD [_,_] [] s0 n1) (ao KU [_,_,_] [_] s1 hnl) F'.1).Wr λJ2 R2=>?_;lk;rw[gM (a:=node) (r9 n1 rfl) hb01];lk;rw[MN,I0.2.1,Ca v0];refine hnext (node*2+v/2^m%2) _ _ ⟨hm,rfl,R2,?_,?_,ao KH [_,_] [] n1 (vy _ rfl),by rw[hl'];exact hst⟩ rfl;·rw[hl',<-gz];exact F'.2
  ·rw[hl',<-gz];exact e
 ·intro node val x' J' I0;have e:=I0.2.2.2.2.1;rw[Nq] at e;lk;have e2:x'=ak o x (dy j start c 1 v):=e;refine⟨by rw[I0.2.1,Tj v0 v1],?_⟩;rw[<-e2];exact I0.2.2.1
theorem tT(h:d.Ok)(q:d.WD.WE<d.WD.span):d.WD.Ok:=by obtain⟨h1,h2,h3,h4⟩:=h;unfold DS.WD at q ⊢;split at q<;>rename_i z<;>simp only[z]<;>refine⟨?_,?_,?_,?_⟩<;>simp_all<;>lia
theorem zR(G:Good Z Kg)(hn:2<=n)(R:RS H J A r o x)(F:Zt o x (.dir b))(h:J1=upd J r (.Wu 1011 [(JC,.bytes o 0),(1937010544,.int o.size 0),(JE,.int 0 0),(Ju,.int x.1.WD.place 0),(JD,.int x.1.WD.span 0),(JB,.int x.1.WD.WE 0)])):ac Z n (.ref 980) [.ref r] J1 (λv J'=>v=.none/\RS H J' A r o (gj o x (.dir b))):=by
 obtain⟨sub,rows,rdr,hr,off,apt,ok,mok,os⟩:=R;have P:∀l,l<18->∀a,(a=A.ra l∨a=A.da l)->a≠r:=λl hl a ha=>by
  have h1:=(rows l hl).neI rdr.1 (by decide);rcases ha with rfl|rfl
  ·exact h1.1
  ·exact h1.2
 have sub1:Sub H J1:=by rw[h];exact sub.upd hr _
 have rows1:aD J1 A x.2:=λl hl=>by rw[h];exact(rows l hl).upd (P l hl _ (.inl rfl)) (P l hl _ (.inr rfl))
 refine(ru G hn (sub1.WT λa=>∃l,l<18/\(a=A.ra l∨a=A.da l)) (ai (λz=>ae z λl z=>P l z.1 r z.2 rfl) hr) (d:=x.1.WD) ⟨by rw[h];exact aa _ _ _⟩ (db os rfl) (tT ok F.2.2) F.2.1).XW λJ' S D=>?_;exact⟨rfl,sub1.Xi S,λl hl=>(rows1 l hl).keep λa c h e=>S.at ⟨l,hl,h⟩ e,D,hr,off,apt,(tT ok F.2.2).fill o,mok,os⟩
theorem yI(G:Good Z Kg)(hn:5<=n)(R:RS H J A r o x){c:Nat}(hc:c<=60)(v0:0<=v)(v1:v<2^c)(F:ay o x (dK c v)):ac Z n (.ref 994) [.ref r,.int c 0] J (λu J'=>u=.int v 0/\RS H J' A r o (ak o x (dK c v))):=by
 refine run G (lq hn rfl) ?_;lk;refine fF (λval b b=>[(JL,.ref r),(Kc,.int val 0)]) (λm val x' b J'=>m<=c/\val=v/2^(c-m)/\RS H J' A r o x'/\ay o x' (dK (c-m) v)/\ak o x' (dK (c-m) v)=ak o x (dK c v)) 0 x () (db hc rfl) ⟨Nb _,by rw[Vt,Ud v0 v1],R,F,rfl⟩ rfl ?_ ?_
 ·intro m val x' _ J' Q' hm I0 hnext _;have F':=I0.2.2.2.1;have e:=I0.2.2.2.2;have ev:=I0.2.1;obtain⟨l,hl⟩:∃l,c-m=l+1:=⟨c-m-1,af Kx [] [_,_] (Me (ao KL [] [_,_,_] hm (Me (af Kw [] [_,_] hm))))⟩;have hl':c-(m+1)=l:=aS Kv [] [_,_,_,_,_] hl (Me (af KA [] [_,_] hm)) (Me (af Kw [] [_,_] hm));rw[hl] at F' e ev;have Rr:=I0.2.2.1.3.1;have f1:=F'.1.1;have hb01:=cq (v/2^l);have p2:(0:Int)<2^l:=NU (by decide);have q0:0<=v/2^l:=Oa v0 (Nl p2);have eq:val=v/2^l/2:=by rw[ev,gz]
  have qb:val<2^60:=by rw[ev];have h60:=lL hc;have p3:(0:Int)<2^(l+1):=NU (by decide);have:v/2^(l+1)<=v:=Int.ediv_le_self _ v0;exact iK 0x42484508610001a400000000000000048893630407c00000000000000064509d988a44e6090e [_,_,_,_] [] v1 h60 this Gr
  lk;rw[FD];refine tV (tZ ?_);have ef:(if yn .ge x'.1.WE (x'.1.span/2)=Mh then(1:Int) else 0)=x'.1.YT:=by
   unfold DS.YT yn;by_cases z:x'.1.span/2<=x'.1.WE;·simp[z]
   ·simp[z]
  rw[ef,f1];have tail:∀J1,J1=upd J' r (.Wu 1011 [(JC,.bytes o 0),(1937010544,.int o.size 0),(JE,.int 0 0),(Ju,.int x'.1.WD.place 0),(JD,.int x'.1.WD.span 0),(JB,.int x'.1.WD.WE 0)])->
    X Z (n-1) Q' [] J1 [(JL,.ref r),(Kc,.int val 0),(JW,.int (v/2^l%2) 0)] [] (.ld Kc<|.cst (.int 1 0)<|.bin .shl<|.ld JW<|.bin .bor<|.st Kc<|.ld JL<|.meth IY<|.XM 0<|.pop<|.Wy):=by
   intro J1 h1
   clear Rr
   subst h1
   lk
   rw[gM (a:=val) (aS 0x84708508004aa1180b1372212e8c141f204074080b [_,_,_] [] q0 eq (Hz _ rfl)) hb01,show val*2+v/2^l%2=v/2^l by exact ao 0x108e104007e11420000fc73016488e045d98283e330830f6e22a [_,_,_,_] [] eq (Hl _ _)]
   lk
   refine(zR (n:=n-1) G (lp hn rfl) I0.2.2.1 F'.1 rfl).Wr λJ2 R2=>?_
   lk
   refine hnext (v/2^l) _ () ⟨hm,by rw[hl'],R2,?_,?_⟩ rfl
   ·rw[hl'];exact F'.2
   ·rw[hl'];exact e
  have f3:=F'.1.2.2;lk;refine aK (λh=>?_) (λh=>?_)
  ·have hz:x'.1.span/2<=x'.1.WE:=by
    by_cases z:x'.1.span/2<=x'.1.WE;·exact z
    ·unfold DS.YT at f1;rw[if_neg z] at f1;exact fb 0x423842003d1050740a0b [_] [] f1 h
   have ep:x'.1.WD=⟨x'.1.place,x'.1.span/2,x'.1.WE-x'.1.span/2⟩:=by unfold DS.WD;rw[if_pos hz]
   rw[ep] at f3;dsimp only at f3;lk;refine xh (λz=>fb 0x843080007a60d9100dccc1a711b [_,_] [] f3 z) (λb=>?_);exact nh (nh (fD (tail _ (by rw[ep];rfl)) rfl))
  ·have hz:¬x'.1.span/2<=x'.1.WE:=λz=>by unfold DS.YT at f1;rw[if_pos z] at f1;lia
   have ep:x'.1.WD=⟨x'.1.place,x'.1.span/2,x'.1.WE⟩:=by unfold DS.WD;rw[if_neg hz]
   exact nh (fD (tail _ (by rw[ep];rfl)) rfl)
 ·intro val x' _ J' I0;have e:=I0.2.2.2.2;rw[Nq] at e;lk;have e2:x'=ak o x (dK c v):=e;refine⟨by rw[I0.2.1,Nq,N9,OY],?_⟩;rw[<-e2];exact I0.2.2.1
variable{pb:Nat}
theorem RS.sup(R:RS H J A r o x)(S:Sub J J'):RS H J' A r o x:=
 ⟨R.1.trans S,λj hj=>(R.2 j hj).keep λb d a e=>S _ _ e,⟨S _ _ R.3.1⟩,R.4,R.5,R.6,R.7,R.8,R.9⟩
theorem dB(G:Good Z Kg)(hn:6<=n)(R:RS H J A r o x){l:Mk}(hpb:pb<=4)(L:tW H A l j pb){pos:Int}(p0:0<=pos)(p1:pos<2^pb)(h0:2<=length)(h1:length<=273)(F:ay o x (ct j (8*pos) length)):ac Z n (.ref 418) [.ref r,.ref l,.int pos 0] J (λu J'=>u=.int length 0/\RS H J' A r o (ak o x (ct j (8*pos) length))):=by
 have Rr:=R.3.1;have Ll:=R.1 _ _ L.1;have hj:=L.2;have z:=dh (m:=pb) hpb;have q1:(A.len (j+1):Int)=8*2^pb:=by rw[L.4];simp
 have q2:(A.len (j+2):Int)=8*2^pb:=by rw[L.5];simp
 refine run G (lq hn rfl) ?_;lk;unfold ct at F ⊢;by_cases h:length-2<8;·rw[if_pos h] at F ⊢;refine(bq (n:=n-1) G (lp hn rfl) R (by exact af KJ [] [_] hj) (Ms _) (by rw[L.3];decide) F.1).Wr λJ2 R2=>?_;have Rr:=R2.3.1;have Ll:=R2.1 _ _ L.1;refine aB (aK (λa=>?_) (λz=>absurd rfl z));lk;refine(i4 (n:=n-1) (c:=3) G (lp hn rfl) R2 (Mr _ _) (by exact af 0x840002721882684219088267c20 [] [_] hj) (by exact af Lv [_] [] p0) (by rw[q1];lia) (OM h0) h F.2).Wr λJ3 R3=>?_;lk;refine⟨by rw[show(2:Int)+(length-2)=length from ck 0x100e106c056ea27 [_] []],?_⟩;rw[cN];exact R3
 ·rw[if_neg h] at F ⊢;refine(bq (n:=n-1) G (lp hn rfl) R (by exact af KJ [] [_] hj) (Ms _) (by rw[L.3];decide) F.1).Wr λJ2 R2=>?_;have Rr:=R2.3.1;have Ll:=R2.1 _ _ L.1;refine aB (aK (λz=>by cases z) (λa=>?_));lk;have F2:=F.2;by_cases h':length-2<16;·rw[if_pos h'] at F2 ⊢;refine(bq (n:=n-1) G (lp hn rfl) R2 (by exact af KJ [] [_] hj) (Ms _) (by rw[L.3];decide) F2.1).Wr λJ3 R3=>?_;have Rr:=R3.3.1;have Ll:=R3.1 _ _ L.1;refine aB (aK (λa=>?_) (λz=>absurd rfl z));lk;refine(i4 (n:=n-1) (c:=3) G (lp hn rfl) R3 (Mr _ _) (Np hj) (by exact af Lv [_] [] p0) (by rw[q2];lia) (by exact af 0x2100009c0841a79c45021069f40829 [_] [] h) (by lia) F2.2).Wr λJ4 R4=>?_;lk;refine⟨by rw[show(2:Int)+8+(length-2-8)=length from ck 0x100e0420d3ec080ad57ea47 [_] []],?_⟩;simp only[cN];exact R4
  ·rw[if_neg h'] at F2 ⊢;refine(bq (n:=n-1) G (lp hn rfl) R2 (by exact af KJ [] [_] hj) (Ms _) (by rw[L.3];decide) F2.1).Wr λJ3 R3=>?_;have Rr:=R3.3.1;have Ll:=R3.1 _ _ L.1;refine aB (aK (λz=>by cases z) (λa=>?_));lk;refine(i4 (n:=n-1) (c:=8) G (lp hn rfl) R3 (Mr _ _) hj (Ms _) (by rw[L.6];decide) (by exact af 0x8400027010834f388e021069f4082a [_] [] h') (ao 0x211420001e8009110cc444102d3010834fb012d [_,_] [] h1 Bo) F2.2).Wr λJ4 R4=>?_;lk;refine⟨by rw[show(2:Int)+2*8+(length-2-16)=length by lia],?_⟩;simp only[cN];exact R4
theorem eF(G:Good Z Kg)(hn:6<=n)(R:RS H J A r o x)(M:aj H A B)(d0:1<=distance)(d1:distance<=2^32)(h0:2<=length)(F:ay o x (bP distance length)):ac Z n (.ref 425) [.ref r,.ref B.m,.int length 0] J (λu J'=>u=.int distance 0/\RS H J' A r o (ak o x (bP distance length))):=by
 have Rr:=R.3.1;have Mm:=R.1 _ _ M.1;obtain z5:=fS h0;have sl:=wO d0 d1;refine run G (lq hn rfl) ?_;lk;refine((ix (n:=n-1) G (lp hn rfl) h0)).k01 ?_;lk;unfold bP at F ⊢;obtain z4:=aY.mp F;have F2:=z4.2;rw[bw];refine(i4 (n:=n-1) (c:=6) G (lp hn rfl) R (Mr _ _) (Mr _ _) z5.1 (by rw[M.n6];exact z5.2) sl.1 (by have:=sl.2;exact ill this rfl) z4.1).Wr λJ2 R2=>?_;have Rr:=R2.3.1;have Mm:=R2.1 _ _ M.1;generalize ak o x (az 6 (cy length) 6 1 (aR distance).1)=x2 at*;lk;cases dS d0 d1 with
 |small hd e=>rw[e] at F2 sl ⊢;refine bQ (λa=>?_) (λh=>by dsimp only at h;exact fb 0x210c20001e8220d38e20820810 [_] [] hd h);lk;refine⟨by dsimp only;rw[show distance-1+1=distance from ck 0x40388834e6da25 [_] []],?_⟩;rw[if_pos rfl];exact R2
 |big g q g0 g1 hq q0 q1 e eb r0 r1=>
  rw[e] at F2 sl ⊢;dsimp only at sl F2 ⊢;rw[if_neg (by exact λzz=>fb 0x108a10000f50158845c5a921b [] [_] zz g0)] at F2 ⊢;rw[eb] at F2 ⊢;dsimp only at F2 ⊢;refine bQ (λh=>absurd h (ao 0x1086100007e0405d0158841bc0589b74e2f [_] [_] g0 q0)) (λa=>?_);lk;refine(fH (n:=n-1) G (lp hn rfl) sl.1 sl.2).kst λz z3=>?_;rw[eb];have R3:=R2.Xe z3 (.tup [.int ((g:Int)-1) 0,.int ((2+q)*2^(g-1)) 0]);refine dQ ?_ (aa _ _ _) rfl;generalize hσ3:upd J2 z (.tup [.int ((g:Int)-1) 0,.int ((2+q)*2^(g-1)) 0])=J3 at*;have Rr:=R3.3.1;have Mm:=R3.1 _ _ M.1;lk;refine bQ (λh14=>?_) (λh14=>?_);·rw[if_pos h14] at F2 ⊢;lk;refine(eC (n:=n-1) G (lp hn rfl) sl.1 sl.2).Wr λa r3=>?_;refine bI r3 λx' c' z2=>?_;rw[z2.2];have R4:=R3.Xe z2.1 c';rw[eb];dsimp only;have bounds:=kI g0 h14 hq;lk;have eg:((g:Int)-1)=((g-1:Nat):Int):=af 0x8400027084004e8a11a3472bc5c5a9222 [] [_,_] (Me (af LP [] [_] g0));rw[eg,MN] at F2 ⊢;refine(tU (n:=n-1) (c:=g-1) G (lp hn rfl) R4 (ao 0x108a10000f5e2b8f54445f142315f041314 [] [_,_] g1 eg) (Mr _ _) bounds.1 (by rw[M.n7];exact bounds.2) r0 r1 F2).Wr λJ5 R5=>?_;lk;exact⟨by congr 1;exact ck 0x100cc6244a8d82e57923f [_,_] [],R5⟩
  ·rw[if_neg h14] at F2 ⊢;obtain z1:=aY.mp F2;have F3:=z1.1;have F4:=z1.2;rw[bw];lk;have eg:((g:Int)-1-4)=((g-5:Nat):Int):=af 0x1080004e108009d4508d3a3d5e08b8b52b0a31 [] [_,_] (Me (ao 0x108610008f70de02c4dba71844101d503311 [_] [_] q1 h14));have er:(2:Int)^(g-1)=2^(g-5)*16:=by rw[show g-1=(g-5)+4 by exact ao Ld [] [_,_,_] eg (Me (af 0x218c21001eaf045c5a958518d0230f [] [_,_] eg)),Ti];rfl
   have e5:=lL (c:=g-5) (ao K5 [] [_,_] g1 eg);generalize hb:(2+q)*2^(g-1)=base at*;rw[er] at r1;rw[eg,MN] at F3 F4 ⊢;refine(yI (n:=n-1) (c:=g-5) G (lp hn rfl) R3 (ao K5 [] [_,_] g1 eg) (v:=(distance-1-base)/16) (DV r0 rfl) (ao 0x108610078f66222d4ae0088903b8091266222d4ac04fa6090e [_,_,_,_] [] r1 (FP _ rfl)) F3).Wr λJ4 R4=>?_;have Rr:=R4.3.1;have Mm:=R4.1 _ _ M.1;lk;rw[HJ];refine(tU (n:=n-1) (c:=4) G (lp hn rfl) R4 (Mr _ _) (Mr _ _) (by decide) (by rw[M.n8];decide) (v:=(distance-1-base)%16) (Nv _ (by decide)) (Ni _ (by decide)) F4).Wr λJ5 R5=>?_;lk;exact⟨by dsimp only;congr 1;lia,R5⟩
theorem wg:∀k:Nat,k<256->∀m:Nat,m<8->2^(8-(m+1))+(k:Int)/2^(m+1)<256/\1<=2^(8-(m+1))+(k:Int)/2^(m+1)/\(2^(8-(m+1))+(k:Int)/2^(m+1))*2+(k:Int)/2^m%2=2^(8-m)+(k:Int)/2^m:=by decide +kernel
theorem g8{m:Nat}(hm:m<8)(v0:0<=v)(v1:v<256)(en:node=2^(8-(m+1))+v/2^(m+1)):node<256/\1<=node/\node*2+v/2^m%2=2^(8-m)+v/2^m:=by refine ae (MW v0) λk z3=>?_;obtain rfl:=z3;subst en;exact wg k (Sb.mp v1) m hm
theorem kY(G:Good Z Kg)(hn:6<=n)(R:RS H J A r o x){start:Int}(s0:0<=start)(s1:start+256<=A.len 9)(v0:0<=v)(v1:v<256)(F:ay o x (az 9 start 8 1 v)):ac Z n (.ref 432) [.ref r,.ref (A.ra 9),.int start 0] J (λu J'=>u=.int v 0/\RS H J' A r o (ak o x (az 9 start 8 1 v))):=by
 refine run G (lq hn rfl) ?_;lk;refine wF (m:=8) (λm E J'=>m<=8/\bM λx' node=>E=[(JV,.ref r),(IC,.ref (A.ra 9)),(JE,.int start 0),(JW,.int node 0)]/\RS H J' A r o x'/\ay o x' (az 9 start m node v)/\ak o x' (az 9 start m node v)=ak o x (az 9 start 8 1 v)/\node=2^(8-m)+v/2^m)
  (λρ J'=>ρ=[(JW,.int (256+v) 0)]/\RS H J' A r o (ak o x (az 9 start 8 1 v))) ?_ ?_ ?_
 ·exact⟨_,⟨MC _,x,1,rfl,R,F,rfl,by show(1:Int)=2^0+v/256;lia⟩,rfl⟩
 ·intro m E J' Q' I0 hnext hbrk _;have hm:=I0.1;refine bI I0.2 λx' node z2=>?_;rw[z2.1];have R':=z2.2.1;have F':=z2.2.2.1;have e:=z2.2.2.2.1;have en:=z2.2.2.2.2;have Rr:=R'.3.1;lk;induction m with
  |zero=>
   have en':node=256+v:=by rw[en];show(2:Int)^8+v/2^0=_;rw[N9,OY];rfl
   refine bQ (λh=>by lia) (λb=>?_);refine hbrk ⟨_,⟨rfl,?_⟩,by rw[<-en'];rfl⟩;rw[<-e];exact R'
  |succ m=>have hb01:=cq (v/2^m);have fact:=g8 hm v0 v1 en;obtain z1:=g8 hm v0 v1 en;have n1:=z1.1;have n2:=z1.2.1;refine bQ (λb=>?_) (λh=>fb 0x109210000f4004138673115cc20c3db8b0203bc00412b76e [_,_,_,_] [] fact h);lk;refine(bq (n:=n-1) G (lp hn rfl) R' (Mr _ _) (ao 0x211420001e8722b8c244893814c0811f00122167bcc080b982c0818 [_,_,_,_,_] [] s0 fact) (ao 0x421840003d0e4571848912702981023e002442cf79bc00416b024bcc16711c [_,_,_,_,_] [_] s1 fact) F'.1).Wr λJ2 R2=>?_;lk;rw[gM (a:=node) (af 0x8420027988ae61061edc58101de002095bb74080b [_,_,_,_] [] fact) hb01];lk;refine hnext m (M9 m) ⟨_,⟨Np hm,_,_,rfl,R2,F'.2,e,fact.2.2⟩,rfl⟩
 ·intro E J' r1;rw[r1.1];have R':=r1.2;lk;exact⟨by rw[show(256:Int)+v-256=v from ck 0x403800c0018d6b5a35 [_] []],R'⟩
theorem xE:∀k:Nat,k<256->∀m:Nat,m<8->0<=(k:Int)*2^(8-(m+1))/\(k:Int)*2^(8-(m+1))/128%2=(k:Int)/2^m%2/\(k:Int)*2^(8-(m+1))*2=(k:Int)*2^(8-m)/\(k:Int)*2^(8-(m+1))<2^60:=by decide +kernel
theorem uJ{m:Nat}(hm:m<8)(b0:0<=b)(b1:b<256):0<=b*2^(8-(m+1))/\b*2^(8-(m+1))/128%2=b/2^m%2/\b*2^(8-(m+1))*2=b*2^(8-m)/\b*2^(8-(m+1))<2^60:=by refine ae (MW b0) λk z7=>?_;obtain rfl:=z7;exact xE k (Sb.mp b1) m hm
theorem kX(G:Good Z Kg)(hn:6<=n)(R:RS H J A r o x){start:Int}(s0:0<=start)(s1:start+768<=A.len 9)(v0:0<=v)(v1:v<256)(b0:0<=b)(b1:b<256)(F:ay o x (bU start 8 1 v b)):ac Z n (.ref 439) [.ref r,.ref (A.ra 9),.int start 0,.int b 0] J (λu J'=>u=.int v 0/\RS H J' A r o (ak o x (bU start 8 1 v b))):=by
 refine run G (lq hn rfl) ?_;lk;intro z hz;have R1:=R.Xe hz (.tup [.int 1 0,.int b 0]);refine dQ ?_ (aa _ _ _) rfl;lk;refine wF (m:=8) (λm E J'=>m<=8/\bM λx' node=>E=[(JV,.ref r),(IC,.ref (A.ra 9)),(JE,.int start 0),(JW,.int node 0),(JX,.int (b*2^(8-m)) 0)]/\RS H J' A r o x'/\ay o x' (bU start m node v b)/\ak o x' (bU start m node v b)=ak o x (bU start 8 1 v b)/\node=2^(8-m)+v/2^m)
  (λρ J'=>oz λm x' node=>m<=8/\ρ=[(JV,.ref r),(IC,.ref (A.ra 9)),(JE,.int start 0),(JW,.int node 0)]/\RS H J' A r o x'/\ay o x' (az 9 start m node v)/\ak o x' (az 9 start m node v)=ak o x (bU start 8 1 v b)/\node=2^(8-m)+v/2^m) ?_ ?_ ?_
 ·refine⟨_,⟨MC _,x,1,rfl,R1,F,rfl,by show(1:Int)=2^0+v/256;lia⟩,?_⟩;rw[Nq,N9,RA];rfl
 ·intro m E J' Q' I0 hnext hbrk _;have hm:=I0.1;refine bI I0.2 λx' node z6=>?_;rw[z6.1];have R':=z6.2.1;have F':=z6.2.2.1;have e:=z6.2.2.2.1;have en:=z6.2.2.2.2;have Rr:=R'.3.1;lk;induction m with
  |zero=>
   have en':node=256+v:=by rw[en];show(2:Int)^8+v/2^0=_;rw[N9,OY];rfl
   refine bQ (λh=>by lia) (λc=>?_);exact hbrk ⟨_,⟨0,x',node,by decide,rfl,R',F',e,en⟩,rfl⟩
  |succ m=>
   have hb01:=cq (v/2^m);have hd01:=cq (b/2^m);obtain z5:=g8 hm v0 v1 en;have n1:=z5.1;have n2:=z5.2.1;have n3:=z5.2.2;obtain z4:=uJ (m:=m) hm b0 b1;have c0:=z4.1;have c1:=z4.2.1;have c2:=z4.2.2.1;have c3:=z4.2.2.2;generalize hrest:b*2^(8-(m+1))=rest at*;refine bQ (λc=>?_) (λh=>fb 0x108610000f4004138660020916 [_] [] n1 h);lk;rw[Ii,js (DV c0 rfl),c1];lk;rw[Cp];rw[fA] at F' e;refine(bq (n:=n-1) G (lp hn rfl) R' (Mr _ _) (aS Lf [_,_,_] [] s0 n2 (vy _ rfl)) (aS 0x2009142184000630910894004452357c00416b825bc600260468c82f07f14c [_,_,_] [_] s1 n1 (Bi _ rfl)) F'.1).Wr λJ2 R2=>?_;lk;rw[gM (a:=node) (r9 n2 rfl) hb01,FD,c2];lk;have F2:=F'.2;rw[cN] at e;refine aK (λh=>?_) (λh=>?_);·rw[if_pos h] at F2 e;lk;refine hnext m (M9 m) ⟨_,⟨Np hm,_,_,rfl,R2,F2,e,n3⟩,rfl⟩
   ·rw[if_neg h] at F2 e;lk;exact hbrk ⟨_,⟨m,_,_,Np hm,rfl,R2,F2,e,n3⟩,rfl⟩
 ·intro E J' I0;refine ga I0 λm0 x0 node0 z3=>?_;have hm0:=z3.1;rw[z3.2.1];have R0:=z3.2.2.1;have F0:=z3.2.2.2.1;have e0:=z3.2.2.2.2.1;have en0:=z3.2.2.2.2.2;lk;refine wF (m:=m0) (λm E J'=>m<=8/\bM λx' node=>E=[(JV,.ref r),(IC,.ref (A.ra 9)),(JE,.int start 0),(JW,.int node 0)]/\RS H J' A r o x'/\ay o x' (az 9 start m node v)/\ak o x' (az 9 start m node v)=ak o x (bU start 8 1 v b)/\node=2^(8-m)+v/2^m)
   (λρ J'=>ρ=[(JW,.int (256+v) 0)]/\RS H J' A r o (ak o x (bU start 8 1 v b))) ⟨_,⟨hm0,x0,node0,rfl,R0,F0,e0,en0⟩,rfl⟩ ?_ ?_
  ·intro m E J' Q' I0 hnext hbrk _;have hm:=I0.1;refine bI I0.2 λx' node z2=>?_;rw[z2.1];have R':=z2.2.1;have F':=z2.2.2.1;have e:=z2.2.2.2.1;have en:=z2.2.2.2.2;have Rr:=R'.3.1;lk;induction m with
   |zero=>
    have en':node=256+v:=by rw[en];show(2:Int)^8+v/2^0=_;rw[N9,OY];rfl
    refine bQ (λh=>by lia) (λc=>?_);refine hbrk ⟨_,⟨rfl,?_⟩,by rw[<-en'];rfl⟩;rw[<-e];exact R'
   |succ m=>have hb01:=cq (v/2^m);obtain z1:=g8 hm v0 v1 en;have n1:=z1.1;have n2:=z1.2.1;have n3:=z1.2.2;refine bQ (λc=>?_) (λh=>fb 0x108610000f4004138660020916 [_] [] n1 h);lk;refine(bq (n:=n-1) G (lp hn rfl) R' (Mr _ _) (ao KD [_,_] [] s0 n2) (ao 0x843080007a002442337c00416b825bcc16711c [_,_] [_] s1 n1) F'.1).Wr λJ2 R2=>?_;lk;rw[gM (a:=node) (r9 n2 rfl) hb01];lk;refine hnext m (M9 m) ⟨_,⟨Np hm,_,_,rfl,R2,F'.2,e,n3⟩,rfl⟩
  ·intro E J' r1;rw[r1.1];have R':=r1.2;lk;exact⟨by rw[show(256:Int)+v-256=v from ck 0x403800c0018d6b5a35 [_] []],R'⟩
inductive vp(J:Sg)(x rb:Mk)(l:List UInt8):Prop where
 |mk (o:J x=Mc (.Wu 905 [(I7,.int 256 0),(500086104428,.int l.length 0),(Jz,.ref rb),(JA,.int l.length 0)]))
  (b:J rb=Mc (.WJ l))
variable{d:Int}{l:List UInt8}{rb:Mk}
section
variable{x:Mk}
theorem pK(G:Good Z Kg)(hn:0<n)(W:vp J x rb l)(hl:l.length<256):ac Z n (.ref 852) [.ref x] J (λv J'=>v=.int l.length 0/\J=J'):=by have h1:=W.1;refine run G hn ?_;lk;refine qN W.2 (af 0x84000270010505fd090041322 [] [_] hl) ?_;lk;exact⟨rfl,rfl⟩
theorem qq(G:Good Z Kg)(hn:2<=n)(W:vp J x rb l)(hl:l.length<256)(d0:1<=d)(d1:d<=l.length):ac Z n (.ref 874) [.ref x,.int d 0] J (λv J'=>v=.none/\J=J'):=by have h1:=W.1;refine run G (lq hn rfl) ?_;lk;refine bQ (λh=>fb 0x210c20001e88243b0200e [_] [] d0 h) (λa=>?_);lk;refine sS (C:=905) (f:=852) ?_ h1 rfl;refine((pK (n:=n-1) G (lp hn rfl) W hl)).k01 ?_;refine⟨rfl,?_⟩;refine nG (λh=>fb 0x843080007b71487de080f [_] [_] d1 h) (λa=>?_);lk;exact⟨rfl,rfl⟩
theorem Aw(G:Good Z Kg)(hn:3<=n)(W:vp J x rb l)(hl:l.length<256){d:Nat}(d0:1<=d)(d1:d<=l.length):ac Z n (.ref 881) [.ref x,.int d 0] J (λv J'=>v=.int ((l.getD (l.length-d) 0).toNat) 0/\J=J'):=by
 have h1:=W.1;refine run G (lq hn rfl) ?_;lk;refine((qq (n:=n-1) G (lp hn rfl) W hl (nA d0) (nA d1))).k01 ?_;lk;refine xh (λa=>?_) (λh=>fb 0x421840003d7ae3d0231154130f [] [_,_] d1 h);lk;have hlt:l.length-d<l.length:=by lia
 refine xR (u:=l.getD (l.length-d) 0) W.2 (af Mn [] [_,_] d1) (aS 0x108e10c200029800000000000000010526d408c460020a0bebdc5aa91f [_] [_,_] hl d0 ej) ?_ ?_;·rw[show((l.length:Int)-(d:Int)).toNat=l.length-d from aS K3 [] [_,_,_,_] (Nh _) (ME (af Mn [] [_,_] d1)) (Me d1),MG hlt,Mw,MG hlt];rfl
 ·lk;exact⟨rfl,rfl⟩
theorem tK(G:Good Z Kg)(hn:0<n)(S:Sub H J)(W:vp J x rb l)(hx:H x=Mq)(hb:H rb=Mq)(hl:l.length<255){u:Int}(u0:0<=u)(u1:u<256):ac Z n (.ref 860) [.ref x,.int u 0] J (λv J'=>v=.none/\Sub H J'/\vp J' x rb (l++[u8 u])):=by have h1:=W.1;have h2:=W.2;have hxb:x≠rb:=mf h1 h2 rfl;have hbx:=hxb.symm;refine run G hn ?_;lk;refine qN W.2 (af 0x4200013ff10505bd090041322 [] [_] hl) ?_;lk;refine bQ (λa=>?_) (λh=>fb 0x108610000f4005c53877fc41416 [] [_] hl h);lk;refine mH h2 ⟨u0,u1⟩ (af 0x8400027fe20a0b61a804131f [] [_] hl) ?_;lk;refine aK (λh=>fb 0x422840003d0011715a489ffc41416 [] [_] hl h) (λa=>?_);lk;refine⟨rfl,(S.upd hb _).upd hx _,(aa _ _ _).trans ?_,(ag _ _ hbx).trans (aa _ _ _)⟩;rw[MH,Ng];rfl
end
noncomputable def bf(l:List UInt8)(d:Nat):Nat->List UInt8
 |0=>[]
 |c+1=>l.getD (l.length-d) 0::bf (l++[l.getD (l.length-d) 0]) d c
theorem iT(l:List UInt8)(d c:Nat):bf l d (c+1)=l.getD (l.length-d) 0::bf (l++[l.getD (l.length-d) 0]) d c:=rfl
section
variable{x:Mk}
theorem qu(u:UInt8):Pz ((u.toNat:Int)).toNat=u:=by rw[MN];exact Vy
theorem nl(G:Good Z Kg)(hn:3<=n):ac Z n (.ref 905) [.int 256 0] J (λr J'=>bM λx rb=>r=.ref x/\J x=Mq/\J rb=Mq/\Sub J J'/\vp J' x rb []):=by
 refine bz G (lq hn rfl) iF λx hx=>?_;refine run G (yw hn rfl) ?_;lk;refine bQ (λh=>by lia) (λa=>?_);lk;refine run G (aS 0x42484508000a65104cfa3b51215a547eb02b1280c0c [] [_,_,_] hn (Me (af 0x2100009d8158850230f [] [_] hn)) (Me (ao 0x422840003d5104cfa3958158950230f [] [_,_] hn (Me (af 0x2100009d8158850230f [] [_] hn))))) ?_;lk;refine pd λz hz=>?_;have hxz:x≠z:=λe=>by rw[<-e,aa] at hz;cases hz
 have hzx:=hxz.symm;have hσz:J z=none:=by rw[ag _ _ hzx] at hz;exact hz
 lk;lk;exact⟨rfl,x,z,rfl,hx,hσz,((Sub.rfl.upd hx _).upd hσz _).upd hx _,aa _ _ _,(ag _ _ hzx).trans (aa _ _ _)⟩
theorem Af(G:Good Z Kg)(hn:4<=n)(S:Sub H J)(W:vp J x rb l)(hx:H x=Mq)(hb:H rb=Mq){d c:Nat}(d0:1<=d)(d1:d<=l.length)(hl:l.length+c<256):ac Z n (.ref 888) [.ref x,.int d 0,.int c 0] J (λv J'=>v=.bytes (bf l d c).toArray 0/\Sub H J'/\vp J' x rb (l++bf l d c)):=by
 have h1:=W.1;refine run G (lq hn rfl) ?_;lk;refine((qq (n:=n-1) G (yw hn rfl) W (af 0x10c610000f40054133e1240041417 [] [_,_] hl) (nA d0) (nA d1))).k01 ?_;refine tY (pd λz hz=>?_);have N:=Wt hz (.WJ []);have hzx:z≠x:=Ek hz h1;have hzb:z≠rb:=Ek hz W.2;have hxz:=hzx.symm;have hbz:=hzb.symm;have hHz:H z=none:=S.none hz;lk;refine fF (λb b b=>[(JL,.ref x),(JS,.int d 0),(1953459300,.ref z)]) (λm l' done b J'=>m<=c/\Sub H J'/\vp J' x rb l'/\J' z=Mc (.WJ done)/\
  l'=l++done/\done++bf l' d (c-m)=bf l d c/\done.length=m) l [] () (aS 0x42284308000a600290ad084b2a11895408c47d090041322 [] [_,_,_] d0 d1 hl) ⟨Nb _,S.trans N,⟨N _ _ W.1,N _ _ W.2⟩,aa _ _ _,by simp,rfl,rfl⟩ rfl ?_ ?_
 ·intro m l' done _ J' Q' hm z2 hnext _;have hz':=z2.2.2.2.1;have ed:=z2.2.2.2.2.2.1;have hll:l'.length=l.length+m:=by rw[z2.2.2.2.2.1,MH,z2.2.2.2.2.2.2]
  obtain⟨e,he⟩:∃e,c-m=e+1:=⟨c-m-1,af Kx [] [_,_] (Me (ao KL [] [_,_,_] hm (Me (af Kw [] [_,_] hm))))⟩;have he':c-(m+1)=e:=aS Kv [] [_,_,_,_,_] he (Me (af KA [] [_,_] hm)) (Me (af Kw [] [_,_] hm));rw[he] at ed;have Xx:=z2.2.2.1.1;lk;refine((Aw (n:=n-1) G (lp hn rfl) z2.2.2.1 (aS 0x42284308000a7542382a3b2d0b04e00254234a13c0041417 [] [_,_,_,_] hl hm hll) d0 (ao Le [] [_,_,_,_] d1 hll))).k01 ?_;have hu:=(l'.getD (l'.length-d) 0).toNat_lt;lk;refine(tK (n:=n-1) G (lp hn rfl) (z2.2.1.WT λa=>a=z) z2.2.2.1 (ai hxz hx) (ai hbz hb) (aS 0x2114218400053aa11c151d96858270012a11a509ffc41416 [] [_,_,_,_] hl hm hll) (Ms _) (nA hu)).XW λJ2 S2 W2=>?_;have hz2:=S2.at rfl hz';lk;refine mH hz2 ⟨Ms _,nA hu⟩ (Dx 0x21242384508610001fc505447510d0520035215a70a2542312a81188e1a804131f [] [_,_,_,_,_] d0 d1 hl hm z2.2.2.2.2.2.2) ?_;lk;refine hnext _ _ () ⟨hm,(z2.2.1.Xi S2).upd hHz _,⟨(ag _ _ hxz).trans W2.1,(ag _ _ hbz).trans W2.2⟩,aa _ _ _,?_,?_,?_⟩ rfl;·rw[z2.2.2.2.2.1];simp[u8]
  ·rw[he',<-ed,u8,qu];rw[iT,NI];rfl
  ·simp[z2.2.2.2.2.2.2]
 ·intro l' done _ J' z1;have ed:=z1.2.2.2.2.2.1;rw[Nq] at ed;have ed':done=bf l d c:=by rw[<-ed,show bf l' d 0=[] from rfl,NF]
  lk;refine rg ?_ z1.2.2.2.1 (iK 0x211c2284308000d35054420035215a70a2542312a81188e1a804131f [] [_,_,_,_] d0 d1 hl z1.2.2.2.2.2.2);lk;exact⟨by rw[ed'],z1.2.1,by rw[<-ed',<-z1.2.2.2.2.1];exact z1.2.2.1⟩
end
noncomputable def codeAt(o:Array UInt8):Nat->Int
 |0=>0
 |m+1=>codeAt o m*256+au o ((1:Int)+m)
theorem cZ(o:Array UInt8):∀m:Nat,0<=codeAt o m/\codeAt o m<256^m
 |0=>⟨QL _,by show(0:Int)<256^0;rw[N9];decide⟩
 |m+1=>by have ih:=cZ o m;have z:=aJ o ((1:Int)+m);show 0<=codeAt o m*256+au o ((1:Int)+m)/\codeAt o m*256+au o ((1:Int)+m)<256^(m+1);rw[NL];exact ao 0x211c0121002684500480009bfc48824083b97c6098105f2380088b260020c59c6660020c598116f7c [_,_,_] [] ih z
noncomputable def cV(o:Array UInt8):DS:=⟨5,4294967295,codeAt o 4⟩
theorem Ci:∀m:Fin 4,(256:Int)^m.val<=16777216:=by decide
theorem nH(G:Good Z Kg)(hn:4<=n)(hs:o.size<=100000)(h5:5<=o.size)(h0:au o 0=0)(hc:codeAt o 4≠4294967295):ac Z n (.ref 1011) [.bytes o 0] J (λv J'=>∃r,v=.ref r/\J r=Mq/\Sub J J'/\uX J' r o (cV o)):=by
 refine bz G (lq hn rfl) eL λx hx=>?_;refine run G (yw hn rfl) ?_;lk;refine vM ?_;lk;lk;refine .bytes (db hs rfl) ?_;lk;refine jL (λa=>?_) (λh=>by lia);lk;refine jL (λa=>?_) (λh=>fb 0x108610000f5c08c25503311 [] [_] h5 h);lk;refine .bytes (db hs rfl) ?_;refine wZ (λa=>?_) (λh=>Ce 0x1080004ef714616 [] [_] h);lk;refine(kq (n:=n-1-1) (H:=J) (o:=o) (d:=⟨0,4294967295,0⟩) G (aS KY [] [_,_,_] hn (Me (af KI [] [_] hn)) (Me (ao KO [] [_,_] hn (Me (af KI [] [_] hn))))) (Wt hx _) hx ⟨aa _ _ _⟩ (db hs rfl) (by decide) (by dsimp only;exact af 0x4200013a81988dc090f [] [_] h5)).XW λJ1 S1 D1=>?_;dsimp only at D1 ⊢;rw[h0];refine aB (aK (λa=>?_) (λh=>absurd rfl h));lk;refine fF (λ(_ _ _:Unit)=>[(JL,.ref x)]) (λm a a a J'=>Sub J J'/\uX J' x o ⟨(1:Int)+m,4294967295,codeAt o m⟩) () () () (c:=4) (Mr _ _) ⟨S1,D1⟩ rfl ?_ ?_;·intro m _ _ _ J' Q' hm I0 hnext _;have S':=I0.1;have D':=I0.2;have Rr:=D'.1;have cr:=cZ o m;obtain z1:=cZ o m;have c1:=z1.1;have c2:=z1.2;have cp:=Ci ⟨m,hm⟩;replace cp:(256:Int)^m<=16777216:=cp;dsimp only at Rr;lk;refine(kq (n:=n-1-1) (H:=J) (d:=⟨(1:Int)+m,4294967295,codeAt o m⟩) G (aS KY [] [_,_,_] hn (Me (af KI [] [_] hn)) (Me (ao KO [] [_,_] hn (Me (af KI [] [_] hn))))) S' hx D' (db hs rfl) (by dsimp only;exact Ms _) (by dsimp only;exact ao 0x843080007a082823540cc4ebde0469122 [] [_,_] h5 hm)).XW λJ2 S2 D2=>?_;dsimp only at D2 ⊢;have Rr:=D2.1;dsimp only at Rr;have z:=aJ o ((1:Int)+m);lk;rw[Cp,show Ob (codeAt o m*256) (au o ((1:Int)+m))=codeAt o m*256+au o ((1:Int)+m) from o9 (k:=8) cr.1 z.1 (ao 0x211c21001e8009110cff88220417ca66090e [_,_] [] z Bo)];refine hnext () () () ⟨S2.upd hx _,⟨(aa _ _ _).trans ?_⟩⟩ rfl;·rw[show(1:Int)+((m+1:Nat):Int)=1+m+1 by lia];rfl
 ·intro _ _ _ J' r1;have S':=r1.1;have D':=r1.2;have Rr:=D'.1;dsimp only at Rr;lk;refine aK (λh=>absurd h hc) (λa=>?_);lk;exact⟨rfl,x,rfl,hx,S',D'⟩
variable{v:Ev}
section
open PySem
noncomputable def num(l:List UInt8):Int:=l.foldl (λa b=>a*256+(b.toNat:Int)) 0
theorem mX(l:List UInt8)(b:UInt8):num (l++[b])=num l*256+(b.toNat:Int):=by unfold num;rw[Th];rfl
theorem CP{x:Int}(h0:0<=x)(h1:x<256):((u8 x).toNat:Int)=x:=by unfold u8;rw[Vi];have:x.toNat%2^8=x.toNat:=Nat.mod_eq_of_lt (by lia);rw[this];exact af 0x8420027080004f71507ee2a0f [_] [_] (ME h0)
theorem num_rep(l:List UInt8)(b:UInt8):∀n:Nat,num (l++M8 n b)*255=(num l*255+(b.toNat:Int))*256^n-(b.toNat:Int)
 |0=>by simp
 |n+1=>by rw[List.replicate_succ',<-NI,mX,SY,Nk,NX 256 255,<-Nk,num_rep l b n,NL,Int.sub_mul,Nk];lia
inductive Enc(e:ES)(k:Nat)(T:Int):Prop where
 |mk (ex:∃h:Nat,e.held=h+1/\e.made.length+h=k/\T=((num e.made*256+e.cache)*256^h+(256^h-1))*4294967296+e.low)
  (low0:0<=e.low)
  (low1:e.low+e.span<=8589934592)
  (c0:0<=e.cache)
  (c1:e.cache<256)
  (full:e.cache=255->e.low+e.span<=4294967296)
  (s0:0<e.span)
theorem jh:Enc ES.init 0 0:=⟨⟨0,rfl,rfl,by decide⟩,by decide,by decide,by decide,by decide,by decide,by decide⟩
theorem qv(h:Nat):(0:Int)<256^h:=NU (by decide)
theorem uE(x:Int):x=x/4294967296*4294967296+x/16777216%256*16777216+x%16777216:=by lia
theorem uk{made:List UInt8}{cache:Int}{h:Nat}(c0:0<=cache)(hc:cache+d<256)(q0:0<=d)(q1:d<=1):num (made++[u8 ((cache+d)%256)]++M8 h (u8 ((255+d)%256)))=(num made*256+cache)*256^h+(256^h-1)+d:=by
 have n2:=num_rep (made++[u8 ((cache+d)%256)]) (u8 ((255+d)%256)) h;have d0:0<=cache+d:=Ur c0 q0;have d01:d=0∨d=1:=by lia
 rw[mX,Tj d0 hc,CP d0 hc] at n2;rw[Tj d0 hc];generalize num made*256=X at*;generalize(256:Int)^h=p at*;rcases d01 with rfl|rfl
 ·rw[show((u8 ((255+0)%256)).toNat:Int)=255 from by decide,SY,Nk,NX 255 p,<-Nk] at n2;rw[PE] at*;generalize(X+cache)*p=Y at*;exact af 0x843fc27083f84ffc7f888b3fc489187d5ff1062a9b2222d911bee0a32 [_,_,_] [] n2
 ·rw[show((u8 ((255+1)%256)).toNat:Int)=0 from by decide,<-Tn,PE,Nk,NX 255 p,<-Nk,SY (X+cache),Py] at n2;generalize(X+cache)*p=Y at*;exact af 0x1087f84e107f09ff88c88d2935ff1062a9362222d911bee0a36 [_,_,_] [] n2
theorem Enc.WA{T:Int}(E:Enc e k T)(hs:e.span<16777216):Enc (ES.WA {e with span:=e.span*256}) (k+1) (T*256):=by
 obtain⟨⟨h,e1,e2,e3⟩,l0,l1,c0,c1,cf,s0⟩:=E;obtain⟨made,low,span,cache,held⟩:=e;dsimp only at*;have L:=uE low;have r0:=Nv low (show(16777216:Int)≠0 by decide);have r1:=Ni low (show(0:Int)<16777216 by decide);have k0:=Nv (low/16777216) (show(256:Int)≠0 by decide);have k1:=Ni (low/16777216) (show(0:Int)<256 by decide);unfold ES.WA ES.put;dsimp only;generalize low%16777216=r at*;generalize low/16777216%256=c at*;generalize low/4294967296=d at*;subst L;have d0:0<=d:=by lia
 have d1:d<=1:=by lia
 by_cases hl:d*4294967296+c*16777216+r<4278190080∨4294967296<=d*4294967296+c*16777216+r
 ·rw[if_pos hl];have hh:(held-1).toNat=h:=ao 0x108e10800f422840003d106dc543915c77050f54150f [_] [_,_] e1 (ME (af 0x218421001e8b8ae0a1c88340818 [_] [_] e1));rw[hh];have q0:cache=255->d<=0:=λz=>by have:=cf z;lia
  have hc:cache+d<256:=by
   rcases Int.lt_or_le cache 255 with q|q;·exact ao 0x421840003dfe20915891008c004c167123 [_,_] [] d1 q
   ·have:=q0 (Int.le_antisymm (Int.le_of_lt_add_one c1) q);exact ao 0x843080007a4401b001048b4004c167123 [_,_] [] c1 this
  have N:=uk (made:=made) (h:=h) c0 hc d0 d1;refine⟨⟨0,rfl,?_,?_⟩,?_,?_,k0,k1,λz=>?_,?_⟩<;>dsimp only;·simp only[MH,NW,Ng];exact af 0x421001384000272a8267d1d890aea2099edc72d40 [] [_,_,_] e2
  ·rw[N,e3,N9];generalize(num made*256+cache)*256^h=Y at*;generalize(256:Int)^h=p at*;lia
  ·exact af 0x20090000dc080b8008300820 [_] [] r0
  ·exact ao KZ [_,_] [] hs r1
  ·subst z;rcases hl with hl|hl<;>lia
  ·exact af 0x20090000dc090b8008300920 [_] [] s0
 ·rw[if_neg hl];have hla:4278190080<=d*4294967296+c*16777216+r:=Q6.mp λz=>hl (.inl z);have hlb:d*4294967296+c*16777216+r<4294967296:=So.mp λz=>hl (.inr z);have dz:d=0:=by lia
  have cz:c=255:=by lia
  subst dz cz;refine⟨⟨h+1,af 0x8420027080004e2e2b828722209f49c4167236 [_] [_] e1,af 0x2108009c200013954133e8ec48571423826e537 [] [_,_,_] e2,?_⟩,?_,?_,c0,c1,λz=>?_,?_⟩<;>dsimp only;·rw[e3,NL,<-Nk];generalize(num made*256+cache)*256^h=Y at*;generalize(256:Int)^h=p at*;lia
  ·exact af 0x20090000dc080b8008300820 [_] [] r0
  ·exact ao KZ [_,_] [] hs r1
  ·have:=cf z;lia
  ·exact af 0x20090000dc090b8008300920 [_] [] s0
theorem Enc.aa5{k':Nat}{T T':Int}(E:Enc e k T)(E':Enc e k' T'):k=k'/\T=T':=by refine ae E.1 λh z3=>?_;refine ae E'.1 λh' z2=>?_;have:h=h':=ao 0x108e10000f422842003d15c77050f45c57050e54150f [_] [_,_] z3.1 z2.1;subst this;exact⟨ao 0x108e10000f422842003d5a90ad3a416a42b4e8f54150f [] [_,_,_,_] z3.2.1 z2.2.1,by rw[z3.2.2,z2.2.2]⟩
noncomputable def kZ(s:CS):Ev->Int
 |.bit j i b=>if b=0 then 0 else s.1.span/2048*s.2 j i
 |.dir b=>if b=1 then s.1.span/2 else 0
noncomputable def jY(s:CS):Ev->Int
 |.bit j i b=>if b=0 then s.1.span/2048*s.2 j i else s.1.span-s.1.span/2048*s.2 j i
 |.dir _=>s.1.span/2
noncomputable def zf:Ev->Prop
 |.bit _ _ b=>b=0∨b=1
 |.dir b=>b=0∨b=1
inductive Wide(e:ES):Prop where
 |mk (lo:16777216<=e.span)
  (hi:e.span<4294967296)
theorem wQ{s m:Int}(h0:16777216<=s)(h1:31<=m/\m<=2017):65536<=s/2048*m/\65536<=s-s/2048*m:=by
 have q:8192<=s/2048:=by lia
 have a:=Nr h1.1 (show 0<=s/2048 from r9 q rfl);have b:=Nr h1.2 (show 0<=s/2048 from r9 q rfl);generalize s/2048*m=x at*;constructor<;>lia
theorem wc(W:Wide s.1)(M:oJ s.2):0<=kZ s v/\65536<=jY s v/\kZ s v+jY s v<=s.1.span:=by
 have lo:=W.1;induction v with
 |bit j i b=>obtain z1:=wQ lo (M j i);have b1:=z1.1;have b2:=z1.2;unfold kZ jY;dsimp only;generalize s.1.span/2048*s.2 j i=x at*;split<;>refine⟨?_,?_,?_⟩<;>lia
 |dir b=>unfold kZ jY;dsimp only;split<;>refine⟨?_,?_,?_⟩<;>lia
theorem Enc.pre{e':ES}{T t:Int}(E:Enc e k T)(h1:e'.made=e.made)(h2:e'.cache=e.cache)(h3:e'.held=e.held)(h4:e'.low=e.low+t)(h5:0<=t)(h6:t+e'.span<=e.span)(h7:0<e'.span):Enc e' k (T+t):=by obtain⟨⟨h,e1,e2,e3⟩,l0,l1,c0,c1,cf,s0⟩:=E;refine⟨⟨h,by rw[h3];exact e1,by rw[h1];exact e2,by rw[h1,h2,h4,e3];lia⟩,aS 0x108e11421002990203a20407c6447050e4080b [_,_,_] [] h4 h5 l0,aS 0x108e11420002980000000043115a810a19c8ad2043988ae0a1d8000000004c16703c [_,_,_,_,_] [] h4 h6 l1,by rw[h2];exact c0,by rw[h2];exact c1,λq=>?_,h7⟩;have:=cf (by rw[<-h2];exact q);lia
theorem jl{T:Int}(E:Enc s.1 k T)(W:Wide s.1)(M:oJ s.2):Wide (dq s v).1/\oJ (dq s v).2/\ ((jY s v<16777216/\Enc (dq s v).1 (k+1) ((T+kZ s v)*256)/\(dq s v).1.span=jY s v*256)∨(16777216<=jY s v/\Enc (dq s v).1 k (T+kZ s v)/\(dq s v).1.span=jY s v)):=by
 have q:=wc (v:=v) W M;have hi:=W.2;have body:∀e':ES,e'.made=s.1.made->e'.cache=s.1.cache->e'.held=s.1.held->e'.low=s.1.low+kZ s v->e'.span=jY s v->
   Wide e'.fill/\((jY s v<16777216/\Enc e'.fill (k+1) ((T+kZ s v)*256)/\e'.fill.span=jY s v*256)∨(16777216<=jY s v/\Enc e'.fill k (T+kZ s v)/\e'.fill.span=jY s v)):=by
  intro e' h1 h2 h3 h4 h5
  have E':Enc e' k (T+kZ s v):=E.pre h1 h2 h3 h4 q.1 (ao 0x847088007b3222128e60b3c660000141178105f5c8cc16701c [_,_,_,_] [] q h5) (ao 0x212421001e8c141f98c88d211800005045e4083bb14090b [_,_,_,_] [] q h5)
  unfold ES.fill
  split
  ·rename_i hs;have sp:(ES.WA {e' with span:=e'.span*256}).span=e'.span*256:=by unfold ES.WA ES.put;dsimp only;split<;>rfl
   refine⟨⟨by rw[sp];exact ao 0x2009240121002e8c141f98c88d211800005045e4083bb14004190000000e03b [_,_,_,_] [] q h5,by rw[sp];exact af 0x80240003700000010493400000000400418b143 [_] [] hs⟩,.inl ⟨ao 0x422842003d000000122129c8883a00000020926 [_,_] [] h5 hs,E'.WA hs,by rw[sp,h5]⟩⟩
  ·rename_i hs;exact⟨⟨Q6.mp hs,aS 0x109211c22840006918283e00000000322932cc6446908c00002822f2041dd8a000000002092e [_,_,_,_] [] q hi h5⟩,.inr ⟨ao 0x211420001e8000000910e2cc8883b0000000e026 [_,_] [] h5 hs,E',h5⟩⟩
 induction v with
 |bit j i b=>
  refine⟨?_,M.up j i (mQ (M j i)),?_⟩;·refine(body (s.1.pre (s.2 j i) b) ?_ ?_ ?_ ?_ ?_).1<;>unfold ES.pre<;>(try unfold kZ)<;>(try unfold jY)<;>(try dsimp only)<;>split<;>simp
  ·refine(body (s.1.pre (s.2 j i) b) ?_ ?_ ?_ ?_ ?_).2<;>unfold ES.pre<;>(try unfold kZ)<;>(try unfold jY)<;>(try dsimp only)<;>split<;>simp
 |dir b=>
  refine⟨?_,M,?_⟩;·refine(body (s.1.WD b) ?_ ?_ ?_ ?_ ?_).1<;>unfold ES.WD<;>(try unfold kZ)<;>(try unfold jY)<;>(try dsimp only)<;>split<;>simp
  ·refine(body (s.1.WD b) ?_ ?_ ?_ ?_ ?_).2<;>unfold ES.WD<;>(try unfold kZ)<;>(try unfold jY)<;>(try dsimp only)<;>split<;>simp
end
section
open PySem
theorem j4{a:Int}(h:a<=b)(n:Nat):a*256^n<=b*256^n:=Pw h (Nl (qv n))
theorem nest{Tf:Int}{N:Nat}:∀(l:List Ev)(s:CS)(k:Nat)(T:Int),Enc s.1 k T->Wide s.1->oJ s.2->Enc (ah s l).1 N Tf-> ∃r:Nat,N=k+r/\T*256^r<=Tf/\Tf+(ah s l).1.span<=(T+s.1.span)*256^r/\Wide (ah s l).1/\oJ (ah s l).2
 |[],s,k,T,E,W,M,F=>by obtain z7:=E.aa5 F;rw[<-z7.1];rw[<-z7.2];exact⟨0,rfl,by simp,by rw[N9,RA];exact QL _,W,M⟩
 |v::l,s,k,T,E,W,M,F=>by
  obtain z6:=jl (v:=v) E W M;have H:=z6.2.2;have q:=wc (v:=v) W M;rw[aA] at F ⊢;rcases H with⟨h1,h2,h3⟩|⟨h1,h2,h3⟩
  ·refine ae (nest l _ _ _ h2 z6.1 z6.2.1 F) λr z5=>?_;refine⟨r+1,af 0x2108009c20001394508d17054aa242ba11c152a [] [_,_,_] z5.1,?_,?_,z5.2.2.2⟩;·rw[NL,NX (256^r) 256,<-Nk];exact OU (j4 (af 0x40120001bcc6446908c00002822f2041dd8a00260b3a400418b042 [_,_,_,_] [] q) r) z5.2.1
   ·rw[NL,NX (256^r) 256,<-Nk];exact OU z5.2.2.1 (j4 (by rw[h3];have:=q.2.2;lia) r)
  ·refine ae (nest l _ _ _ h2 z6.1 z6.2.1 F) λr z4=>?_;exact⟨r,z4.1,OU (j4 (af 0x1080004f31911a42300000a08bc8107762982e0818 [_,_,_,_] [] q) r) z4.2.1,OU z4.2.2.1 (j4 (by rw[h3];exact af 0x1088004f31911a42300000a08bc8107762cc171982ce6e034 [_,_,_,_] [] q) r),z4.2.2.2⟩
noncomputable def aT(o:Array UInt8)(j:Nat):Int:=num (o.toList.take j)
theorem bZ(h:j<o.size):aT o (j+1)=aT o j*256+au o j:=by
 unfold aT;have hl:j<o.toList.length:=by rw[NB];exact h
 rw[List.take_succ_eq_append_getElem hl,mX];unfold au;rw[show((j:Int)).toNat=j from rfl];congr 3;simp[Array.getD,h]
theorem gL{o:Array UInt8}:∀(r j:Nat),j+r=o.size->aT o j*256^r<=aT o o.size/\aT o o.size<(aT o j+1)*256^r
 |0,j,h=>by obtain rfl:j=o.size:=h;rw[N9];exact ck 0x806220b3a4138830e0c746 [_] []
 |r+1,j,h=>by obtain z3:=gL (o:=o) r (j+1) (af 0x2108009c20001394508e09b94aa55104cf6e52a [] [_,_,_] h);have h1:=z3.1;have h2:=z3.2;have b:=aJ o j;rw[bZ (by exact af 0x432840003d51215c13769554140f [] [_,_,_] h)] at h1 h2;rw[NL,NX (256^r) 256,<-Nk,<-Nk];exact⟨OU (j4 (af 0x8400027fe24412041dcbe60020c59c00418b042 [_,_] [] b) r) h1,PI h2 (j4 (af 0x2108009ff89104810772f800882ce913001062ce37805c [_,_] [] b) r)⟩
theorem de{a:Int}(h:a*256^n<b*256^n):a<b:=Int.lt_of_mul_lt_mul_right h (Nl (qv n))
theorem yD{sp c m:Int}(hb:b=0∨b=1)(k1:(if b=0 then 0 else sp/2048*m)<=c)(k2:c<(if b=0 then 0 else sp/2048*m)+(if b=0 then sp/2048*m else sp-sp/2048*m)):(⟨pl,sp,c⟩:DS).get m=b/\(⟨pl,sp,c⟩:DS).pre m=⟨pl,(if b=0 then sp/2048*m else sp-sp/2048*m),c-(if b=0 then 0 else sp/2048*m)⟩:=by
 unfold DS.get DS.pre;dsimp only;rcases hb with rfl|rfl
 ·have k2:c<0+sp/2048*m:=k2;rw[R9] at k2;rw[if_neg (So.mpr k2),if_neg (So.mpr k2)];exact⟨rfl,by show _=(⟨pl,sp/2048*m,c-0⟩:DS);rw[Uc]⟩
 ·have k1:sp/2048*m<=c:=k1;rw[if_pos k1,if_pos k1];exact⟨rfl,rfl⟩
theorem Ak{sp c:Int}(hb:b=0∨b=1)(k1:(if b=1 then sp/2 else 0)<=c)(k2:c<(if b=1 then sp/2 else 0)+sp/2):(⟨pl,sp,c⟩:DS).YT=b/\(⟨pl,sp,c⟩:DS).WD=⟨pl,sp/2,c-(if b=1 then sp/2 else 0)⟩:=by
 unfold DS.YT DS.WD;dsimp only;rcases hb with rfl|rfl
 ·have k2:c<0+sp/2:=k2;rw[R9] at k2;rw[if_neg (So.mpr k2),if_neg (So.mpr k2)];exact⟨rfl,by show _=(⟨pl,sp/2,c-0⟩:DS);rw[Uc]⟩
 ·have k1:sp/2<=c:=k1;rw[if_pos k1,if_pos k1];exact⟨rfl,rfl⟩
theorem follow{o:Array UInt8}{N:Nat}(hs:o.size=N+5):∀(l:List Ev)(s:CS)(k:Nat)(T:Int),Enc s.1 k T->Wide s.1->oJ s.2->(∀v∈l,zf v)->Enc (ah s l).1 N (aT o o.size)-> ay o (⟨5+k,s.1.span,aT o (5+k)-T⟩,s.2) l/\ ak o (⟨5+k,s.1.span,aT o (5+k)-T⟩,s.2) l=(⟨5+N,(ah s l).1.span,0⟩,(ah s l).2)
 |[],s,k,T,E,W,M,_,F=>by obtain z2:=E.aa5 F;obtain rfl:=z2.1;rw[z2.2];refine⟨trivial,?_⟩;rw[sx,dk,show 5+k=o.size from af 0x2100009c210013a209d0947aaa0668d1e [] [_,_] hs,Int.sub_self]
 |v::l,s,k,T,E,W,M,ok,F=>by
  obtain z1:=jl (v:=v) E W M;have H:=z1.2.2;have q:=wc (v:=v) W M;rw[aA] at F ⊢;rw[cN];have key:kZ s v<=aT o (5+k)-T/\aT o (5+k)-T<kZ s v+jY s v/\(jY s v<16777216->k<N):=by
   rcases H with⟨h1,h2,h3⟩|⟨h1,h2,h3⟩;·refine CV (nest l _ _ _ h2 z1.1 z1.2.1 F) λr r1 r2 r3 r4 a=>?_;have c:=gL (o:=o) (r+1) (5+k) (ao 0x108a10000f423842003d5104cf7a169551a15c85a4528a11d40cd175d39 [] [_,_,_,_] hs r1);have hsp:=r4.1;rw[NL,NX (256^r) 256,<-Nk,<-Nk] at c;rw[h3] at r3;have a1:=de (Ot r2 c.2);have a2:=de (Ot c.1 (PI (b:=aT o o.size+(ah (dq s v) l).1.span) (af 0x840002730000000e029982e0918 [_,_] [] hsp) r3));refine⟨af 0x2107f89c004488d1900188acf921538c896081c [_,_,_] [] a1,af 0x2107f89c0064590011911a5277001062c5a73115cc1a712a [_,_,_,_] [] a2,λa=>af 0x432842003d288267ba129554140f [] [_,_,_] r1⟩
   ·refine CV (nest l _ _ _ h2 z1.1 z1.2.1 F) λr r1 r2 r3 r4 a=>?_;have c:=gL (o:=o) r (5+k) (ao 0x422840003d08e10800f5413d0b4768d0ae42d2295540cd16f52c [] [_,_,_,_] hs r1);have hsp:=r4.1;rw[h3] at r3;have a1:=de (Ot r2 c.2);have a2:=de (Ot c.1 (PI (b:=aT o o.size+(ah (dq s v) l).1.span) (af 0x840002730000000e029982e0918 [_,_] [] hsp) r3));exact⟨af 0x84000271223c45679298c896081c [_,_,_] [] a1,af 0x4200013cc644693824ab3115cc1a712a [_,_,_,_] [] a2,λz=>fb 0x210c20001e80000008249b0000000e026 [_] [] h1 z⟩
  have k1:=key.1;have k2:=key.2.1;have dec:gj o (⟨5+k,s.1.span,aT o (5+k)-T⟩,s.2) v=((⟨5+k,jY s v,aT o (5+k)-T-kZ s v⟩:DS).fill o,(dq s v).2)/\Zt o (⟨5+k,s.1.span,aT o (5+k)-T⟩,s.2) v:=by
   have room:(⟨5+k,jY s v,aT o (5+k)-T-kZ s v⟩:DS).room o:=λz=>by have:=key.2.2 z;show(5+k:Int)<o.size;exact ao 0x422842003d2828214485742521af7a066a124 [] [_,_,_] hs this
   have ok1:=ok v (.head _);induction v with
   |bit j i b=>
    have gp:(⟨5+k,s.1.span,aT o (5+k)-T⟩:DS).get (s.2 j i)=b/\(⟨5+k,s.1.span,aT o (5+k)-T⟩:DS).pre (s.2 j i)=⟨5+k,jY s (.bit j i b),aT o (5+k)-T-kZ s (.bit j i b)⟩:=yD ok1 k1 k2;refine⟨?_,gp.1,?_⟩;·show(((⟨5+k,s.1.span,aT o (5+k)-T⟩:DS).pre (s.2 j i)).fill o,uu s.2 j i (Xu (s.2 j i) b))=_;rw[gp.2];rfl
    ·show((⟨5+k,s.1.span,aT o (5+k)-T⟩:DS).pre (s.2 j i)).room o;rw[gp.2];exact room
   |dir b=>
    have gp:(⟨5+k,s.1.span,aT o (5+k)-T⟩:DS).YT=b/\(⟨5+k,s.1.span,aT o (5+k)-T⟩:DS).WD=⟨5+k,jY s (.dir b),aT o (5+k)-T-kZ s (.dir b)⟩:=Ak ok1 k1 k2;refine⟨?_,gp.1,?_,?_⟩;·show((⟨5+k,s.1.span,aT o (5+k)-T⟩:DS).WD.fill o,s.2)=_;rw[gp.2];rfl
    ·show((⟨5+k,s.1.span,aT o (5+k)-T⟩:DS).WD).room o;rw[gp.2];exact room
    ·show((⟨5+k,s.1.span,aT o (5+k)-T⟩:DS).WD).WE<((⟨5+k,s.1.span,aT o (5+k)-T⟩:DS).WD).span;rw[gp.2];dsimp only;exact af 0x4200013cc4573069c4ab319834eae12a [_,_,_,_] [] k2
  rw[dec.1];rcases H with⟨h1,h2,h3⟩|⟨h1,h2,h3⟩
  ·have e:(⟨5+k,jY s v,aT o (5+k)-T-kZ s v⟩:DS).fill o=⟨5+(k+1:Nat),(dq s v).1.span,aT o (5+(k+1))-(T+kZ s v)*256⟩:=by unfold DS.fill;rw[if_pos h1,h3,show 5+(k+1)=5+k+1 from rfl,bZ (by have:=key.2.2 h1;exact ao 0x108a10800f4a0a0851215d09486aa0668c1e [] [_,_,_] hs this)];have c1:(5+(k:Int))+1=5+(k+1:Nat):=rfl;have c2:((5+k:Nat):Int)=5+k:=rfl;rw[c2];show(⟨5+(k:Int)+1,jY s v*256,(aT o (5+k)-T-kZ s v)*256+au o (5+k)⟩:DS)=_;rw[c1];congr 1;generalize au o (5+(k:Int))=z;exact ck 0x2018008c88d2998008316725cc004660d3ab9317fa9c [_,_,_,_] []
   rw[e];have IH:=follow hs l _ _ _ h2 z1.1 z1.2.1 (λv hv=>ok v (.tail _ hv)) F;exact⟨⟨dec.2,by rw[dec.1,e];exact IH.1⟩,IH.2⟩
  ·have e:(⟨5+k,jY s v,aT o (5+k)-T-kZ s v⟩:DS).fill o=⟨5+k,(dq s v).1.span,aT o (5+k)-(T+kZ s v)⟩:=by unfold DS.fill;rw[if_neg (show ¬jY s v<16777216 from af 0x2100009e0000001c04d000000104e29 [_] [] h1),h3];congr 1;exact ck 0x4031911c1b19834eae241 [_,_,_] []
   rw[e];have IH:=follow hs l _ _ _ h2 z1.1 z1.2.1 (λv hv=>ok v (.tail _ hv)) F;exact⟨⟨dec.2,by rw[dec.1,e];exact IH.1⟩,IH.2⟩
end
section
open PySem
noncomputable def Yb(e:ES):ES:={e with span:=1}
theorem Enc.Yb{T:Int}(E:Enc e k T):Enc (Yb e) k T:=by
 obtain⟨⟨h,e1,e2,e3⟩,l0,l1,c0,c1,cf,s0⟩:=E;refine⟨⟨h,e1,e2,e3⟩,l0,?_,c0,c1,λq=>?_,?_⟩;·show e.low+1<=_;exact ao 0x843080007a4090e8000000004c16703c8000000004416703c [_,_] [] l1 s0
 ·have:=cf q;show e.low+1<=_;exact ao 0x210c20001e800000000982ce077204874000000004416703b [_,_] [] s0 this
 ·show(0:Int)<1;decide
theorem Enc.sh{T:Int}(E:Enc (Internal.Yb e) k T):Enc (Internal.Yb e.WA) (k+1) (T*256):=by
 have:=(E.WA (by show(1:Int)<_;decide)).Yb;have e1:Internal.Yb (ES.WA {Internal.Yb e with span:=(Internal.Yb e).span*256})=Internal.Yb e.WA:=by unfold Internal.Yb ES.WA ES.put;dsimp only;split<;>rfl
 rw[e1] at this;exact this
theorem gY(e:ES):e.WA.low=e.low%16777216*256:=by unfold ES.WA ES.put;split<;>rfl
theorem sW(h:e.low=0):e.WA.held=1/\e.WA.cache=0/\e.WA.low=0:=by unfold ES.WA ES.put;rw[if_pos (by lia)];dsimp only;rw[h];decide
theorem rP{T:Int}(E:Enc e k T):e.WW.made.length=k+5/\num e.WW.made=T:=by
 have E5:=E.Yb.sh.sh.sh.sh.sh;have l0:=E.2;have h1:=gY e;have h2:=gY e.WA;have h3:=gY e.WA.WA;have h4:=gY e.WA.WA.WA;have z:e.WA.WA.WA.WA.low=0:=by lia
 obtain z7:=sW z;have z1:=z7.1;have z2:=z7.2.1;have z3:=z7.2.2;refine ae E5.1 λh z6=>?_;have q1:=z6.1;have q2:=z6.2.1;have q3:=z6.2.2;have q1:e.WW.held=h+1:=q1;have q2:e.WW.made.length+h=k+1+1+1+1+1:=q2;have q3:T*256*256*256*256*256=((num e.WW.made*256+e.WW.cache)*256^h+(256^h-1))*4294967296+e.WW.low:=q3;have z1:e.WW.held=1:=z1;have z2:e.WW.cache=0:=z2;have z3:e.WW.low=0:=z3;obtain rfl:h=0:=ao 0x108e10000f422842003d1050745c57050e4150b [_] [_] q1 z1;rw[z2,z3,N9] at q3;exact⟨q2,by lia⟩
theorem tX:∀(l:List Ev)(s:CS)(k:Nat)(T:Int),Enc s.1 k T->Wide s.1->oJ s.2->bM λN Tf=>Enc (ah s l).1 N Tf
 |[],s,k,T,E,_,_=>⟨k,T,E⟩
 |v::l,s,k,T,E,W,M=>by obtain z5:=jl (v:=v) E W M;have H:=z5.2.2;rw[aA];rcases H with⟨_,h2,_⟩|⟨_,h2,_⟩<;>exact tX l _ _ _ h2 z5.1 z5.2.1
theorem kJ(h5:5<=o.size)(h0:au o 0=0):codeAt o 4=aT o 5:=by have p1:aT o 1=aT o 0*256+au o 0:=bZ (jR h5 rfl);have p2:=bZ (o:=o) (j:=1) (jR h5 rfl);have p3:=bZ (o:=o) (j:=2) (jR h5 rfl);have p4:=bZ (o:=o) (j:=3) (Np h5);have p5:=bZ (o:=o) (j:=4) h5;have p0:aT o 0=0:=rfl;have c:codeAt o 4=(((0*256+au o ((1:Int)+(0:Nat)))*256+au o ((1:Int)+(1:Nat)))*256+au o ((1:Int)+(2:Nat)))*256+au o ((1:Int)+(3:Nat)):=rfl;have a1:(1:Int)+(0:Nat)=(1:Nat):=rfl;have a2:(1:Int)+(1:Nat)=(2:Nat):=rfl;have a3:(1:Int)+(2:Nat)=(3:Nat):=rfl;have a4:(1:Int)+(3:Nat)=(4:Nat):=rfl;rw[a1,a2,a3,a4] at c;rw[p5,p4,p3,p2,p1,h0,p0,c];rfl
theorem rT(M:oJ C){l:List Ev}(ok:∀v∈l,zf v)(ho:o=(ah (ES.init,C) l).1.WW.made.toArray):5<=o.size/\au o 0=0/\codeAt o 4<4294967295/\ay o (cV o,C) l/\(ak o (cV o,C) l).1.WE=0/\(ak o (cV o,C) l).1.place=o.size/\(ak o (cV o,C) l).2=(ah (ES.init,C) l).2:=by
 have W:Wide ES.init:=⟨by decide,by decide⟩;refine bI (tX l (ES.init,C) 0 0 jh W M) λN Tf F=>?_;obtain z4:=rP F;have hs:o.size=N+5:=by rw[ho,Oi,z4.1]
 have hp:aT o o.size=Tf:=by unfold aT;rw[<-z4.2,ho];congr 1;exact PJ (by simp)
 rw[<-hp] at F;refine CV (nest l (ES.init,C) 0 0 jh W M F) λr r1 r2 r3 r4 a=>?_;have hN:r=N:=af 0x2100009c21001380ba128cd4150f [] [_,_] r1;subst hN;have r3:aT o o.size+(ah (ES.init,C) l).1.span<=(0+4294967295)*256^r:=r3;have sp:=r4.1;have c1:=gL (o:=o) (r+4) 1 (af 0x420001384200274413a128f54104e046f52b [] [_,_] hs);have c5:=gL (o:=o) r 5 (af 0x2100009c210013a209d0947aaa0668d1e [] [_,_] hs);have b:=aJ o 0;have p1:aT o 1=aT o 0*256+au o 0:=bZ (af 0x863084007a8a11c151e80c0c [] [_,_] hs);have p0:aT o 0=0:=rfl;have h0:au o 0=0:=by
  have:aT o 1*4294967296<4294967295:=by
   refine de (n:=r) (Ot (b:=aT o o.size) ?_ ?_)
   ·rw[Nk];have:(4294967296:Int)*256^r=256^(r+4):=by rw[Ti,NX];rfl
    rw[this];exact c1.1
   ·have:(0+4294967295:Int)=4294967295:=rfl;rw[this] at r3;exact ao K4 [_,_,_] [] r3 sp
  have:=b.1;lia
 have h5:5<=o.size:=af 0x10c610800f5142382a3d503311 [] [_,_] hs;have hc:aT o 5<4294967295:=de (n:=r) (Ot c5.1 (by have:(0+4294967295:Int)=4294967295:=rfl;rw[this] at r3;exact ao K4 [_,_,_] [] r3 sp));have fo:=follow (o:=o) hs l (ES.init,C) 0 0 jh W M ok F;have e:(⟨5+(0:Nat),ES.init.span,aT o (5+0)-0⟩:DS)=cV o:=by unfold cV;rw[kJ h5 h0,Uc];rfl
 rw[e] at fo;refine⟨h5,h0,by rw[kJ h5 h0];exact hc,fo.1,by rw[fo.2],by rw[fo.2,hs];show(5:Int)+(r:Nat)=((r+5:Nat):Int);exact ck 0x4034413f7a066a231 [] [_],by rw[fo.2]⟩
end
theorem EG{st:List Md}{k A:T}(q:X Z n Q (.bk st k::K) J E [] A):X Z n Q K J E st (.blk A k):=q
section
variable{d:DS}
theorem wd(G:Good Z Kg)(hn:0<n)(D:uX J r o d)(h:d.WE=0):ac Z n (.ref 973) [.ref r] J (λv J'=>v=.bool Mh/\J=J'):=by have Rr:=D.1;refine run G hn ?_;lk;rw[h];refine iu (r:=Mh) .int rfl ?_;lk;exact⟨rfl,rfl⟩
theorem yU(G:Good Z Kg)(hn:0<n)(D:uX J r o d):ac Z n (.ref 966) [.ref r] J (λv J'=>v=.int (o.size-d.place) 0/\J=J'):=by have Rr:=D.1;refine run G hn ?_;lk;exact⟨rfl,rfl⟩
end
inductive PR(H J:Sg)(A:Rows)(B:MA)(r:Mk)(o:Array UInt8)(y wi rb rp q:Mk)(tx:Array UInt8)(x:RT)(l:List UInt8)(v:LS):Prop where
 |mk(R:RS H J A r o x)
  (yo:J y=Mc (.Wu 576 [(Js,.ref B.m),(Jx,.ref wi),(Jt,.none),(Ju,.int v.pl 0),(Jw,.int v.st 0),(Jv,.ref rp),(Jr,.bool Mg)]))
  (hy:H y=Mq)
  (W:vp J wi rb l)
  (hw:H wi=Mq)
  (hb:H rb=Mq)
  (P:eE J rp q v.back)
  (hr:H rp=Mq)
  (off:∀j,j<18->A.ra j≠q/\A.da j≠q)
  (st0:0<=v.st)
  (st1:v.st<=11)
  (pl:v.pl=l.length)
  (tk:l=tx.toList.take l.length)
  (fit:l.length<=tx.size)
  (small:tx.size<=254)
noncomputable def rN(y wi rb rp q:Mk):Mk->Prop:=λa=>a=y∨a=wi∨a=rb∨a=rp∨a=q
variable{v:LS}{wi:Mk}{tx:Array UInt8}
theorem RS.held(R:RS H J A r o x)(hw:¬P r)(hP:∀j,j<18->¬P (A.ra j)/\¬P (A.da j)):RS (aV H J P) J A r o x:=
 ⟨R.1.WT P,R.2,R.3,ai hw R.4,λj hj=>⟨ai (hP j hj).1 (R.5 j hj).1,ai (hP j hj).2 (R.5 j hj).2⟩,R.6,R.7,R.8,R.9⟩
theorem RS.Zh{x':RT}(R:RS H J A r o x)(R':RS (aV H J P) J' A r o x'):RS H J' A r o x':=
 ⟨R.1.Xi R'.1,R'.2,R'.3,R.4,R.5,R'.6,R'.7,R'.8,R'.9⟩
theorem RS.ch(R:RS H J A r o x)(S:Sub H J')(keep:∀a c,(a=r∨∃j,j<18/\(a=A.ra j∨a=A.da j))->J a=Mc c->J' a=Mc c):RS H J' A r o x:=
 ⟨S,λj hj=>(R.2 j hj).keep λa c h e=>keep a c (.inr ⟨j,hj,h⟩) e,⟨keep _ _ (.inl rfl) R.3.1⟩,R.4,R.5,R.6,R.7,R.8,R.9⟩
theorem RS.neI(R:RS H J A r o x){C:Nat}(h:J a=Mc (.Wu C fs))(h1:C≠159)(h2:C≠1011):r≠a/\∀j,j<18->A.ra j≠a/\A.da j≠a:=
 ⟨λz=>by have:=R.3.1;rw[z,h] at this;cases this;exact h2 rfl,λj hj=>(R.2 j hj).neI h h1⟩
theorem PR.hyp(L:PR H J A B r o y wi rb rp q tx x l v):¬rN y wi rb rp q r/\∀j,j<18->¬rN y wi rb rp q (A.ra j)/\¬rN y wi rb rp q (A.da j):=by
 have a1:=L.1.neI L.2 (by decide) (by decide);have a2:=L.1.neI L.4.1 (by decide) (by decide);have a3:r≠rb:=mf L.1.3.1 L.4.2 rfl;have a4:=L.1.neI L.7.1 (by decide) (by decide);have a5:r≠q:=mf L.1.3.1 L.7.2 rfl;refine⟨?_,λj hj=>⟨?_,?_⟩⟩;·rintro(z|z|z|z|z);exact a1.1 z;exact a2.1 z;exact a3 z;exact a4.1 z;exact a5 z
 ·have b:=(L.1.2 j hj).neB L.4.2;rintro(z|z|z|z|z);exact(a1.2 j hj).1 z;exact(a2.2 j hj).1 z;exact b.1 z;exact(a4.2 j hj).1 z;exact(L.9 j hj).1 z
 ·have b:=(L.1.2 j hj).neB L.4.2;rintro(z|z|z|z|z);exact(a1.2 j hj).2 z;exact(a2.2 j hj).2 z;exact b.2 z;exact(a4.2 j hj).2 z;exact(L.9 j hj).2 z
theorem PR.RH(L:PR H J A B r o y wi rb rp q tx x l v):RS (aV H J (rN y wi rb rp q)) J A r o x:=L.1.held L.hyp.1 L.hyp.2
theorem PR.next(L:PR H J A B r o y wi rb rp q tx x l v){x':RT}(R':RS (aV H J (rN y wi rb rp q)) J' A r o x'):PR H J' A B r o y wi rb rp q tx x' l v:=
 ⟨L.1.Zh R',R'.1.at (.inl rfl) L.2,L.3,⟨R'.1.at (.inr (.inl rfl)) L.4.1,R'.1.at (.inr (.inr (.inl rfl))) L.4.2⟩,L.5,L.6,
  ⟨R'.1.at (.inr (.inr (.inr (.inl rfl)))) L.7.1,R'.1.at (.inr (.inr (.inr (.inr rfl)))) L.7.2,L.7.3⟩,L.8,L.9,L.10,L.11,L.12,L.13,L.14,L.15⟩
theorem PR.sup(L:PR H J A B r o y wi rb rp q tx x l v)(S:Sub J J'):PR H J' A B r o y wi rb rp q tx x l v:=
 ⟨L.1.sup S,S _ _ L.2,L.3,⟨S _ _ L.4.1,S _ _ L.4.2⟩,L.5,L.6,⟨S _ _ L.7.1,S _ _ L.7.2,L.7.3⟩,L.8,L.9,L.10,L.11,L.12,L.13,L.14,L.15⟩
theorem PR.set(L:PR H J A B r o y wi rb rp q tx x l v){st:Int}(h0:0<=st)(h1:st<=11)(e:J'=Internal.upd J y (.Wu 576 [(Js,.ref B.m),(Jx,.ref wi),(Jt,.none),(Ju,.int v.pl 0),(Jw,.int st 0),(Jv,.ref rp),(Jr,.bool Mg)])):PR H J' A B r o y wi rb rp q tx x l ⟨v.pl,st,v.back⟩:=by
 have a1:=L.1.neI L.2 (by decide) (by decide);have ne:∀{a c},J a=Mc c->(∀C fs,c=.Wu C fs->C≠576)->a≠y:=λ{a c} h hc z=>by rw[z,L.2] at h;exact hc _ _ (MI h).symm rfl
 have k:∀{a c},J a=Mc c->(∀C fs,c=.Wu C fs->C≠576)->J' a=Mc c:=λh hc=>by rw[e];exact(ag _ _ (ne h hc)).trans h
 refine⟨L.1.ch (by rw[e];exact L.1.1.upd L.3 _) ?_,by rw[e];exact aa _ _ _,L.3,⟨k L.4.1 (by rintro _ _ ⟨⟩;decide),k L.4.2 nofun⟩,L.5,L.6,⟨k L.7.1 (by rintro _ _ ⟨⟩;decide),k L.7.2 nofun,L.7.3⟩,L.8,L.9,h0,h1,L.12,L.13,L.14,L.15⟩;rintro a c (rfl|⟨j,hj,rfl|rfl⟩) h;·rw[e];exact(ag _ _ a1.1).trans h
 ·rw[e];exact(ag _ _ (a1.2 j hj).1).trans h
 ·rw[e];exact(ag _ _ (a1.2 j hj).2).trans h
theorem PR.oct(L:PR H J A B r o y wi rb rp q tx x l v){d:Nat}(d0:1<=d)(d1:d<=l.length):((l.getD (l.length-d) 0).toNat:Int)=au tx (v.pl-d):=by
 have hf:=L.14;have e:=L.13;rw[L.12];unfold au;rw[show((l.length:Int)-(d:Int)).toNat=l.length-d from aS K3 [] [_,_,_,_] (Nh _) (ME (af Mn [] [_,_] d1)) (Me d1)];have h1:l[l.length-d]?=tx[l.length-d]?:=by rw[e,QK,<-e,if_pos (by exact ao K0 [] [_,_,_] d0 (Me d1))];simp
 rw[Mw,h1,P7]
theorem cC(G:Good Z Kg)(hn:3<=n)(L:PR H J A B r o y wi rb rp q tx x l v)(d1:d<=v.pl):ac Z n (.ref 503) [.ref y,.int d 0] J (λu J'=>u=.none/\J=J'):=by have h1:=L.2;have h2:=L.4.1;have hs:=L.15;have hf:=L.14;have hp:=L.12;refine run G (lq hn rfl) ?_;lk;refine sS (C:=905) (f:=852) ?_ h2 rfl;refine((pK (n:=n-1) G (lp hn rfl) L.4 (ao Lk [] [_,_] hs hf))).k01 ?_;refine⟨rfl,?_⟩;refine nG (λh=>CF 0x847086100014ee290fbc8884a6080e [_,_] [_] d1 hp h) (λa=>?_);lk;exact⟨rfl,rfl⟩
theorem rL(G:Good Z Kg)(hn:0<n)(L:PR H J A B r o y wi rb rp q tx x l v):ac Z n (.ref 510) [.ref y,.int d 0] J (λu J'=>u=.none/\J=J'):=by have h1:=L.2;refine run G (lq hn rfl) ?_;lk;lk;exact⟨rfl,rfl⟩
theorem wh(G:Good Z Kg)(hn:3<=n)(L:PR H J A B r o y wi rb rp q tx x l v)(d0:1<=d)(d1:d<=v.pl):ac Z n (.ref 881) [.ref wi,.int d 0] J (λu J'=>u=.int (au tx (v.pl-d)) 0/\J=J'):=by have hs:=L.15;have hf:=L.14;have hp:=L.12;refine ae (MW (show 0<=d from r9 d0 rfl)) λm z1=>?_;obtain rfl:=z1;refine((Aw (n:=n) G hn L.4 (ao Lk [] [_,_] hs hf) (d:=m) (vX d0) (ao 0x108a10000f6e280faf0508d4130f [_] [_,_] hp d1))).k01 ?_;exact⟨by rw[L.oct (vX d0) (ao 0x108a10000f6e280faf0508d4130f [_] [_,_] hp d1)],rfl⟩
section
variable{st:List Md}{k e:T}
end
noncomputable def hW(B:MA)(tx:Array UInt8)(v:LS)(c:Int):List Ev:=
 if v.st<7 then az 9 (B.lit v.pl (if 0<v.pl then au tx (v.pl-1) else 0)) 8 1 c else bU (B.lit v.pl (if 0<v.pl then au tx (v.pl-1) else 0)) 8 1 c (au tx (v.pl-v.back.getD 0 0))
theorem k7(G:Good Z Kg)(hn:8<=n)(L:PR H J A B r o y wi rb rp q tx x l v)(M:aj H A B){c:Int}(c0:0<=c)(c1:c<256)(dd:¬v.st<7->1<=v.back.getD 0 0/\v.back.getD 0 0<=v.pl)(F:ay o x (hW B tx v c)):ac Z n (.ref 517) [.ref y,.ref r] J (λu J'=>∃t,u=.ref t/\J' t=Mc (.tup [.str "lit" 0,.int c 0])/\PR H J' A B r o y wi rb rp q tx (ak o x (hW B tx v c)) l ⟨v.pl,gR v.st,v.back⟩):=by
 have h1:=L.2;have h2:=L.4.1;have hs:=L.15;have hf:=L.14;have hp:=L.12;have Mm:=L.1.1 _ _ M.1;refine run G (lq hn rfl) ?_;lk;refine DZ (λu ρ' J'=>u=.int (if 0<v.pl then au tx (v.pl-1) else 0) 0/\ρ'=[(JL,.ref y),(JV,.ref r)]/\J'=J) ?_ ?_
 ·intro Q' hQ;lk;refine nG (λh=>?_) (λh=>?_);·rw[if_pos h] at hQ;lk;refine sS (C:=905) (f:=852) ?_ h2 rfl;refine((pK (n:=n-1) G (lp hn rfl) L.4 (ao Lk [] [_,_] hs hf))).k01 ?_;refine⟨rfl,?_⟩;refine aB (nG (λa=>?_) (λh=>by lia));lk;refine((wh (n:=n-1) G (lp hn rfl) L (by decide) h)).k01 ?_;lk;exact hQ ⟨_,⟨rfl,rfl,rfl⟩,rfl⟩
  ·rw[if_neg h] at hQ;lk;exact hQ ⟨_,⟨rfl,rfl,rfl⟩,rfl⟩
 ·intro _ _ _ r1;rw[r1.1];rw[r1.2.1];rw[r1.2.2];unfold hW at F ⊢;generalize hbf:(if 0<v.pl then au tx (v.pl-1) else 0)=before at*;have hb:0<=before/\before<=255:=by have z:=aJ tx (v.pl-1);have z1:=z.1;have z2:=z.2;rw[<-hbf];split<;>constructor<;>lia
  obtain z3:=oO M (place:=v.pl) (af KM [_] [_] hp) hb.1 hb.2;have l0:=z3.1;have l1:=z3.2;lk;refine((e7 (n:=n-1) G (lp hn rfl) L.1.1 M (af KM [_] [_] hp) hb.1)).k01 ?_;refine eQ (kH (wu (λρ' J'=>ρ'=[(JL,.ref y),(IB,.int c 0)]/\PR H J' A B r o y wi rb rp q tx (ak o x (if v.st<7 then az 9 (B.lit v.pl before) 8 1 c else bU (B.lit v.pl before) 8 1 c (au tx (v.pl-v.back.getD 0 0)))) l v) ?_ ?_))
  ·intro Q' hQ _ _ _;lk;refine((gd (n:=n-1) G (lp hn rfl))).k01 ?_;refine xV (λh=>?_) (λh=>?_);·have h:=of_decide_eq_true h;rw[if_pos h] at F hQ;lk;refine(kY (n:=n-1) G (lp hn rfl) L.RH l0 (af 0x84000277c00416b825bc00416b024 [_] [_] l1) c0 c1 F).Wr λJ2 R2=>?_;lk;exact hQ ⟨_,⟨rfl,L.next R2⟩,rfl⟩
   ·have h:=of_decide_eq_false h;rw[if_neg h] at F hQ;have P1:=L.7.1;have dd:=dd h;lk;refine((br (n:=n-1) G (lp hn rfl) L.7)).k01 ?_;lk;refine((cC (n:=n-1) G (lp hn rfl) L dd.2)).k01 ?_;lk;refine((br (n:=n-1) G (lp hn rfl) L.7)).k01 ?_;lk;refine((wh (n:=n-1) G (lp hn rfl) L dd.1 dd.2)).k01 ?_;have z:=aJ tx (v.pl-v.back.getD 0 0);lk;refine(kX (n:=n-1) G (lp hn rfl) L.RH l0 l1 c0 c1 z.1 (af K8 [_] [] z) F).Wr λJ2 R2=>?_;lk;exact hQ ⟨_,⟨rfl,L.next R2⟩,rfl⟩
  ·intro ρ' J' r2;rw[r2.1];have L2:=r2.2;clear h1 h2 Mm;have h1:=L2.2;lk;refine((eK (n:=n-1) G (lp hn rfl))).k01 ?_;have z:=ju L2.10 L2.11;lk;intro t ht;lk;exact⟨t,rfl,aa _ _ _,(L2.set z.1 z.2 rfl).sup (Wt ht _)⟩
theorem PR.Zg(L:PR H J A B r o y wi rb rp q tx x l v){q':Mk}{b:List Int}(hq:J q'=Mq)(R:eE J' rp q' b)(keep:∀a c,a≠rp->J a=Mc c->J' a=Mc c):PR H J' A B r o y wi rb rp q' tx x l ⟨v.pl,v.st,b⟩:=by
 have a4:=L.1.neI L.7.1 (by decide) (by decide);have ne:∀{a c},J a=Mc c->(∀C fs,c=.Wu C fs->C≠407)->a≠rp:=λ{a c} h hc z=>by rw[z,L.7.1] at h;exact hc _ _ (MI h).symm rfl
 refine⟨L.1.ch (λa c e=>keep a c (yx e L.8) (L.1.1 a c e)) ?_,keep _ _ (ne L.2 (by rintro _ _ ⟨⟩;decide)) L.2,L.3,⟨keep _ _ (ne L.4.1 (by rintro _ _ ⟨⟩;decide)) L.4.1,keep _ _ (ne L.4.2 nofun) L.4.2⟩,L.5,L.6,R,L.8,
  λj hj=>⟨λz=>(bN (L.1.2 j hj)).1 (by rw[z];exact hq),λz=>(bN (L.1.2 j hj)).2 (by rw[z];exact hq)⟩,L.10,L.11,L.12,L.13,L.14,L.15⟩
 rintro a c (rfl|⟨j,hj,rfl|rfl⟩) h;·exact keep _ _ a4.1 h
 ·exact keep _ _ (a4.2 j hj).1 h
 ·exact keep _ _ (a4.2 j hj).2 h
theorem ki(M:aj H A B)(p:Int):0<=p%2^B.pb/\p%2^B.pb<2^B.pb:=by have z:=dh (m:=B.pb) M.7;exact⟨Nv _ (λzz=>fb K7 [_] [] zz z),Ni _ z.1⟩
theorem nD(G:Good Z Kg)(hn:8<=n)(L:PR H J A B r o y wi rb rp q tx x l v)(M:aj H A B){len:Int}(d0:1<=d)(d1:d<=v.pl)(l0:2<=len)(l1:len<=273)(F:ay o x (ct 10 (8*(v.pl%2^B.pb)) len++bP d len)):ac Z n (.ref 524) [.ref y,.ref r] J (λu J'=>bM λt q'=>u=.ref t/\J' t=Mc (.tup [.str "match" 0,.int d 0,.int len 0])/\PR H J' A B r o y wi rb rp q' tx (ak o x (ct 10 (8*(v.pl%2^B.pb)) len++bP d len)) l ⟨v.pl,bG v.st,d::v.back.take 3⟩):=by have h1:=L.2;have hs:=L.15;have hf:=L.14;have hp:=L.12;have Mm:=L.1.1 _ _ M.1;obtain z5:=ki M v.pl;obtain z4:=aY.mp F;rw[bw];refine run G (lq hn rfl) ?_;have Mp:=L.1.1 _ _ M.2;lk;refine((cI (n:=n-1) G (lp hn rfl) L.1.1 M (ao 0x843080007b2200e981008c080b [_,_] [] d0 d1))).k01 ?_;lk;refine(dB (n:=n-1) G (lp hn rfl) L.RH M.7 ((M.Wq (L.1.1.Xw _)).aax) z5.1 z5.2 l0 l1 z4.1).Wr λJ2 R2=>?_;have L2:=L.next R2;clear h1 Mm Mp;have h1:=L2.2;have Mm:=L2.1.1 _ _ M.1;lk;refine(eF (n:=n-1) G (lp hn rfl) L2.RH (M.Wq (L2.1.1.Xw _)) d0 (Dx 0x42684708a10c20003f80000000091118d788a856a1187ff08262d18203e6080e [_,_,_] [_,_] d1 hs hf hp vK) l0 z4.2).Wr λJ3 R3=>?_;have L3:=L2.next R3;clear h1 Mm;have h1:=L3.2;lk;refine((b8 (n:=n-1) G (lp hn rfl))).k01 ?_;have z:=(bT (x:=v.st)).1;lk;refine aK (λh=>by lia) (λa=>?_);have L4:=L3.set z.1 z.2 rfl;clear h1;have h1:=L4.2;have h2:=L4.7.1;lk;refine((cC (n:=n-1) G (lp hn rfl) L4 d1)).k01 ?_;lk;refine(l5 (n:=n-1) G (lp hn rfl) L4.1.1 L4.7 L4.8).Wr λJ5 r1=>?_;refine ae r1.2 λq' z3=>?_;have L5:=L4.Zg z3.1 z3.2.1 z3.2.2;lk;intro t ht;lk;exact⟨t,q',rfl,aa _ _ _,L5.sup (Wt ht _)⟩
theorem rt(G:Good Z Kg)(hn:8<=n)(L:PR H J A B r o y wi rb rp q tx x l v)(M:aj H A B)(F:ay o x (ct 10 (8*(v.pl%2^B.pb)) 2++bP (2^32) 2)):ac Z n (.ref 524) [.ref y,.ref r] J (λu J'=>∃t,u=.ref t/\J' t=Mc (.tup [.str "end" 0])/\PR H J' A B r o y wi rb rp q tx (ak o x (ct 10 (8*(v.pl%2^B.pb)) 2++bP (2^32) 2)) l ⟨v.pl,bG v.st,v.back⟩):=by have h1:=L.2;have hs:=L.15;have hf:=L.14;have hp:=L.12;have Mm:=L.1.1 _ _ M.1;obtain z2:=ki M v.pl;obtain z1:=aY.mp F;rw[bw];refine run G (lq hn rfl) ?_;have Mp:=L.1.1 _ _ M.2;lk;refine((cI (n:=n-1) G (lp hn rfl) L.1.1 M (af KM [_] [_] hp))).k01 ?_;lk;refine(dB (n:=n-1) G (lp hn rfl) L.RH M.7 ((M.Wq (L.1.1.Xw _)).aax) z2.1 z2.2 (by decide) (by decide) z1.1).Wr λJ2 R2=>?_;have L2:=L.next R2;clear h1 Mm Mp;have h1:=L2.2;have Mm:=L2.1.1 _ _ M.1;lk;refine(eF (n:=n-1) G (lp hn rfl) L2.RH (M.Wq (L2.1.1.Xw _)) (by decide) (by decide) (by decide) z1.2).Wr λJ3 R3=>?_;have L3:=L2.next R3;clear h1 Mm;have h1:=L3.2;lk;refine((b8 (n:=n-1) G (lp hn rfl))).k01 ?_;have z:=(bT (x:=v.st)).1;lk;refine aK (λa=>?_) (λh=>absurd rfl h);have L4:=L3.set z.1 z.2 rfl;lk;intro t ht;lk;exact⟨t,rfl,aa _ _ _,L4.sup (Wt ht _)⟩
noncomputable def eV(v:LS)(i:Nat):List Ev:=if i=1 then[.bit 3 v.st 0] else[.bit 3 v.st 1,.bit 4 v.st (i-2)]
theorem pX(G:Good Z Kg)(hn:5<=n)(L:PR H J A B r o y wi rb rp q tx x l v)(M:aj H A B)(i0:1<=i)(i1:i<=3)(F:ay o x (eV v i)):ac Z n (.ref 531) [.ref y,.ref r] J (λu J'=>u=.int i 0/\PR H J' A B r o y wi rb rp q tx (ak o x (eV v i)) l v):=by
 have h1:=L.2;have Rr:=L.1.3.1;have Mm:=L.1.1 _ _ M.1;have s1:=L.11;refine run G (lq hn rfl) ?_;unfold eV at F ⊢;lk;by_cases hi:i=1;·subst hi;rw[if_pos rfl] at F ⊢;refine(bq (n:=n-1) G (lp hn rfl) L.RH (Mr _ _) L.10 (by rw[M.n3];exact ill s1 rfl) F.1).Wr λJ2 R2=>?_;lk;refine aK (λa=>?_) (λh=>absurd rfl h);lk;exact⟨rfl,L.next R2⟩
 ·rw[if_neg hi] at F ⊢;refine(bq (n:=n-1) G (lp hn rfl) L.RH (Mr _ _) L.10 (by rw[M.n3];exact ill s1 rfl) F.1).Wr λJ2 R2=>?_;have L2:=L.next R2;clear h1 Rr Mm;have h1:=L2.2;have Rr:=L2.1.3.1;have Mm:=L2.1.1 _ _ M.1;lk;refine aK (λh=>by cases h) (λa=>?_);lk;refine(bq (n:=n-1) G (lp hn rfl) L2.RH (Mr _ _) L.10 (by rw[M.n4];exact ill s1 rfl) F.2.1).Wr λJ3 R3=>?_;lk;exact⟨by rw[show(2:Int)+((i:Int)-2)=i from ck 0x100de1716c0570a2f [] [_]],L2.next R3⟩
theorem pS(v:LS)(i:Nat):eV v i=if(i:Int)=1 then[.bit 3 v.st 0] else[.bit 3 v.st 1,.bit 4 v.st (i-2)]:=by
 unfold eV;by_cases h:i=1;·rw[if_pos h,if_pos (by exact af 0x4210013840002710543e2e2a12 [] [_] h)]
 ·rw[if_neg h,if_neg (by lia)]
theorem qt(G:Good Z Kg)(hn:8<=n)(L:PR H J A B r o y wi rb rp q tx x l v)(M:aj H A B){len:Int}(hi:i<=3)(d1:v.back.getD i 0<=v.pl)(l0:2<=len)(l1:len<=273)(F:ay o x (B.Xf v.st v.pl i++ct 14 (8*(v.pl%2^B.pb)) len)):ac Z n (.ref 538) [.ref y,.ref r] J (λu J'=>bM λt q'=>u=.ref t/\J' t=Mc (.tup [.str "rep" 0,.int i 0,.int len 0])/\PR H J' A B r o y wi rb rp q' tx (ak o x (B.Xf v.st v.pl i++ct 14 (8*(v.pl%2^B.pb)) len)) l ⟨v.pl,gn v.st,fT v.back i⟩):=by
 have h1:=L.2;have hs:=L.15;have hf:=L.14;have hp:=L.12;have s1:=L.11;have Rr:=L.1.3.1;have Mm:=L.1.1 _ _ M.1;obtain z5:=ki M v.pl;obtain z4:=bH M (place:=v.pl) L.10 L.11;obtain z3:=aY.mp F;have F1:=z3.1;rw[bw];refine run G (lq hn rfl) (Fo Mh 0 (?_:X _ _ _ _ _ _ _ _));refine aB (eQ (kH (wu (λρ' J'=>ρ'=[(JL,.ref y),(JV,.ref r),(JM,.int i 0)]/\PR H J' A B r o y wi rb rp q tx (ak o x (B.Xf v.st v.pl i)) l v) ?_ ?_)))
 ·intro Q' hQ _ _ _;unfold MA.Xf at F1 hQ;lk;by_cases h:i=0;·subst h;rw[if_pos (by rfl)] at F1 hQ;refine(bq (n:=n-1) G (lp hn rfl) L.RH (Mr _ _) L.10 (by rw[M.n2];exact ill s1 rfl) F1.1).Wr λJ2 R2=>?_;have L2:=L.next R2;clear h1 Rr Mm;have h1:=L2.2;have Rr:=L2.1.3.1;have Mm:=L2.1.1 _ _ M.1;refine aB (aK (λh=>by cases h) (λa=>?_));lk;refine((c4 (n:=n-1) G (lp hn rfl) L2.1.1 M (af KM [_] [_] hp))).k01 ?_;lk;refine(bq (n:=n-1) G (lp hn rfl) L2.RH (Mr _ _) z4.1 (by rw[M.n5];exact z4.2) F1.2.1).Wr λJ3 R3=>?_;refine aB (aK (λh=>by cases h) (λa=>?_));lk;exact hQ ⟨_,⟨rfl,L2.next R3⟩,rfl⟩
  ·rw[if_neg (by lia),<-pS] at F1 hQ;refine(bq (n:=n-1) G (lp hn rfl) L.RH (Mr _ _) L.10 (by rw[M.n2];exact ill s1 rfl) F1.1).Wr λJ2 R2=>?_;have L2:=L.next R2;clear h1 Rr Mm;have h1:=L2.2;refine aB (aK (λa=>?_) (λh=>absurd rfl h));lk;refine(pX (n:=n-1) G (lp hn rfl) L2 M (by lia) hi F1.2).Wr λJ3 L3=>?_;lk;exact hQ ⟨_,⟨rfl,L3⟩,rfl⟩
 ·intro ρ' J1 r1;rw[r1.1];generalize ak o x (B.Xf v.st v.pl i)=x1 at*;clear h1 Rr Mm;have h1:=r1.2.2;have h2:=r1.2.7.1;lk;refine(mI (n:=n-1) G (lp hn rfl) hi r1.2.1.1 r1.2.7 r1.2.8).Wr λJ2 r2=>?_;refine ae r2.2 λq' z2=>?_;have L2:=r1.2.Zg z2.1 z2.2.1 z2.2.2;lk;refine((cC (n:=n-1) G (lp hn rfl) L2 d1)).k01 ?_;clear h1 h2;have h1:=L2.2;have Mm:=L2.1.1 _ _ M.1;have Mp:=L2.1.1 _ _ M.2;lk;refine((cI (n:=n-1) (place:=v.pl) G (lp hn rfl) L2.1.1 M (af KM [_] [_] hp))).k01 ?_;lk;refine(dB (n:=n-1) G (lp hn rfl) L2.RH M.7 ((M.Wq (L2.1.1.Xw _)).aa6) z5.1 z5.2 l0 l1 z3.2).Wr λJ3 R3=>?_;have L3:=L2.next R3;clear h1 Mm Mp;have h1:=L3.2;lk;refine((jk (n:=n-1) G (lp hn rfl))).k01 ?_;have z:=(bT (x:=v.st)).2.1;lk;intro t ht;lk;exact⟨t,q',rfl,aa _ _ _,(L3.set z.1 z.2 rfl).sup (Wt ht _)⟩
theorem m9(G:Good Z Kg)(hn:8<=n)(L:PR H J A B r o y wi rb rp q tx x l v)(M:aj H A B)(d1:v.back.getD 0 0<=v.pl)(F:ay o x [.bit 2 v.st 0,.bit 5 (B.cell v.st v.pl) 0]):ac Z n (.ref 538) [.ref y,.ref r] J (λu J'=>∃t,u=.ref t/\J' t=Mc (.tup [.str "short" 0])/\PR H J' A B r o y wi rb rp q tx (ak o x [.bit 2 v.st 0,.bit 5 (B.cell v.st v.pl) 0]) l ⟨v.pl,cJ v.st,v.back⟩):=by have h1:=L.2;have hp:=L.12;have s1:=L.11;have Rr:=L.1.3.1;have Mm:=L.1.1 _ _ M.1;obtain z1:=bH M (place:=v.pl) L.10 L.11;refine run G (lq hn rfl) ?_;lk;refine(bq (n:=n-1) G (lp hn rfl) L.RH (Mr _ _) L.10 (by rw[M.n2];exact ill s1 rfl) F.1).Wr λJ2 R2=>?_;have L2:=L.next R2;clear h1 Rr Mm;have h1:=L2.2;have Rr:=L2.1.3.1;have Mm:=L2.1.1 _ _ M.1;refine aB (aK (λh=>by cases h) (λa=>?_));lk;refine((c4 (n:=n-1) G (lp hn rfl) L2.1.1 M (af KM [_] [_] hp))).k01 ?_;lk;refine(bq (n:=n-1) G (lp hn rfl) L2.RH (Mr _ _) z1.1 (by rw[M.n5];exact z1.2) F.2.1).Wr λJ3 R3=>?_;have L3:=L2.next R3;clear h1 Rr Mm;have h1:=L3.2;have h2:=L3.7.1;refine aB (aK (λa=>?_) (λh=>absurd rfl h));lk;refine((br (n:=n-1) G (lp hn rfl) L3.7)).k01 ?_;lk;refine((cC (n:=n-1) G (lp hn rfl) L3 d1)).k01 ?_;lk;refine((gk (n:=n-1) G (lp hn rfl))).k01 ?_;have z:=(bT (x:=v.st)).2.2;lk;intro t ht;lk;exact⟨t,rfl,aa _ _ _,(L3.set z.1 z.2 rfl).sup (Wt ht _)⟩
noncomputable def bd(v:LS):Option aH->LS
 |none=>⟨v.pl,bG v.st,v.back⟩
 |some p=>p.next v
noncomputable def gV(B:MA)(tx:Array UInt8)(v:LS):Option aH->List Ev
 |none=>B.WV v.st v.pl (2^32) 2
 |some p=>p.evs B tx v
noncomputable def io(tx:Array UInt8)(v:LS):Option aH->List Md
 |none=>[.str "end" 0]
 |some .lit=>[.str "lit" 0,.int (au tx v.pl) 0]
 |some p=>p.vals
noncomputable def rZ:Option aH->Int
 |none=>0
 |some p=>p.len
noncomputable def iS(tx:Array UInt8)(v:LS):Option aH->Prop
 |none=>True
 |some p=>p.X8 tx v
theorem sU(B:MA)(tx:Array UInt8)(v:LS):aH.lit.evs B tx v=.bit 0 (B.cell v.st v.pl) 0::hW B tx v (au tx v.pl):=by
 show B.Xo _ _ _ _ _=_;unfold MA.Xo hW;by_cases h:v.st<7;·rw[if_pos h,if_pos h]
 ·rw[if_neg h,if_neg h,if_neg h]
theorem o7(G:Good Z Kg)(hn:9<=n)(L:PR H J A B r o y wi rb rp q tx x l v)(M:aj H A B)(p:Option aH)(V:iS tx v p)(F:ay o x (gV B tx v p)):ac Z n (.ref 545) [.ref y,.ref r] J (λu J'=>bM λt q'=>u=.ref t/\J' t=Mc (.tup (io tx v p))/\PR H J' A B r o y wi rb rp q' tx (ak o x (gV B tx v p)) l ⟨v.pl,(bd v p).st,(bd v p).back⟩):=by
 have h1:=L.2;have hp:=L.12;have s1:=L.11;have Rr:=L.1.3.1;have Mm:=L.1.1 _ _ M.1;obtain z2:=bH M (place:=v.pl) L.10 L.11;refine run G (lq hn rfl) ?_;lk;refine((c4 (n:=n-1) G (lp hn rfl) L.1.1 M (af KM [_] [_] hp))).k01 ?_;lk;have first:∀{b:Int}{evs:List Ev}{P:Md->Sg->Prop},ay o x (.bit 0 (B.cell v.st v.pl) b::evs)->(∀J2,PR H J2 A B r o y wi rb rp q tx (gj o x (.bit 0 (B.cell v.st v.pl) b)) l v->P (.int b 0) J2)->
   ac Z (n-1) (.ref 987) [.ref r,.ref (A.ra 0),.int (B.cell v.st v.pl) 0] J P:=by
  intro b evs P F h
  refine(bq (n:=n-1) G (lp hn rfl) L.RH (Mr _ _) z2.1 (by rw[M.n0];exact z2.2) F.1).Wr λJ2 R2=>?_
  exact h J2 (L.next R2)
 have second:∀{J:Sg}{x:RT}{b:Int}{evs:List Ev}{P:Md->Sg->Prop},PR H J A B r o y wi rb rp q tx x l v->ay o x (.bit 1 v.st b::evs)->(∀J2,PR H J2 A B r o y wi rb rp q tx (gj o x (.bit 1 v.st b)) l v->P (.int b 0) J2)->
   ac Z (n-1) (.ref 987) [.ref r,.ref (A.ra 1),.int v.st 0] J P:=by
  intro J x b evs P L F h
  refine(bq (n:=n-1) G (lp hn rfl) L.RH (Mr _ _) L.10 (by rw[M.n1];exact ill s1 rfl) F.1).Wr λJ2 R2=>?_
  exact h J2 (L.next R2)
 by_cases hl:p=Mc .lit
 ·subst hl;rw[show gV B tx v (Mc .lit)=.bit 0 (B.cell v.st v.pl) 0::hW B tx v (au tx v.pl) from sU B tx v] at F ⊢;refine first F λJ2 L2=>?_
  clear h1 Rr Mm;have h1:=L2.2;refine aB (aK (λa=>?_) (λh=>absurd rfl h));have z:=aJ tx v.pl;lk;refine(k7 (n:=n-1) G (lp hn rfl) L2 M z.1 (af K8 [_] [] z) (V.5 rfl) F.2).aaz λJ3 t ht L3=>?_;lk;exact⟨t,q,rfl,ht,L3⟩
 ·obtain⟨evs,he⟩:∃evs,gV B tx v p=.bit 0 (B.cell v.st v.pl) 1::evs:=by
   induction p with
   |none=>exact⟨_,rfl⟩
   |some p=>induction p with
    |lit=>exact absurd rfl hl
    |mat d sz=>exact⟨_,rfl⟩
    |rep i sz=>exact⟨_,rfl⟩
    |short=>exact⟨_,rfl⟩
  refine first (by rw[he] at F;exact F) λJ2 L2=>?_
  clear h1 Rr Mm;have h1:=L2.2;have Rr:=L2.1.3.1;have Mm:=L2.1.1 _ _ M.1;refine aB (aK (λh=>by cases h) (λa=>?_));lk;induction p with
  |none=>
   have E:∃evs,evs=ct 10 (8*(v.pl%2^B.pb)) 2++bP (2^32) 2:=⟨_,rfl⟩;refine ae E λevs E=>?_;have he:gV B tx v Mq=.bit 0 (B.cell v.st v.pl) 1::.bit 1 v.st 0::evs:=by rw[E];rfl
   rw[he] at F ⊢;refine second L2 F.2 λJ3 L3=>?_;clear h1 Rr Mm;have h1:=L3.2;refine aB (aK (λa=>?_) (λh=>absurd rfl h));lk;refine(rt (n:=n-1) G (lp hn rfl) L3 M (by rw[<-E];exact F.2.2)).Wq (MC _) ?_;rw[<-E];intro _ J4 r1;refine ae r1 λt z1=>?_;rw[z1.1];lk;exact⟨t,q,rfl,z1.2.1,z1.2.2⟩
  |some p=>induction p with
   |lit=>exact absurd rfl hl
   |mat d sz=>
    have V1:=V.3 d sz rfl;have V2:1<=d/\d<=v.pl:=V.6 nofun
    refine second L2 F.2 λJ3 L3=>?_;clear h1 Rr Mm;have h1:=L3.2;refine aB (aK (λa=>?_) (λh=>absurd rfl h));lk;refine(nD (n:=n-1) G (lp hn rfl) L3 M V2.1 V2.2 V1.1 V1.2 F.2.2).aaI λJ4 t q' ht L4=>?_;lk;exact⟨t,q',rfl,ht,L4⟩
   |rep i sz=>
    have V1:=V.4 i sz rfl;have V2:1<=v.back.getD i 0/\v.back.getD i 0<=v.pl:=V.6 nofun
    refine second L2 F.2 λJ3 L3=>?_;clear h1 Rr Mm;have h1:=L3.2;refine aB (aK (λh=>by cases h) (λa=>?_));lk;refine(qt (n:=n-1) G (lp hn rfl) L3 M V1.1 V2.2 V1.2.1 V1.2.2 F.2.2).aaI λJ4 t q' ht L4=>?_;lk;exact⟨t,q',rfl,ht,L4⟩
   |short=>
    have V2:1<=v.back.getD 0 0/\v.back.getD 0 0<=v.pl:=V.6 nofun
    refine second L2 F.2 λJ3 L3=>?_;clear h1 Rr Mm;have h1:=L3.2;refine aB (aK (λh=>by cases h) (λa=>?_));lk;refine(m9 (n:=n-1) G (lp hn rfl) L3 M V2.2 F.2.2).aaz λJ4 t ht L4=>?_;lk;exact⟨t,q,rfl,ht,L4⟩
theorem bW(o:Array UInt8)(i:Nat):au o i=((o.toList.getD i 0).toNat:Int):=by unfold au;rw[MN,P7,Mw,<-Ol]
theorem zG{a b:UInt8}(h:((a.toNat:Nat):Int)=b.toNat):a=b:=UInt8.toNat_inj.mp (af 0x2108009c200013af7150ad4150f [] [_,_] h)
theorem Yv(h:i<l.length):l.take (i+1)=l.take i++[l.getD i 0]:=by rw[Vz,MG h,Mw,MG h];rfl
theorem qh{t:List UInt8}{d:Nat}:∀(c k:Nat),k+c<=t.length->1<=d->d<=k->(∀j,j<c->t.getD (k+j) 0=t.getD (k+j-d) 0)->bf (t.take k) d c=(t.drop k).take c
 |0,k,_,_,_,_=>by rw[List.take_zero];rfl
 |c+1,k,hk,d0,d1,h=>by
  have hl:(t.take k).length=k:=by rw[OI];lia
  have h0:=h 0 (Mr _ _);have e:(t.take k).getD ((t.take k).length-d) 0=t.getD k 0:=by rw[hl];rw[VA] at h0;rw[h0,Mw,QK,if_pos (by exact ao K0 [] [_,_,_] d0 (Me d1)),Mw]
  rw[iT,e,<-Yv (by exact af LB [] [_,_,_] hk),qh c (k+1) (af 0x420001394508e09b8caa55104cf6e32a [] [_,_,_] hk) d0 (Nj d1 (Of _ _)) λj hj=>by have:=h (j+1) (Nat.lt_succ_of_le hj);rw[show k+1+j=k+(j+1) by exact ck 0x40314238275104cf6e541 [] [_,_]];exact this];rw[Og (show k<t.length by exact af LB [] [_,_,_] hk),R7,Mw,MG (show k<t.length by exact af LB [] [_,_,_] hk)];rfl
variable{t:Mk}
theorem pu(G:Good Z Kg)(hn:0<n)(ht:J t=Mc (.tup (io tx v (Mc p)))):ac Z n (.ref 446) [.ref t] J (λu J'=>u=.int p.len 0/\J=J'):=by
 refine run G hn ?_;lk;induction p with
 |mat d sz=>refine am ht (by decide) (by decide) rfl ?_;refine cu (r:=Mh) (r':=Mh) ?_ (by decide) rfl;lk;refine am ht (by decide) (by decide) rfl ?_;lk;exact⟨rfl,rfl⟩
 |rep i sz=>refine am ht (by decide) (by decide) rfl ?_;refine cu (r:=Mh) (r':=Mh) ?_ (by decide) rfl;lk;refine am ht (by decide) (by decide) rfl ?_;lk;exact⟨rfl,rfl⟩
 |lit=>refine am ht (by decide) (by decide) rfl ?_;refine cu (r:=Mg) (r':=Mg) ?_ (by decide) rfl;lk;refine am ht (by decide) (by decide) rfl ?_;refine aB (aO (r:=Mg) ?_ (by decide));lk;exact⟨rfl,rfl⟩
 |short=>refine am ht (by decide) (by decide) rfl ?_;refine cu (r:=Mg) (r':=Mg) ?_ (by decide) rfl;lk;refine am ht (by decide) (by decide) rfl ?_;refine aB (aO (r:=Mg) ?_ (by decide));lk;exact⟨rfl,rfl⟩
theorem PR.aaZ(L:PR H J A B r o y wi rb rp q tx x l v){J2:Sg}{l2:List UInt8}{pl2:Int}(keep:∀a c,a≠y->a≠wi->a≠rb->J a=Mc c->J2 a=Mc c)(yo:J2 y=Mc (.Wu 576 [(Js,.ref B.m),(Jx,.ref wi),(Jt,.none),(Ju,.int pl2 0),(Jw,.int v.st 0),(Jv,.ref rp),(Jr,.bool Mg)]))(W:vp J2 wi rb l2)(e:pl2=l2.length)(tk:l2=tx.toList.take l2.length)(fit:l2.length<=tx.size):PR H J2 A B r o y wi rb rp q tx x l2 ⟨pl2,v.st,v.back⟩:=by
 have hy:=L.hyp;refine⟨L.1.ch (λa c h=>keep a c (yx h L.3) (yx h L.5) (yx h L.6) (L.1.1 a c h)) ?_,yo,L.3,W,L.5,L.6,⟨keep _ _ (ub L.7.1 L.2 (by decide)) (ub L.7.1 L.4.1 (by decide)) (mf L.7.1 L.4.2 rfl) L.7.1,keep _ _ (mf L.7.2 L.2 rfl) (mf L.7.2 L.4.1 rfl) (mf L.7.2 L.4.2 rfl) L.7.2,L.7.3⟩,L.8,L.9,L.10,L.11,e,tk,fit,L.15⟩
 ·rintro a c (rfl|⟨j,hj,rfl|rfl⟩) h;·exact keep _ _ (λz=>hy.1 (.inl z)) (λz=>hy.1 (.inr (.inl z))) (λz=>hy.1 (.inr (.inr (.inl z)))) h
  ·have:=(hy.2 j hj).1;exact keep _ _ (λz=>this (.inl z)) (λz=>this (.inr (.inl z))) (λz=>this (.inr (.inr (.inl z)))) h
  ·have:=(hy.2 j hj).2;exact keep _ _ (λz=>this (.inl z)) (λz=>this (.inr (.inl z))) (λz=>this (.inr (.inr (.inl z)))) h
theorem rY(hl:p≠.lit):(bd v (Mc p)).back.getD 0 0=p.Zd v:=by
 induction p with
 |lit=>exact absurd rfl hl
 |mat d sz=>rfl
 |rep i sz=>rfl
 |short=>rfl
theorem By(V:iS tx v (Mc p)):0<=p.len:=
 match p,V with
 |.lit,_=>by decide
 |.short,_=>by decide
 |.mat d sz,V=>by have:=V.3 d sz rfl;show 0<=sz;exact af 0x84000271110460283f974080b [_] [] this
 |.rep i sz,V=>by have:=V.4 i sz rfl;show 0<=sz;exact af 0x1084004e22208c0507fc41343a3c080b [_] [_] this
theorem zE(p:aH):bM λw ws=>io tx v (Mc p)=.str w 0::ws/\M0 (w="end")=false:=by cases p<;>exact⟨_,_,rfl,by decide⟩
theorem Ad(h:p≠.lit):bM λw ws=>io tx v (Mc p)=.str w 0::ws/\M0 (w="lit")=false:=by
 cases p with
 |lit=>exact absurd rfl h
 |_=>exact⟨_,_,rfl,by decide⟩
theorem zS(G:Good Z Kg)(hn:6<=n){p:Option aH}(L:PR H J A B r o y wi rb rp q tx x l ⟨v.pl,(bd v p).st,(bd v p).back⟩)(Ht:H t=Mc (.tup (io tx v p)))(V:iS tx v p):ac Z n (.ref 552) [.ref y,.ref t] J (λu J'=>u=.bytes ((tx.toList.drop l.length).take (rZ p).toNat).toArray 0/\PR H J' A B r o y wi rb rp q tx x (tx.toList.take (l.length+(rZ p).toNat)) (bd v p)):=by
 have ht:=L.1.1 _ _ Ht;have hp:v.pl=l.length:=L.12;have hs:=L.15;have hf:=L.14;have tl:tx.toList.length=tx.size:=NB;have h1:=L.2;refine run G (lq hn rfl) ?_;lk;induction p with
 |none=>refine am ht (by decide) (by decide) rfl ?_;refine aB (aO (r:=Mh) ?_ (by decide));lk;refine⟨rfl,?_⟩;show PR H J A B r o y wi rb rp q tx x (tx.toList.take l.length) (bd v Mq);rw[<-L.13];exact L
 |some p=>
  have fit:=V.2;have len0:=By V;refine ae (MW len0) λc hc=>?_;have ec:(rZ (Mc p)).toNat=c:=by show p.len.toNat=c;rw[hc];exact MN c
  rw[ec];refine bI (zE (tx:=tx) (v:=v) p) λw ws z2=>?_;refine am ht (by decide) (by decide) (by rw[z2.1];rfl) ?_;refine aB (aO (r:=Mg) ?_ z2.2);lk;refine((pu (n:=n-1) G (lp hn rfl) ht)).k01 ?_;lk;refine((rL (n:=n-1) G (lp hn rfl) L)).k01 ?_;lk;have ht1:∀c,(upd J y c) t=Mc (.tup (io tx v (Mc p))):=λc=>(ag _ _ (mf ht h1 rfl)).trans ht;have nwy:=ub L.4.1 h1 (by decide);have nby:=mf L.4.2 h1 rfl;have W1:∀c,vp (upd J y c) wi rb l:=λc=>⟨(ag _ _ nwy).trans L.4.1,(ag _ _ nby).trans L.4.2⟩;by_cases hl:p=.lit
  ·subst hl;obtain rfl:c=1:=by have:(1:Int)=c:=hc;exact af 0x4200013842002778110944150f [] [_] this
   refine am (ht1 _) (by decide) (by decide) rfl ?_;refine aB (aO (r:=Mh) ?_ (by decide));have w1:=(W1 (.Wu 576 [(Js,.ref B.m),(Jx,.ref wi),(Jt,.none),(Ju,.int (v.pl+aH.lit.len) 0),(Jw,.int (bd v (Mc .lit)).st 0),(Jv,.ref rp),(Jr,.bool Mg)])).1;lk;refine am (ht1 _) (by decide) (by decide) rfl ?_;lk;have z:=aJ tx v.pl;refine(tK (n:=n-1) G (lp hn rfl) ((L.1.1.upd L.3 _).WT λa=>a≠wi/\a≠rb) (W1 _) (ai (λz=>z.1 rfl) L.5) (ai (λz=>z.2 rfl) L.6) (iK 0x42584708a10801a479110a57982ce03dfc28463178283ffc41416 [_,_] [_,_] hp hs fit hc) z.1 (af K8 [_] [] z)).XW λJ2 S2 W2=>?_;have ht2:=S2.at (a:=t) ⟨mf ht L.4.1 rfl,mf ht L.4.2 rfl⟩ (ht1 _);lk;refine am ht2 (by decide) (by decide) rfl ?_;lk;intro m hm;have ol:YV [.int (au tx v.pl) 0] [Pz (au tx v.pl).toNat]:=mh ⟨z.1,af K8 [_] [] z⟩;refine lD ?_ (aa _ _ _) ol (by simp);lk;have hlt:l.length<tx.toList.length:=by have:v.pl+1<=tx.size:=fit;exact iK 0x42684908e10801a479110a4bcc16701f950944af0507d4140f [_,_] [_,_,_] hp tl fit hc
   have eu:Pz (au tx v.pl).toNat=tx.toList.getD l.length 0:=by rw[hp,bW,qu]
   refine⟨?_,?_⟩;·rw[eu,Og hlt,R7,List.take_zero,Mw,MG hlt];rfl
   ·have el:l++[u8 (au tx v.pl)]=tx.toList.take (l.length+1):=by rw[Yv hlt,<-L.13];unfold u8;rw[eu]
    have ll:(tx.toList.take (l.length+1)).length=l.length+1:=by rw[OI];lia
    refine(L.aaZ (J2:=J2) (l2:=tx.toList.take (l.length+1)) (pl2:=v.pl+1) (λa d a1 a2 a3 e=>S2.at ⟨a2,a3⟩ ((ag _ _ a1).trans e)) (S2.at ⟨nwy.symm,nby.symm⟩ (aa _ _ _)) (by rw[<-el];exact W2) (by rw[ll];exact af 0x2108009c200013bc141f104fc4167229 [_] [_] hp) (by rw[ll]) (by rw[ll];exact aS 0x21242284200531e444295e60b380f5e0a0fa88267b1c [_,_] [_,_] hp fit hc)).sup (Wt hm _)
  ·refine bI (Ad (tx:=tx) (v:=v) hl) λw ws z1=>?_;refine am (ht1 _) (by decide) (by decide) (by rw[z1.1];rfl) ?_;refine aB (aO (r:=Mg) ?_ z1.2);have w1:=(W1 (.Wu 576 [(Js,.ref B.m),(Jx,.ref wi),(Jt,.none),(Ju,.int (v.pl+p.len) 0),(Jw,.int (bd v (Mc p)).st 0),(Jv,.ref rp),(Jr,.bool Mg)])).1;have nry:=ub L.7.1 h1 (by decide);have r1:∀c,eE (upd J y c) rp q (bd v (Mc p)).back:=λc=>⟨(ag _ _ nry).trans L.7.1,(ag _ _ (mf L.7.2 h1 rfl)).trans L.7.2,L.7.3⟩;have r2:=(r1 (.Wu 576 [(Js,.ref B.m),(Jx,.ref wi),(Jt,.none),(Ju,.int (v.pl+p.len) 0),(Jw,.int (bd v (Mc p)).st 0),(Jv,.ref rp),(Jr,.bool Mg)])).1;lk;refine((br (n:=n-1) G (lp hn rfl) (r1 _))).k01 ?_;lk;rw[rY hl,hc];have far:=V.6 hl;have same:=V.7 hl;refine ae (MW (show 0<=p.Zd v by have:=far.1;exact r9 this rfl)) λd hd=>?_;rw[hd] at far same ⊢;have f1:=far.1;have f2:=far.2;have ew:bf l d c=(tx.toList.drop l.length).take c:=by
    have e:=qh (t:=tx.toList) (d:=d) c l.length (iK 0x21342484708400d2bc888535e60b380fea42d13bc141f2a8267b1d [_,_] [_,_,_,_] hp tl fit hc) (af 0x8400027b8a2f0204b9550230f [_] [_] far) (ao 0x847080007b7145e040972aaf0508d4130f [_] [_,_] hp far) λj hj=>by have:=same j (ao 0x108a10800f54140faf0508ee290f [_] [_,_] hc hj);rw[hp,show((l.length:Int)+(j:Int))=((l.length+j:Nat):Int) from rfl,show((l.length+j:Nat):Int)-(d:Int)=((l.length+j-d:Nat):Int) from af 0x1080004e108009d413968569d2bd797a827d2b1a34 [] [_,_,_,_] (Me (ao 0x2194228400053b8a03ebc14232a11c131d [_] [_,_,_] hp f2)),bW,bW] at this;exact zG this
    rw[<-L.13] at e;exact e
   refine(Af (n:=n-1) G (lp hn rfl) ((L.1.1.upd L.3 _).WT λa=>a≠wi/\a≠rb) (W1 _) (ai (λz=>z.1 rfl) L.5) (ai (λz=>z.2 rfl) L.6) (d:=d) (c:=c) (af 0x8400027b8a2f0204b9550230f [_] [_] far) (ao 0x847080007b7145e040972aaf0508d4130f [_] [_,_] hp far) (iK 0x42584708a10801a579110a4bcc16701ffe12158cde0a0f800a8267c24 [_,_] [_,_,_] hp hs fit hc)).XW λJ2 S2 W2=>?_;lk;refine⟨by rw[ew],?_⟩;have el:l++bf l d c=tx.toList.take (l.length+c):=by rw[ew,List.take_add,<-L.13]
   have ll:(tx.toList.take (l.length+c)).length=l.length+c:=by rw[OI];lia
   have:=L.aaZ (J2:=J2) (l2:=tx.toList.take (l.length+c)) (pl2:=v.pl+p.len) (λa d a1 a2 a3 e=>S2.at ⟨a2,a3⟩ ((ag _ _ a1).trans e)) (S2.at ⟨nwy.symm,nby.symm⟩ (by rw[hc];exact aa _ _ _)) (by rw[<-el];exact W2) (by rw[ll];exact ao 0x847084007a11420001eaf22214bc141f504fcc167229 [_,_] [_,_] hp hc) (by rw[ll]) (by rw[ll];exact aS 0x84908a108014d79110a4bcc16701fbc141f2a8267b1d [_,_] [_,_,_] hp fit hc);have en:bd v (Mc p)=⟨v.pl+p.len,(bd v (Mc p)).st,(bd v (Mc p)).back⟩:=by show p.next v=_;rw[<-gZ];rfl
   rw[en];exact this
noncomputable def bL(H:Sg)(sa:Mk)(ds:List (List Md)):Prop:=∃as:List Mk,H sa=Mc (.list (as.map MJ))/\as.length=ds.length/\∀(j:Nat)(d:List Md),ds[j]?=Mc d->∃a,as[j]?=Mc a/\H a=Mc (.tup d)
noncomputable def bu(tx:Array UInt8):LS->List (Option aH)->List (List Md)
 |_,[]=>[]
 |v,p::r=>io tx v p::bu tx (bd v p) r
noncomputable def aC(B:MA)(tx:Array UInt8):LS->List (Option aH)->List Ev
 |_,[]=>[]
 |v,p::r=>gV B tx v p++aC B tx (bd v p) r
noncomputable def bS:LS->List (Option aH)->LS
 |v,[]=>v
 |v,p::r=>bS (bd v p) r
noncomputable def oR(tx:Array UInt8):LS->List (Option aH)->Prop
 |_,[]=>True
 |v,p::r=>iS tx v p/\oR tx (bd v p) r
theorem jA(tx:Array UInt8):∀(os:List (Option aH))(v:LS),(bu tx v os).length=os.length
 |[],_=>rfl
 |p::r,v=>by show(bu tx _ r).length+1=r.length+1;rw[jA]
variable{p:Option aH}
theorem zg(V:iS tx v p):0<=rZ p:=by
 match p,V with
 |none,_=>exact QL _
 |some .lit,_=>decide
 |some .short,_=>decide
 |some (.mat d sz),V=>have:=V.3 d sz rfl;show 0<=sz;exact af 0x84000271110460283f974080b [_] [] this
 |some (.rep i sz),V=>have:=V.4 i sz rfl;show 0<=sz;exact af 0x1084004e22208c0507fc41343a3c080b [_] [_] this
theorem wP(v:LS)(p:Option aH):(bd v p).pl=v.pl+rZ p:=by
 induction p with
 |none=>show v.pl=v.pl+0;exact ck 0x20182e0a14 [_] []
 |some p=>exact gZ v p
variable{d:Nat}
theorem qQ{v:Md}(h:(∃s,v=.str s 0)∨∃i,v=.int i 0):ey J (d+1) v v:=by
 rcases h with⟨s,rfl⟩|⟨i,rfl⟩;·exact .str
 ·exact .int
theorem jz{α:Type}:∀{xs:List α}{p:α×α},p∈xs.zip xs->p.2=p.1/\p.1∈xs
 |x::xs,p,h=>by
  rw[OH] at h;refine Pj (MS.mp h) (λzz=>?_) (λh=>?_);rw[zz];·exact⟨rfl,MT ..⟩
  ·exact⟨(jz h).1,MU _ (jz h).2⟩
variable{b:Mk}
theorem xB(h1:J a=Mc (.tup xs))(h2:J b=Mc (.tup xs))(h:∀v∈xs,(∃s,v=.str s 0)∨∃i,v=.int i 0):ey J 9 (.ref a) (.ref b):=
 .tup h1 h2 rfl λp hp=>by rw[(jz hp).1];exact qQ (h _ (jz hp).2)
theorem iN{x:Array UInt8}{t u:Nat}:ss J (.bytes x t) (.bytes x u) true:=by have:=ss.bytes (J:=J) (x:=x) (y:=x) (t:=t) (u:=u);rwa [decide_eq_true rfl] at this
theorem sj(tx:Array UInt8)(v:LS)(p:Option aH):∀u∈io tx v p,(∃s,u=.str s 0)∨∃i,u=.int i 0:=by
 intro u hu;induction p with
 |none=>rcases MS.mp hu with rfl|hu;exact .inl ⟨_,rfl⟩;cases hu
 |some p=>induction p with
  |lit=>rcases MS.mp hu with rfl|hu;exact .inl ⟨_,rfl⟩;rcases MS.mp hu with rfl|hu;exact .inr ⟨_,rfl⟩;cases hu
  |mat d sz=>rcases MS.mp hu with rfl|hu;exact .inl ⟨_,rfl⟩;rcases MS.mp hu with rfl|hu;exact .inr ⟨_,rfl⟩;rcases MS.mp hu with rfl|hu;exact .inr ⟨_,rfl⟩;cases hu
  |rep i sz=>rcases MS.mp hu with rfl|hu;exact .inl ⟨_,rfl⟩;rcases MS.mp hu with rfl|hu;exact .inr ⟨_,rfl⟩;rcases MS.mp hu with rfl|hu;exact .inr ⟨_,rfl⟩;cases hu
  |short=>rcases MS.mp hu with rfl|hu;exact .inl ⟨_,rfl⟩;cases hu
variable{da:Mk}
theorem PR.WT(L:PR H J A B r o y wi rb rp q tx x l v)(ht:J t=Mc (.tup xs)):PR (aV H J λa=>a=t) J A B r o y wi rb rp q tx x l v:=by
 have ne:∀{a c},J a=Mc c->c≠.tup xs->¬a=t:=λh hc z=>by rw[z,ht] at h;cases h;exact hc rfl
 refine⟨L.1.held (ne L.1.3.1 nofun) λj hj=>?_,L.2,ai (ne L.2 nofun) L.3,L.4,ai (ne L.4.1 nofun) L.5,ai (ne L.4.2 nofun) L.6,L.7,ai (ne L.7.1 nofun) L.8,L.9,L.10,L.11,L.12,L.13,L.14,L.15⟩;rcases L.1.2 j hj with⟨e,xs',h,_⟩|⟨h,m,h',_⟩
 ·exact⟨ne h nofun,by rw[e];exact ne h nofun⟩
 ·exact⟨ne h nofun,ne h' nofun⟩
theorem PR.abk{q':Mk}{x':RT}{l':List UInt8}{v':LS}(L:PR H J A B r o y wi rb rp q tx x l v)(L':PR (aV H J P) J' A B r o y wi rb rp q' tx x' l' v'):PR H J' A B r o y wi rb rp q' tx x' l' v':=
 ⟨L.1.Zh L'.1,L'.2,L.3,L'.4,L.5,L.6,L'.7,L.8,L'.9,L'.10,L'.11,L'.12,L'.13,L'.14,L'.15⟩
theorem nI(G:Good Z Kg)(hn:4<=n)(HT:Z.kt 361=Mc (bt [1,1,1,1])){m:Mk}:ac Z n (.ref 576) [.ref m,.ref wi] J (λu J'=>oz λy rp q=>u=.ref y/\J y=Mq/\J rp=Mq/\J q=Mq/\Sub J J'/\ J' y=Mc (.Wu 576 [(Js,.ref m),(Jx,.ref wi),(Jt,.none),(Ju,.int 0 0),(Jw,.int 0 0),(Jv,.ref rp),(Jr,.bool Mg)])/\eE J' rp q [1,1,1,1]):=by
 refine bz G (lq hn rfl) dW λx hx=>?_;refine run G (yw hn rfl) ?_;lk;have T1:=Wt hx (.Wu 576 (sf (sf (sf (sf (sf [] Js (.ref m)) Jx (.ref wi)) Jt .none) Ju (.int 0 0)) Jw (.int 0 0)));refine(kB (n:=n-1-1) G (aS Lw [] [_,_,_] hn (Me (af KI [] [_] hn)) (Me (ao KO [] [_,_] hn (Me (af KI [] [_] hn))))) HT).Wq (MC _) ?_;intro _ J2 I0;refine bI I0 λrp q z13=>?_;rw[z13.1];have h1:=z13.2.1;have h2:=z13.2.2.1;have Xx:=z13.2.2.2.1 _ _ (aa _ _ _);have hxr:rp≠x:=λe=>by rw[e,aa] at h1;cases h1
 have hxq:q≠x:=λe=>by rw[e,aa] at h2;cases h2
 lk;refine⟨rfl,x,rp,q,rfl,hx,T1.none h1,T1.none h2,(T1.trans z13.2.2.2.1).upd hx _,aa _ _ _,(ag _ _ hxr).trans z13.2.2.2.2.1,(ag _ _ hxq).trans z13.2.2.2.2.2,rfl⟩
theorem jJ(G:Good Z Kg)(hn:12<=n)(S:Sub H J)(R:aD J A C)(off:Off H A)(apt:A.Apt)(M:aj H A B)(mok:oJ C)(HT:Z.kt 361=Mc (bt [1,1,1,1])){ps:List (Option aH)}(hs:bL H da (bu tx v0 ps))(small:tx.size<=254)(osm:o.size<=100000)(o5:5<=o.size)(o0:au o 0=0)(oc:codeAt o 4<4294967295)(V:oR tx v0 ps)(F:ay o (cV o,C) (aC B tx v0 ps))(f1:(ak o (cV o,C) (aC B tx v0 ps)).1.WE=0)(f2:(ak o (cV o,C) (aC B tx v0 ps)).1.place=o.size)(f3:(bS v0 ps).pl=tx.size):ac Z n (.ref 1167) [.ref B.m,.bytes o 0,.bytes tx 0,.ref da] J (λu J'=>u=.bool Mh/\Sub H J'/\aD J' A (ak o (cV o,C) (aC B tx v0 ps)).2/\oJ (ak o (cV o,C) (aC B tx v0 ps)).2):=by
 refine ae hs λas z12=>?_;have hal:=z12.2.1;rw[jA] at hal;have cr:=cZ o 4;refine run G (lq hn rfl) ?_;lk;refine(nl (n:=n-1) G (lp hn rfl)).Z7 λJ1 wi rb hw hb S1 W1=>?_;lk;refine(nI (n:=n-1) G (lp hn rfl) HT).aa4 λJ2 y rp q hy hr hq S2 Yo Rp=>?_;lk;refine(nH (n:=n-1) G (lp hn rfl) osm o5 o0 (λzz=>fb 0x845084007bfffffffc4125bfffffffe20a2d [_] [] zz oc)).Yd λJ3 r hrd S3 D3=>?_;have L:PR H J3 A B r o y wi rb rp q tx (cV o,C) [] v0:=by have S12:=S1.trans S2;have S13:=S12.trans S3;refine⟨⟨S.trans S13,λj hj=>(R j hj).keep λa c b e=>S13 _ _ e,D3,(S.trans S12).none hrd,off,apt,⟨by show(0:Int)<=5;decide,cr.1,oc,by show(4294967295:Int)<4294967296;decide⟩,mok,osm⟩,S3 _ _ Yo,(S.trans S1).none hy,⟨S3 _ _ (S2 _ _ W1.1),S3 _ _ (S2 _ _ W1.2)⟩,S.none hw,S.none hb,⟨S3 _ _ Rp.1,S3 _ _ Rp.2,Rp.3⟩,(S.trans S1).none hr,λj hj=>?_,by decide,by decide,rfl,rfl,Nb _,small⟩;have hsome:=bN ((R j hj).keep (J':=J1) λa c b e=>S1 _ _ e);exact⟨λz=>hsome.1 (by rw[z];exact hq),λz=>hsome.2 (by rw[z];exact hq)⟩
 lk;intro t ht;have L0:=L.sup (Wt ht (.tup [.ref y,.ref r,.bytes #[] 0]));refine dQ ?_ (aa _ _ _) rfl;generalize Internal.upd J3 t _=J4 at*;lk;refine eS (xs:=as.map MJ) (λv' b b=>[(Kn,.ref y),(427070612850,.ref r),(Km,.bytes tx 0),(JI,.bytes (tx.toList.take v'.pl.toNat).toArray 0)]) (λj v' x' q' J'=>j<=ps.length/\PR H J' A B r o y wi rb rp q' tx x' (tx.toList.take v'.pl.toNat) v'/\oR tx v' (ps.drop j)/\ay o x' (aC B tx v' (ps.drop j))/\ak o x' (aC B tx v' (ps.drop j))=ak o (cV o,C) (aC B tx v0 ps)/\
  bu tx v' (ps.drop j)=(bu tx v0 ps).drop j/\bS v' (ps.drop j)=bS v0 ps) v0 (cV o,C) q ⟨Nb _,by exact L0,V,F,rfl,rfl,rfl⟩ (by rfl) ?_ ?_ ?_
 ·exact λb b b b b I0=>I0.2.1.1.1 _ _ z12.1
 ·intro j u v' x' q' J' Q' hu z8 hnext _;have V':=z8.2.2.1;have F':=z8.2.2.2.1;have e:=z8.2.2.2.2.1;have ed:=z8.2.2.2.2.2.1;have en:=z8.2.2.2.2.2.2;have hlt:j<ps.length:=by have:=(MK.mp hu).1;rw[Mt] at this;exact ao 0x422840003d28282152168954140f [] [_,_,_] hal this
  rw[Og hlt] at V' F' e ed en;generalize ps[j]=p at*;have hd:(bu tx v0 ps)[j]?=Mc (io tx v' p):=by
   have:((bu tx v0 ps).drop j)[0]?=Mc (io tx v' p):=by rw[<-ed];rfl
   rw[QD,VA] at this;exact this
  refine ae (z12.2.2 j _ hd) λa z5=>?_;rw[ML,z5.1] at hu;obtain rfl:MJ a=u:=MI hu;obtain z4:=aY.mp F';rw[show aC B tx v' (p::ps.drop (j+1))=gV B tx v' p++aC B tx (bd v' p) (ps.drop (j+1)) from rfl,bw] at e;have Yy:=z8.2.1.2;lk;refine(o7 (n:=n-1) G (lp hn rfl) z8.2.1 M p V'.1 z4.1).aaI λJ5 t q2 ht L5=>?_;refine eQ (kH (Dz [(Kn,.ref y),(427070612850,.ref r),(Km,.bytes tx 0),(JI,.bytes (tx.toList.take v'.pl.toNat).toArray 0),(JZ,.ref t)] J5 ?_ ?_));·intro Q' hQ _;lk;refine iu (r:=Mh) (.same (xB ht (L5.1.1 _ _ z5.2) (sj tx v' p))) rfl ?_;lk;exact hQ rfl
  ·clear Yy;have Yy:=L5.2;have L6:=L5.WT ht;lk;refine(zS (n:=n-1) (v:=v') (p:=p) G (lp hn rfl) L6 (tP rfl ht) V'.1).Wr λJ7 L7=>?_;have L8:=L5.abk L7;have hp:=z8.2.1.12;have hsz:(tx.toList.take v'.pl.toNat).length<=254/\∀c,((tx.toList.drop (tx.toList.take v'.pl.toNat).length).take c).length<=254:=by have:tx.toList.length=tx.size:=NB;refine⟨by rw[OI];exact aS 0x108e10c200029941310a90b44bf8508c63f841316 [] [_,_,_] small this (TU _ _),λc=>?_⟩;rw[OI,Pn];exact iK 0x42484708610001a6a09884b42b13a90b44bf8508c63f841316 [] [_,_,_,_] small this (V8 _ _) (TU _ _)
   lk;refine CO ?_ (by rw[Oi,Oi];have:=hsz.1;have:=hsz.2 (rZ p).toNat;lia);lk;have hol:=zg V'.1;have el:(tx.toList.take v'.pl.toNat).length+(rZ p).toNat=(bd v' p).pl.toNat:=by rw[wP];exact aS 0x109211c20002984b08a108014cc172e421f9ae3a14bc141f2a8267d1d [_,_] [_,_,_] hp (ME hol) (ME (ao 0x2184228420053204075e0a0f982c0818 [_,_] [_] hp hol))
   rw[el] at L8;refine hnext (bd v' p) _ q2 ⟨hlt,L8,V'.2,z4.2,e,?_,en⟩ ?_;rotate_left;·show Wk _ [_,_,_,(JI,.bytes (tx.toList.take (bd v' p).pl.toNat).toArray 0)];rw[List.append_toArray,<-el,List.take_add];have:v'.pl.toNat=(tx.toList.take v'.pl.toNat).length:=ao 0x423842003d08a10000f6e2a0faf0508d4150f [_] [_,_] hp (ME (af KM [_] [_] hp));rw[<-this];rfl
   ·rw[show(bu tx v0 ps).drop (j+1)=((bu tx v0 ps).drop j).drop 1 from List.drop_drop.symm,<-ed];rfl
 ·intro v' x' q' J' z3;have e:=z3.2.2.2.2.1;have en:=z3.2.2.2.2.2.2;rw[Mt,hal,TS] at e en;have e1:x'=ak o (cV o,C) (aC B tx v0 ps):=e;have e2:v'=bS v0 ps:=en;rw[<-e1] at f1 f2 ⊢;rw[<-e2] at f3;have et:tx.toList.take v'.pl.toNat=tx.toList:=PJ (by rw[f3,MN,NB];exact MC _);rw[et];refine EG (D6 (.bool Mh) [] J' ?_ ?_);·intro Q' hQ;lk;rw[RM];refine iu (r:=Mh) iN rfl ?_;have Rr:=z3.2.1.1.3.1;lk;refine((wd (n:=n-1) G (lp hn rfl) z3.2.1.1.3 f1)).k01 ?_;lk;refine((yU (n:=n-1) G (lp hn rfl) z3.2.1.1.3)).k01 ?_;rw[f2,Int.sub_self];refine aB (iu (r:=Mh) .int rfl ?_);·lk;exact hQ rfl
  ·lk;exact⟨rfl,z3.2.1.1.1,z3.2.1.1.2,z3.2.1.1.8⟩
variable{l:List Ev}
section
open PySem
inductive bg(l:List Ev):Prop where
 |mk(all:∀v∈l,zf v)
theorem bg.nil:bg []:=⟨λa h=>by cases h⟩
theorem bg.cons{v:Ev}(h:zf v)(k:bg l):bg (v::l):=⟨λu hu=>by
 refine Pj (MS.mp hu) (λzz=>?_) (λq=>?_);rw[zz];·exact h
 ·exact k.1 u q⟩
theorem bg.app{l':List Ev}(h:bg l)(k:bg l'):bg (l++l'):=⟨λu hu=>by
 rcases Oo.mp hu with q|q;·exact h.1 u q
 ·exact k.1 u q⟩
theorem fw(j:Nat)(s:Int):∀(c:Nat)(n v:Int),bg (az j s c n v)
 |0,_,_=>bg.nil
 |c+1,n,v=>.cons (cq _) (fw j s c _ v)
theorem se(j:Nat)(s:Int):∀(c:Nat)(n v:Int),bg (dy j s c n v)
 |0,_,_=>bg.nil
 |c+1,n,v=>.cons (cq _) (se j s c _ _)
theorem wV:∀(c:Nat)(v:Int),bg (dK c v)
 |0,_=>bg.nil
 |c+1,v=>.cons (cq _) (wV c v)
theorem yb(j:Nat)(r l:Int):bg (ct j r l):=by
 unfold ct;split;·exact .cons (.inl rfl) (fw ..)
 ·refine .cons (.inr rfl) ?_;split;·exact .cons (.inl rfl) (fw ..)
  ·exact .cons (.inr rfl) (fw ..)
theorem zr(d l:Int):bg (bP d l):=by
 unfold bP;refine(fw ..).app ?_;split;·exact bg.nil
 ·split;·exact se ..
  ·exact(wV ..).app (se ..)
theorem vB(s:Int):∀(c:Nat)(n o m:Int),bg (bU s c n o m)
 |0,_,_,_=>bg.nil
 |c+1,n,o,m=>by
  rw[fA];refine .cons (cq _) ?_;split;·exact vB s c _ _ _
  ·exact fw ..
theorem Bx(B:MA)(a b c d e:Int):bg (B.Xo a b c d e):=by
 unfold MA.Xo;refine .cons (.inl rfl) ?_;split;·exact fw ..
 ·exact vB ..
theorem qA(B:MA)(a b c d:Int):bg (B.WV a b c d):=.cons (.inr rfl) (.cons (.inl rfl) ((yb ..).app (zr ..)))
theorem Ag(B:MA)(a b:Int)(hi:i<=3)(c:Int):bg (B.XY a b i c):=by
 refine .cons (.inr rfl) (.cons (.inr rfl) (bg.app ?_ (yb ..)));unfold MA.Xf;split;·exact .cons (.inl rfl) (.cons (.inr rfl) .nil)
 ·refine .cons (.inr rfl) ?_;split;·exact .cons (.inl rfl) .nil
  ·refine .cons (.inr rfl) (.cons ?_ .nil);show(i:Int)-2=0∨(i:Int)-2=1;lia
theorem vz(B:MA)(a b:Int):bg (B.Xs a b):=.cons (.inr rfl) (.cons (.inr rfl) (.cons (.inl rfl) (.cons (.inl rfl) .nil)))
theorem zh(B:MA)(V:iS tx v p):bg (gV B tx v p):=by
 induction p with
 |none=>exact qA ..
 |some p=>
  induction p with
  |lit=>exact Bx ..
  |mat d sz=>exact qA ..
  |rep i sz=>exact Ag B _ _ (V.4 i sz rfl).1 _
  |short=>exact vz ..
theorem xS(B:MA){tx:Array UInt8}:∀(ps:List (Option aH))(v:LS),oR tx v ps->bg (aC B tx v ps)
 |[],_,_=>.nil
 |p::r,v,V=>(zh B V.1).app (xS B r _ V.2)
noncomputable def full(ps:List aH)(marked:Bool):List (Option aH):=ps.map Mc++if marked then[Mq] else[]
theorem tz{tx:Array UInt8}{marked:Bool}:∀(ps:List aH)(v:LS),aX tx v ps->oR tx v (full ps marked)
 |[],v,_=>by cases marked;exact trivial;exact⟨trivial,trivial⟩
 |p::r,v,V=>⟨V.1,tz r _ V.2⟩
theorem ml(B:MA)(tx:Array UInt8):∀(ps:List aH)(s:CS)(v:LS),(f7 B tx s v ps).1=ah s (aC B tx v (ps.map Mc))
 |[],_,_=>rfl
 |p::r,s,v=>by show(f7 B tx (ah s (p.evs B tx v)) (p.next v) r).1=ah s (p.evs B tx v++aC B tx (p.next v) (r.map Mc));rw[ml B tx r,bx]
theorem rA(B:MA)(tx:Array UInt8)(q:List (Option aH)):∀(ps:List (Option aH))(v:LS),aC B tx v (ps++q)=aC B tx v ps++aC B tx (bS v ps) q
 |[],_=>rfl
 |p::r,v=>by show gV B tx v p++aC B tx (bd v p) (r++q)=(gV B tx v p++aC B tx (bd v p) r)++_;rw[rA B tx q r,NI];rfl
theorem lI(q:List (Option aH)):∀(ps:List (Option aH))(v:LS),bS v (ps++q)=bS (bS v ps) q
 |[],_=>rfl
 |p::r,v=>lI q r (bd v p)
theorem pe(B:MA)(tx:Array UInt8):∀(ps:List aH)(s:CS)(v:LS),(f7 B tx s v ps).2=bS v (ps.map Mc)
 |[],_,_=>rfl
 |p::r,s,v=>pe B tx r (ah s (p.evs B tx v)) (p.next v)
theorem mS(B:MA)(tx:Array UInt8)(C:Nat->Int->Int)(ps:List aH)(marked:Bool):fq B tx C ps marked=ah (ES.init,C) (aC B tx v0 (full ps marked)):=by
 unfold fq full;induction marked with
 |false=>rw[if_neg (by decide),ml];show _=ah _ (aC B tx v0 (ps.map Mc++[]));rw[NF]
 |true=>rw[if_pos rfl,ml,pe,if_pos rfl,rA];refine Eq.trans ?_ (bx ..).symm;show _=ah _ (gV B tx (bS v0 (ps.map Mc)) Mq++[]);rw[NF];rfl
theorem zp:(bS v (full ps marked)).pl=(bS v (ps.map Mc)).pl:=by unfold full;rw[lI];cases marked<;>rfl
theorem on(tx:Array UInt8)(q:List (Option aH)):∀(ps:List (Option aH))(v:LS),bu tx v (ps++q)=bu tx v ps++bu tx (bS v ps) q
 |[],_=>rfl
 |p::r,v=>by show io tx v p::bu tx (bd v p) (r++q)=(io tx v p::bu tx (bd v p) r)++_;rw[on tx q r];rfl
theorem oK(tx:Array UInt8)(ps:List aH)(marked:Bool)(v:LS):bu tx v (full ps marked)=bu tx v (ps.map Mc)++if marked then[[.str "end" 0]] else[]:=by unfold full;rw[on];cases marked<;>rfl
theorem zJ:oJ λa a=>1024:=λa a=>⟨by dsimp only;exact Ms _,by dsimp only;exact Ms _⟩
end
noncomputable def WZ(len:Nat)(f:Int->Int):List Value:=(Oh len).map λk:Nat=>.int (f k) 0
theorem oW{len:Nat}(hl:xs.length=len)(h:∀k:Nat,k<len->xs[k]?=Mc (.int (f k) 0)):xs=WZ len f:=by
 refine Tg λk=>?_;unfold WZ;rw[ML];by_cases hk:k<len;·rw[h k hk,Nu hk];rfl
 ·rw[MZ (by exact ao Lr [] [_,_,_] hl hk),MZ (by rw[NJ];exact Rd hk)];rfl
theorem bO(len:Nat)(f:Int->Int):(WZ len f).length=len:=by unfold WZ;rw[Mt,NJ]
theorem vV{len:Nat}(h:k<len):(WZ len f)[k]?=Mc (.int (f k) 0):=by unfold WZ;rw[ML,Nu h];rfl
section
variable{st:List Md}{k body:T}
theorem oq{v:Md}(h:J a=Mc (.tup [u,v]))(q:∀Q',(∀{E' J'},J' a=Mc (.tup [u,v])->(∀Q'',(∀{E'' J''},J'' a=Mc (.tup [u,v])->X Z n Q K J'' E'' st k->XN Q'' J'' E'')->X Z n Q'' [] J' E' [v] body)->XN Q' J' E')->X Z n Q' [] J E [u] body):X Z n Q K J E (.ref a::st) (.Wz .seq body k):=λρ hr=>by
 have at':∀{J':Sg}(j:Nat),J' a=Mc (.tup [u,v])->rR qZ a j J'=Mc (([u,v][j]?).map λv=>[v]):=λj e=>by unfold rR;rw[e];rfl
 exact⟨st,rR qZ a,3,⟨rfl,.inr ⟨⟨_,h⟩,rfl⟩⟩,.inr ⟨[u],at' 0 h,q _ (λh' q2 ρ' hr'=>.inr ⟨[v],at' 1 h',q2 _ (λh'' e ρ'' hr''=>.inl ⟨at' 2 h'',e ρ'' hr''⟩) ρ' hr'⟩) ρ hr⟩⟩
end
theorem jN(G:Good Z Kg)(hn:2<=n){c:Nat}:ac Z n (.ref 159) [.int c 0] J (λu J'=>bM λr d=>u=.ref r/\J r=Mq/\J d=Mq/\Sub J J'/\Row J' r d c (λa=>1024)):=by
 refine bz G (lq hn rfl) jG λx hx=>?_;refine run G (Ov hn) ?_;lk;refine wb λz hz=>?_;have hxz:x≠z:=λe=>by rw[<-e,aa] at hz;cases hz
 have hzx:=hxz.symm;have hσz:J z=none:=by rw[ag _ _ hzx] at hz;exact hz
 lk;refine⟨rfl,x,z,rfl,hx,hσz,((Sub.rfl.upd hx _).upd hσz _).upd hx _,.inr ⟨aa _ _ _,[],(ag _ _ hzx).trans (aa _ _ _),λa a a=>rfl,λa h=>absurd h TM,UA⟩⟩
theorem ta{c:Nat}(h:J r=Mc (.list (M8 c (.int 1024 0)))):Row J r r c (λa=>1024):=
 .inl ⟨rfl,_,h,NW,λk hk=>by rw[QP,if_pos hk]⟩
theorem qY(G:Good Z Kg)(hn:3<=n){c:Nat}:ac Z n (.ref 170) [.int c 0] J (λu J'=>bM λr d=>u=.ref r/\J r=Mq/\J d=Mq/\Sub J J'/\Row J' r d c (λa=>1024)):=by
 refine run G (lq hn rfl) ?_;lk;refine wZ (λh=>?_) (λh=>?_);·lk;intro x hx;lk;refine j5 (aa _ _ _) (af 0x84000270c0004e00b8a0630d402e28b8107f3a [] [_] h) λz hz=>?_;rw[MN];have T:=Wt hx (.list [.int 1024 0]);lk;exact⟨z,z,rfl,T.none hz,T.none hz,T.trans (Wt hz _),ta (aa _ _ _)⟩
 ·lk;refine(jN (n:=n-1) G (lp hn rfl)).Z7 λJ2 r d h1 h2 S R=>?_;lk;exact⟨r,d,rfl,h1,h2,S,R⟩
theorem Row.isi{d:Mk}{len:Nat}(R:Row J r d len f):(fU J (.ref r) (.ref 159) Mh/\J r=Mc (.Wu 159 [(I8,.int len 0),(I9,.ref d)])/\∃m,J d=Mc (.W8 m)/\fj m len f)∨(fU J (.ref r) (.ref 159) Mg/\d=r/\J r=Mc (.list (WZ len f))):=by
 rcases R with⟨h,xs,e,hl,hx⟩|⟨e,m,em,hm⟩;·exact .inr ⟨.aa1 e rfl,h,by rw[<-oW hl hx];exact e⟩
 ·exact .inl ⟨.Wu e,e,m,em,hm⟩
theorem pN(G:Good Z Kg)(hn:3<=n){d:Mk}{len:Nat}(R:Row J r d len f)(hl:len<=100000):ac Z n (.ref 1134) [.ref r] J (λu J'=>bM λr d=>u=.ref r/\J r=Mq/\J d=Mq/\Sub J J'/\Row J' r d len (λa=>1024)):=by
 refine run G (lq hn rfl) ?_;lk;rcases R.isi with⟨hi,_⟩|⟨hi,_⟩
 ·refine ir (r:=Mh) ?_ hi;lk;intro x hx;have T:=Wt hx (.list [.int 1024 0]);lk;refine(R.sub T).len G (lp hn rfl) (kG hl rfl) ?_;refine j5 (aa _ _ _) (af K2 [] [_] hl) λz hz=>?_;rw[MN];lk;exact⟨z,z,rfl,T.none hz,T.none hz,T.trans (Wt hz _),ta (aa _ _ _)⟩
 ·refine ir (r:=Mg) ?_ hi;lk;refine R.len G (lp hn rfl) (kG hl rfl) ?_;lk;refine(jN (n:=n-1) G (lp hn rfl)).Z7 λJ2 r d h1 h2 S R=>?_;lk;exact⟨r,d,rfl,h1,h2,S,R⟩
theorem nQ{m:List (Int×Md)}{len:Nat}(h:fj m len f)(hk:k<len)(hn:∀p∈m,p.1≠k):f k=1024:=by have:=h.1 k (Ms _) (nA hk);rw[Vg.mpr (λp hp=>by simpa using hn p hp)] at this;simp at this;exact this.symm
theorem gq(G:Good Z Kg)(hn:3<=n){d:Mk}{len:Nat}(R:Row J r d len f)(hl:len<=100000):ac Z n (.ref 1148) [.ref r] J (λu J'=>∃x,u=.ref x/\J x=Mq/\Sub J J'/\J' x=Mc (.list (WZ len f))):=by
 refine run G (lq hn rfl) ?_;lk;rcases R.isi with⟨hi,he,m,hm,D⟩|⟨hi,_,he⟩
 ·refine ir (r:=Mh) ?_ hi;lk;intro x hx;have T:=Wt hx (.list [.int 1024 0]);lk;refine(R.sub T).len G (lp hn rfl) (kG hl rfl) ?_;refine j5 (aa _ _ _) (af K2 [] [_] hl) λz hz=>?_;rw[MN];have T2:=T.trans (Wt hz (.list (M8 len (.int 1024 0))));have hσz:=T.none hz;have he2:=T2 _ _ he;lk;refine Bj (m:=m) (λl ρ J'=>ρ=[(Jq,.ref r),(JW,.ref z)]/\Sub J J'/\bM λpre xs=>m=pre++l/\J' z=Mc (.list xs)/\xs.length=len/\∀k:Nat,k<len->xs[k]?=Mc (.int (if ∃p,And (p∈pre) (p.1=k) then f k else 1024) 0)) ?_ ?_ ?_ ?_;·refine⟨_,⟨rfl,T2,[],_,rfl,aa _ _ _,NW,λk hk=>?_⟩,rfl⟩;rw[QP,if_pos hk,if_neg (by rintro⟨p,hp,_⟩;cases hp)]
  ·intro l ρ J' r1;exact r1.2.1 _ _ hm
  ·intro p l ρ J' Q' I0 hnext;rw[I0.1];refine bI I0.2.2 λpre xs z2=>?_;have hk:=D.2 p (by rw[z2.1];exact Up _ (MT ..));have Rs:=R.sub I0.2.1;lk;refine Rs.idx G (lp hn rfl) hk.1 hk.2 (kG hl rfl) ?_;lk;refine Y5 z2.2.1 hk.1 (ao 0x108e10800f578260417c96a0a87de090f [_] [_,_] z2.2.2.1 hk) (ug z2.2.2.1 hl rfl) ?_;lk;refine hnext ⟨_,⟨rfl,I0.2.1.upd hσz _,pre++[p],_,by rw[z2.1,NI];rfl,aa _ _ _,by rw[List.length_set];exact z2.2.2.1,λk hk'=>?_⟩,rfl⟩;rw[Vx];by_cases hpk:p.1=k;·rw[if_pos (by exact aS 0x211421001e847080007b71507de080faf0508d4150f [_] [_,_] hpk (Nh _) (ME (af 0x1080004ef04c082f91c080b [_] [_] hk))),if_pos (by exact aS 0x42484708400a771507cbc13020be4d2a128954140f [_] [_,_,_] z2.2.2.1 hk (ME (af 0x1080004ef04c082f91c080b [_] [_] hk))),if_pos ⟨p,Up _ (MM.mpr rfl),hpk⟩,hpk]
   ·rw[if_neg (by have:=hk.1;lia),z2.2.2.2 k hk'];have:(∃q,And (q∈pre++[p]) (q.1=(k:Int)))↔∃q,And (q∈pre) (q.1=(k:Int)):=⟨λ⟨q,hq,e⟩=>by
     rcases Oo.mp hq with hq|hq;·exact⟨q,hq,e⟩
     ·rw[MM.mp hq] at e;exact absurd e hpk,λ⟨q,hq,e⟩=>⟨q,List.mem_append_left _ hq,e⟩⟩
    simp only[this]
  ·intro E J' I0;rw[I0.1];refine bI I0.2.2 λpre xs z1=>?_;have hmp:=z1.1;rw[NF] at hmp;subst hmp;lk;refine⟨z,rfl,hσz,I0.2.1,?_⟩;refine(z1.2.1).trans (congrArg (Mc<|Cell.list ·) (oW z1.2.2.1 (f:=f) λk hk=>?_))
   ·rw[z1.2.2.2 k hk];by_cases h:∃p,And (p∈m) (p.1=(k:Int));·rw[if_pos h]
    ·rw[if_neg h,nQ D hk λp hp e=>h ⟨p,hp,e⟩]
 ·refine ir (r:=Mg) ?_ hi;lk;refine xJ he (by rw[bO];exact hl) λx hx=>?_;lk;exact⟨x,rfl,hx,Wt hx _,aa _ _ _⟩
inductive NR(J0 J:Sg)(rs:List (Mk×Mk×Nat)):Prop where
 |mk (row:∀e∈rs,Row J e.1 e.2.1 e.2.2 (λa=>1024))
  (new:∀e∈rs,J0 e.1=Mq/\J0 e.2.1=Mq)
  (apart:rs.Pairwise λe f=>e.1≠f.1/\e.1≠f.2.1/\e.2.1≠f.1/\e.2.1≠f.2.1)
inductive Ch(P:Mk->Prop)(J J':Sg):Prop where
 |mk (keep:∀a c,¬P a->J a=Mc c->J' a=Mc c)
  (dom:∀a,J' a=Mq->J a=Mq)
theorem Ch.of(S:Sub J J'):Ch P J J':=⟨λa c b=>S a c,λb=>S.none⟩
theorem Ch.trans{J'':Sg}(h:Ch P J J')(h':Ch P J' J''):Ch P J J'':=⟨λa c p e=>h'.1 a c p (h.1 a c p e),λa e=>h.2 a (h'.2 a e)⟩
theorem Ch.Wq{Q:Mk->Prop}(h:Ch P J J')(q:∀a,P a->Q a):Ch Q J J':=⟨λa c p e=>h.1 a c (λz=>p (q a z)) e,h.2⟩
theorem Ch.upd(J:Sg)(h:P a)(c:Cell):Ch P J (upd J a c):=⟨λb d p e=>(ag _ _ (λz=>p (by rw[z];exact h))).trans e,λb e=>by
 unfold Internal.upd at e;split at e;·cases e
 ·exact e⟩
theorem Ch.sub(C:Ch P J J')(S:Sub H J)(hP:∀a,P a->H a=Mq):Sub H J':=λa c e=>C.1 a c (λh=>by rw[hP a h] at e;cases e) (S a c e)
theorem NR.nil(J0 J:Sg):NR J0 J []:=⟨nofun,nofun,.nil⟩
variable{rs:List (Mk×Mk×Nat)}{J0:Sg}
theorem NR.ch(N:NR J0 J rs)(C:Ch P J J')(hP:∀a,P a->J0 a≠Mq):NR J0 J' rs:=
 ⟨λe he=>(N.1 e he).keep λa c h e'=>C.1 a c (λp=>hP a p (by
  rcases h with rfl|rfl;·exact(N.2 e he).1
  ·exact(N.2 e he).2)) e',N.2,N.3⟩
theorem NR.Zb(N:NR J0 J rs)(D:∀a,J a=Mq->J0 a=Mq)(S:Sub J J'){d:Mk}{len:Nat}(R:Row J' r d len (λb=>1024))(hr:J r=Mq)(hd:J d=Mq):NR J0 J' (rs++[(r,d,len)]):=by
 refine⟨λe he=>?_,λe he=>?_,?_⟩
 ·rcases Oo.mp he with he|he;·exact(N.1 e he).sub S
  ·rw[MM.mp he];exact R
 ·rcases Oo.mp he with he|he;·exact N.2 e he
  ·rw[MM.mp he];exact⟨D _ hr,D _ hd⟩
 ·rw[List.pairwise_append];refine⟨N.3,List.pairwise_singleton ..,λe he f hf=>?_⟩;rw[MM.mp hf];obtain z3:=bN (N.1 e he);exact⟨λz=>z3.1 (by rw[z];exact hr),λz=>z3.1 (by rw[z];exact hd),λz=>z3.2 (by rw[z];exact hr),λz=>z3.2 (by rw[z];exact hd)⟩
inductive qa(P:Mk->Prop)(J0 J:Sg)(a:Mk)(c:Cell)(rs:List (Mk×Mk×Nat)):Prop where
 |mk (o:J a=Mc c)
  (nr:NR J0 J rs)
  (ch:Ch P J0 J)
  (pa:P a)
  (hP:∀b,P b->J0 b≠Mq)
variable{v:Int}{x:Nat}
section
variable{d:Mk}{c c':Cell}{len:Nat}{t:T}{st:List Md}
theorem qa.add(Y:qa P J0 J a c rs)(hr:J r=Mq)(hd:J d=Mq)(S:Sub J J')(R:Row J' r d len (λb=>1024))(c':Cell):qa P J0 (upd J' a c') a c' (rs++[(r,d,len)]):=
 ⟨aa _ _ _,(Y.2.Zb Y.3.2 S R hr hd).ch (Ch.upd (P:=P) J' Y.4 c') Y.5,Y.3.trans ((Ch.of S).trans (Ch.upd J' Y.4 c')),Y.4,Y.5⟩
theorem qa.put(Y:qa P J0 J a c rs)(S:Sub J J')(c':Cell):qa P J0 (upd J' a c') a c' rs:=
 ⟨aa _ _ _,(Y.2.ch (Ch.of (P:=P) S) Y.5).ch (Ch.upd (P:=P) J' Y.4 c') Y.5,Y.3.trans ((Ch.of S).trans (Ch.upd J' Y.4 c')),Y.4,Y.5⟩
theorem Ch.put(S:Sub J J')(a:Mk)(c':Cell):Ch (λb=>b=a) J (Internal.upd J' a c'):=(Ch.of S).trans (Ch.upd (P:=λb=>b=a) J' rfl _)
theorem lj(G:Good Z Kg)(hn:3<=n)(Y:qa P J0 J a c rs)(hρ:gf E x=Mc (.ref a))(hc:AN c k=Mh)(hv:v=(len:Nat))(q:∀J' r d,qa P J0 J' a (X5 c k (.ref r)) (rs++[(r,d,len)])->Ch (λb=>b=a) J J'->X Z n Q K J' E st t):ac Z n (.ref 170) [.int v 0] J λu J'=>X Z n Q K J' E (u::st) (.ld x (.XF k t)):=by subst hv;refine(qY G hn).Wq (MC _) ?_;intro _ τ r4;refine bI r4 λr d z2=>?_;rw[z2.1];exact jc (gc (z2.2.2.2.1 _ _ Y.1) hc rfl (q _ _ _ (Y.add z2.2.1 z2.2.2.1 z2.2.2.2.1 z2.2.2.2.2 _) (Ch.put z2.2.2.2.1 _ _))) hρ
theorem bC(Y:qa P J0 J a c rs)(hρ:gf E x=Mc (.ref a))(hc:AN c k=Mh)(q:∀J' v,qa P J0 J' a (X5 c k v) rs->Ch (λb=>b=a) J J'->X Z n Q K J' E st t):∀y,J y=Mq->X Z n Q K (upd J y (.list [])) E (.ref y::st) (.ld x (.XF k t)):=
 λd hy=>jc (gc (Wt hy _ _ _ Y.1) hc rfl (q _ _ (Y.put (Wt hy _) _) (Ch.put (Wt hy _) _ _))) hρ
theorem te(Y:qa P J0 J a c rs)(S:Sub J J')(hρ:gf E x=Mc (.ref a))(hc:AN c k=Mh){v:Md}(hv:iI v=Mh)(q:∀τ,qa P J0 τ a (X5 c k v) rs->(∀b d,b≠a->J' b=Mc d->τ b=Mc d)->X Z n Q K τ E st t):X Z n Q K J' E (v::st) (.ld x (.XF k t)):=
 jc (gc (S _ _ Y.1) hc hv (q _ (Y.put S _) λf f h e=>(ag _ _ h).trans e)) hρ
end
noncomputable def Yx(rs:List (Mk×Mk×Nat)):Rows:=⟨λj=>(rs.getD j (0,0,0)).1,λj=>(rs.getD j (0,0,0)).2.1,λj=>(rs.getD j (0,0,0)).2.2⟩
theorem NR.rows(N:NR J0 J rs)(hl:rs.length=18)(hs:∀e∈rs,e.2.2<1000000):aD J (Yx rs) (λa a=>1024)/\(Yx rs).Apt/\∀j,j<18->J0 ((Yx rs).ra j)=Mq/\J0 ((Yx rs).da j)=none:=by
 have g:∀j,(h:j<18)->rs.getD j (0,0,0)=rs[j]:=λj h=>by rw[Mw,MG (by exact ao KR [] [_,_] hl h)];rfl
 have ap:∀i j,i<18->j<18->i≠j->(rs.getD i (0,0,0)).1≠(rs.getD j (0,0,0)).1/\(rs.getD i (0,0,0)).1≠(rs.getD j (0,0,0)).2.1/\(rs.getD i (0,0,0)).2.1≠(rs.getD j (0,0,0)).1/\(rs.getD i (0,0,0)).2.1≠(rs.getD j (0,0,0)).2.1:=λi j hi hj hij=>by
  rw[g i hi,g j hj];have h:=List.pairwise_iff_getElem.mp N.3;rcases SS hij with q|q
  ·exact h i j (ao KR [] [_,_] hl hi) (ao KR [] [_,_] hl hj) q
  ·obtain z1:=h j i (aS 0x42384508400a65050424242c1690a128ad4140f [] [_,_,_] hl hi q) (ao KR [] [_,_] hl hi) q;exact⟨z1.1.symm,z1.2.2.1.symm,z1.2.1.symm,z1.2.2.2.symm⟩
 have mem:∀j,j<18->rs.getD j (0,0,0)∈rs:=λj h=>by rw[g j h];exact TV _
 refine⟨λj hj=>N.1 _ (mem j hj),⟨λi j hi hj h=>(ap i j hi hj h).1,λi j hi hj h=>(ap i j hi hj h).2.1,λi j hi hj h=>(ap i j hi hj h).2.2.2,λj=>?_⟩,λj hj=>N.2 _ (mem j hj)⟩;show(rs.getD j (0,0,0)).2.2<1000000;by_cases h:j<18;·exact hs _ (mem j h)
 ·rw[Mw,MZ (by exact ao 0x845080007a42849862420a89d4130f [] [_,_] hl h)];decide
noncomputable def rv(rs:List (Mk×Mk×Nat))(j:Nat):Value:=.ref (rs.getD j (0,0,0)).1
variable{w:Nat->Md}
theorem jM(G:Good Z Kg)(hn:4<=n){l:Mk}{o:Nat}(Y:qa P J0 J l (sY pb w o) rs):ac Z n (.ref 290) [.ref l] J (λu J'=>u=.none/\yq λe0 e1 e2 e3=>List.map (·.2.2) [e0,e1,e2,e3]=[2,8*2^pb,8*2^pb,256]/\qa P J0 J' l (sY pb (rv [e0,e1,e2,e3]) 0) (rs++[e0]++[e1]++[e2]++[e3])/\Ch (λa=>a=l) J J'):=by
 have e8:(8:Int)*2^pb=((8*2^pb:Nat):Int):=by simp
 refine run G (lq hn rfl) ?_;lk;refine lj G (lp hn rfl) Y rfl rfl rfl λJ1 r0 d0 Y C1=>?_;have h:=Y.1;lk;refine lj G (lp hn rfl) Y rfl rfl e8 λJ2 r1 d1 Y C2=>?_;have h:=Y.1;lk;refine lj G (lp hn rfl) Y rfl rfl e8 λJ3 r2 d2 Y C3=>?_;lk;refine lj G (lp hn rfl) Y rfl rfl rfl λJ4 r3 d3 Y C4=>?_;lk;exact⟨rfl,(r0,d0,2),(r1,d1,8*2^pb),(r2,d2,8*2^pb),(r3,d3,256),rfl,Y,((C1.trans C2).trans C3).trans C4⟩
inductive MB(J:Sg)(B:MA)(w:Nat->Md):Prop where
 |mk (m:J B.m=Mc (Ck B w))
  (p:J B.p=Mc (yP B.lc B.lp B.pb))
  (l1:J B.l1=Mc (sY B.pb w 10))
  (l2:J B.l2=Mc (sY B.pb w 14))
  (ne:B.l1≠B.l2)
  (lc:B.lc<=1)
  (lp:B.lp<=1)
  (pb:B.pb<=4)
theorem aj.mb(M:aj H A B)(h:B.l1≠B.l2):MB H B (wa A):=⟨M.1,M.2,M.3,M.4,h,M.5,M.6,M.7⟩
noncomputable def W6(B:MA):Mk->Prop:=λa=>a=B.m∨a=B.l1∨a=B.l2
inductive xX(J J':Sg)(B:MA)(A:Rows):Prop where
 |mk(mod:aj J' A B)
  (rows:aD J' A (λa a=>1024))
  (apt:A.Apt)
  (new:∀j,j<18->J (A.ra j)=Mq/\J (A.da j)=Mq)
  (ch:Ch (W6 B) J J')
theorem mP(a1:B.lc<=1)(a2:B.lp<=1)(a3:B.pb<=4):∀x∈WL B,x<100000:=by
 have h1:2^(B.lc+B.lp)<=2^2:=Pg (by decide) (Nat.add_le_add a1 a2);have h2:2^B.pb<=2^4:=Pg (by decide) a3;have h3:=U2 768 h1;have h4:=U2 8 h2;have h:(WL B).all (λx=>M0 (x<100000))=true:=by unfold WL;simp only[Ru,List.all_nil,Bool.and_true,Oe,decide_eq_true_eq];have h3:=kG h3 (c:=100000) rfl;have h4:=kG h4 (c:=100000) rfl;exact⟨by decide,by decide,by decide,by decide,by decide,by decide,by decide,by decide,by decide,h3,by decide,h4,h4,by decide,by decide,h4,h4,by decide⟩
 exact λx hx=>of_decide_eq_true (NT.mp h x hx)
noncomputable def gp(i:Nat):Nat:=if i<10 then 0 else if i<14 then 1 else 2
noncomputable def obj(B:MA):Nat->Mk|0=>B.m|1=>B.l1|_=>B.l2
noncomputable def yv(B:MA)(v:Nat->Md):Nat->Cell|0=>Ck B v|1=>sY B.pb v 10|_=>sY B.pb v 14
noncomputable def Iz:List Nat:=[LL,LT,Jh,Jj,Jk,Ji,Jo,Jp,Mb,IC,LC,LO,7170404,Lg,LC,LO,7170404,Lg]
noncomputable def nm(i:Nat):Nat:=Iz.getD i 0
theorem tI{p:Nat->Prop}(h0:p 0)(h1:p 1)(h2:p 2)(h3:p 3)(h4:p 4)(h5:p 5)(h6:p 6)(h7:p 7)(h8:p 8)(h9:p 9)(h10:p 10)(h11:p 11)(h12:p 12)(h13:p 13)(h14:p 14)(h15:p 15)(h16:p 16)(h17:p 17):∀i,i<18->p i:=
 cm (cm (cm (cm (cm (cm (cm (cm (cm (cm (cm (cm (cm (cm (cm (cm (cm (cm uQ h0) h1) h2) h3) h4) h5) h6) h7) h8) h9) h10) h11) h12) h13) h14) h15) h16) h17
noncomputable def sR(v:Nat->Md)(i:Nat)(u:Md)(j:Nat):Value:=if j=i then u else v j
theorem BT(B:MA)(v:Nat->Md)(u:Md):∀i,i<18->X5 (yv B v (gp i)) (nm i) u=yv B (sR v i u) (gp i):=
 tI rfl rfl rfl rfl rfl rfl rfl rfl rfl rfl rfl rfl rfl rfl rfl rfl rfl rfl
theorem CL(B:MA)(v:Nat->Md):∀i,i<18->EO (yv B v (gp i)) (nm i)=Mc (v i):=
 tI rfl rfl rfl rfl rfl rfl rfl rfl rfl rfl rfl rfl rfl rfl rfl rfl rfl rfl
theorem AV(B:MA)(v:Nat->Md):∀i,i<18->AN (yv B v (gp i)) (nm i)=true:=
 tI rfl rfl rfl rfl rfl rfl rfl rfl rfl rfl rfl rfl rfl rfl rfl rfl rfl rfl
theorem ud{v v':Nat->Md}(h:∀j,j<10->v j=v' j):Ck B v=Ck B v':=by unfold Ck;rw[h 0 (by decide),h 1 (by decide),h 2 (by decide),h 3 (by decide),h 4 (by decide),h 5 (by decide),h 6 (by decide),h 7 (by decide),h 8 (by decide),h 9 (by decide)]
theorem jV{o o':Nat}{v v':Nat->Md}(h:∀j,j<4->v (o+j)=v' (o'+j)):sY pb v o=sY pb v' o':=by have a:=h 0 (by decide);have b:=h 1 (by decide);have c:=h 2 (by decide);have d:=h 3 (by decide);unfold sY;rw[b,c,d,show v o=v' o' from a]
theorem m3{v v':Nat->Md}:∀{g:Nat},g<3->(∀j,j<18->gp j=g->v j=v' j)->yv B v g=yv B v' g
 |0,_,h=>ud λj hj=>h j (QZ hj (by decide)) (if_pos hj)
 |1,_,h=>jV (iL (h 10 (by decide) rfl) (h 11 (by decide) rfl) (h 12 (by decide) rfl) (h 13 (by decide) rfl))
 |2,_,h=>jV (iL (h 14 (by decide) rfl) (h 15 (by decide) rfl) (h 16 (by decide) rfl) (h 17 (by decide) rfl))
 |g+3,h,_=>absurd h (PF.mpr (Mr _ _))
theorem oa(i:Nat):gp i<3:=by unfold gp;split;decide;split<;>decide
theorem rQ{p:Mk->Prop}(h1:p B.m)(h2:p B.l1)(h3:p B.l2):∀a,W6 B a->p a:=
 λb h=>h.elim (λz=>z▸h1) λh=>h.elim (λz=>z▸h2) λz=>z▸h3
theorem eP(B:MA):∀g,W6 B (obj B g)
 |0=>.inl rfl|1=>.inr (.inl rfl)|_+2=>.inr (.inr rfl)
theorem MB.c(M:MB J B w):∀g,g<3->J (obj B g)=Mc (yv B w g)
 |0,_=>M.1|1,_=>M.3|2,_=>M.4
 |g+3,h=>absurd h (PF.mpr (Mr _ _))
theorem MB.hP(M:MB J B w):∀a,W6 B a->J a≠none:=
 rQ (p:=λa=>J a≠Mq) (λz=>cns (z.symm.trans M.1)) (λz=>cns (z.symm.trans M.3)) λz=>cns (z.symm.trans M.4)
theorem MB.one(M:MB J B w):B.m≠B.l1:=ub M.1 M.3 (by decide)
theorem MB.two(M:MB J B w):B.m≠B.l2:=ub M.1 M.4 (by decide)
theorem MB.off(M:MB J B w):∀g g',g<3->g' < 3->g≠g'->obj B g≠obj B g'
 |0,0,_,_,h|1,1,_,_,h|2,2,_,_,h=>absurd rfl h
 |0,1,_,_,_=>M.one|0,2,_,_,_=>M.two|1,2,_,_,_=>M.5
 |1,0,_,_,_=>M.one.symm|2,0,_,_,_=>M.two.symm|2,1,_,_,_=>M.5.symm
 |g+3,_,h,_,_=>absurd h (PF.mpr (Mr _ _))
 |_,g+3,_,h,_=>absurd h (PF.mpr (Mr _ _))
noncomputable def mix(w:Nat->Md)(rs:List (Mk×Mk×Nat))(j:Nat):Value:=(rs[j]?).elim (w j) λe=>.ref e.1
theorem qy(w:Nat->Md)(rs:List (Mk×Mk×Nat))(e:Mk×Mk×Nat):mix w (rs++[e])=sR (mix w rs) rs.length (.ref e.1):=by
 funext j;show((rs++[e])[j]?).elim (w j) _=if j=rs.length then _ else(rs[j]?).elim (w j) _
 by_cases h:j=rs.length;·rw[if_pos h,h,MY (MC _),Nq];rfl
 ·rw[if_neg h];rcases SS h with q|q
  ·rw[M7 q]
  ·rw[MZ (Np q),MZ (by rw[MH];exact q)]
inductive Ft(J0:Sg)(B:MA)(w:Nat->Md)(i:Nat)(τ:Sg)(rs:List (Mk×Mk×Nat)):Prop where
 |mk(nr:NR J0 τ rs)
  (ch:Ch (W6 B) J0 τ)
  (c:∀g,g<3->τ (obj B g)=Mc (yv B (mix w rs) g))
  (n:rs.map (·.2.2)=(WL B).take i)
  (l:rs.length=i)
theorem zl(B:MA):∀i,i<18->(WL B)[i]?.toList=[(WL B).getD i 0]:=tI rfl rfl rfl rfl rfl rfl rfl rfl rfl rfl rfl rfl rfl rfl rfl rfl rfl rfl
variable{p:Mk}{τ:Sg}{lc:Nat}
section
variable{τ':Sg}{t:T}{st:List Md}
theorem Ft.add(M:MB J B w)(Y:Ft J B w i τ rs)(hi:i<18){d:Mk}(hr:τ r=Mq)(hd:τ d=Mq)(S:Sub τ τ')(R:Row τ' r d ((WL B).getD i 0) (λa=>1024)):Ft J B w (i+1) (upd τ' (obj B (gp i)) (X5 (yv B (mix w rs) (gp i)) (nm i) (.ref r))) (rs++[(r,d,(WL B).getD i 0)]):=by
 have U:=Ch.upd (P:=W6 B) τ' (eP B (gp i)) (X5 (yv B (mix w rs) (gp i)) (nm i) (.ref r));refine⟨(Y.1.Zb Y.2.2 S R hr hd).ch U M.hP,Y.2.trans ((Ch.of S).trans U),λg hg=>?_,by rw[Oc,Y.4,List.take_succ,zl B i hi];rfl,by rw[MH,Y.5];rfl⟩;rw[qy,Y.5,BT _ _ _ i hi];by_cases h:g=gp i;·rw[h];exact aa _ _ _
 ·refine(ag _ _ (M.off _ _ hg (oa i) h)).trans ((S _ _ (Y.3 g hg)).trans (congrArg Mc (m3 hg λj a hj=>(if_neg λz=>h ?_).symm)));rw[<-hj,z]
noncomputable def SG(J:Sg)(B:MA)(w:Nat->Md)(i:Nat)(τ:Sg):Prop:=∃rs,Ft J B w i τ rs
theorem SG.start(M:MB J B w):SG J B w 0 J:=⟨[],NR.nil _ _,Ch.of Sub.rfl,M.c,rfl,rfl⟩
theorem SG.m(Y:SG J B w i τ):∃v,τ B.m=Mc (Ck B v):=Y.elim λa Y=>⟨_,Y.3 0 (by decide)⟩
theorem SG.sub(Y:SG J B w i τ)(M:MB J B w)(S:Sub τ τ'):SG J B w i τ':=Y.elim λrs Y=>⟨rs,Y.1.ch (Ch.of (P:=W6 B) S) M.hP,Y.2.trans (Ch.of S),λg hg=>S _ _ (Y.3 g hg),Y.4,Y.5⟩
theorem SG.fin(M:MB J B w)(Y:SG J B w 18 τ):∃A,xX J τ B A:=by
 refine ae Y λrs Y=>?_;have n:rs.map (·.2.2)=WL B:=Y.4;obtain z1:=Y.1.rows Y.5 λe he=>Im (mP M.6 M.7 M.8 e.2.2 (by rw[<-n];exact NA he)) rfl;have h:∀j,j<18->mix w rs j=.ref ((Yx rs).ra j):=λj hj=>by show _=MJ (rs.getD j (0,0,0)).1;unfold mix;rw[Mw,MG (by rw[Y.5];exact hj)];rfl
 have np:¬W6 B B.p:=λz=>z.elim (ub M.2 M.1 (by decide)) λz=>z.elim (ub M.2 M.3 (by decide)) (ub M.2 M.4 (by decide));have c:=λg hg=>(Y.3 g hg).trans (congrArg Mc (m3 (v':=λj=>.ref ((Yx rs).ra j)) hg λj hj a=>h j hj));refine⟨_,⟨c 0 (by decide),Y.2.1 _ _ np M.2,c 1 (by decide),c 2 (by decide),M.6,M.7,M.8,λj hj=>?_⟩,z1.1,z1.2.1,z1.2.2,Y.2⟩;rw[<-n];show(rs.getD j (0,0,0)).2.2=_;rw[Mw,Mw,ML];cases rs[j]?<;>rfl
theorem cA(G:Good Z Kg)(hn:3<=n)(M:MB J B w)(i:Nat)(hi:i<18)(Y:SG J B w i τ)(hρ:gf E x=Mc (.ref (obj B (gp i))))(hv:v=((WL B).getD i 0:Nat))(q:∀τ',SG J B w (i+1) τ'->Ch (W6 B) τ τ'->X Z n Q K τ' E st t):ac Z n (.ref 170) [.int v 0] τ λu τ'=>X Z n Q K τ' E (u::st) (.ld x (.XF (nm i) t)):=by subst hv;refine ae Y λrs Y=>?_;refine(qY G hn).Wq (MC _) ?_;intro _ τ' r1;refine bI r1 λr d zq40=>?_;rw[zq40.1];have a1:=zq40.2.1;have a2:=zq40.2.2.1;have S:=zq40.2.2.2.1;have R:=zq40.2.2.2.2;exact jc (gc (S _ _ (Y.3 _ (oa i))) (AV B _ i hi) rfl (q _ ⟨_,Y.add M hi a1 a2 S R⟩ ((Ch.of S).trans (Ch.upd _ (eP B _) _)))) hρ
theorem nU(G:Good Z Kg)(hn:4<=n)(M:MB J B w)(i:Nat)(hi:i=10∨i=14)(Y:SG J B w i τ):ac Z n (.ref 290) [.ref (obj B (gp i))] τ (λu τ'=>u=.none/\SG J B w (i+4) τ'/\Ch (W6 B) τ τ'):=by
 refine ae Y λrs Y=>?_;have X0:qa (W6 B) J τ (obj B (gp i)) (sY B.pb (mix w rs) i) rs:=⟨(Y.3 _ (oa i)).trans (by rcases hi with rfl|rfl<;>rfl),Y.1,Y.2,eP B _,M.hP⟩;refine(jM G hn X0).Wq (MC _) ?_;intro _ τ' r2;obtain⟨rfl,e0,e1,e2,e3,hl,X2,D⟩:=r2;have hm:mix w (rs++[e0]++[e1]++[e2]++[e3])=sR (sR (sR (sR (mix w rs) i (.ref e0.1)) (i+1) (.ref e1.1)) (i+2) (.ref e2.1)) (i+3) (.ref e3.1):=by simp only[qy,MH,Y.5,MV,Pc]
 refine⟨rfl,⟨_,X2.2,X2.3,λg hg=>?_,?_,?_⟩,D.Wq λa e=>e▸eP B _⟩
 ·rw[hm];by_cases h:g=gp i;·rw[h];refine X2.1.trans (congrArg Mc ?_);rcases hi with rfl|rfl<;>exact jV (iL rfl rfl rfl rfl)
  ·refine(D.1 _ _ (M.off _ _ hg (oa i) h) (Y.3 g hg)).trans (congrArg Mc (m3 hg λj c hj=>?_));have b:∀k,k<4->gp (i+k)=gp i:=by rcases hi with rfl|rfl<;>exact iL rfl rfl rfl rfl
   have a:∀k,k<4->j≠i+k:=λk hk z=>h (by rw[<-hj,z];exact(b k hk).symm▸rfl);unfold sR;rw[if_neg (a 3 (by decide)),if_neg (a 2 (by decide)),if_neg (a 1 (by decide)),if_neg (show j≠i from a 0 (by decide))]
 ·simp only[NI,List.cons_append,List.nil_append];rw[Oc,Y.4,hl];rcases hi with rfl|rfl<;>rfl
 ·simp only[MH,Y.5,MV,Pc]
theorem qf(G:Good Z Kg)(hn:0<n){lp:Nat}(hc:lc<=1)(hp:lp<=1)(h:J p=Mc (yP lc lp pb)):ac Z n (.ref 199) [.ref p] J (λu J'=>u=.int ((768*2^(lc+lp):Nat):Int) 0/\J=J'):=by refine run G hn ?_;lk;rw[show((lc:Int)+(lp:Int)).toNat=lc+lp from rfl];exact⟨by simp,rfl⟩
theorem rD(G:Good Z Kg)(hn:6<=n)(M:MB J B w):ac Z n (.ref 318) [.ref B.m] J (λu J'=>u=.none/\∃A,xX J J' B A):=by have hn:=lp hn rfl (b:=5);have np:¬W6 B B.p:=λz=>z.elim (ub M.2 M.1 (by decide)) λz=>z.elim (ub M.2 M.3 (by decide)) (ub M.2 M.4 (by decide));refine run G (by lia) ?_;lk;refine cA G (lq hn rfl) M 0 (by decide) (.start M) rfl rfl λτ Y C=>?_;lk;refine cA G (lq hn rfl) M 1 (by decide) Y rfl rfl λτ Y D=>?_;have C:=C.trans D;lk;refine cA G (lq hn rfl) M 2 (by decide) Y rfl rfl λτ Y D=>?_;have C:=C.trans D;lk;refine cA G (lq hn rfl) M 3 (by decide) Y rfl rfl λτ Y D=>?_;have C:=C.trans D;lk;refine cA G (lq hn rfl) M 4 (by decide) Y rfl rfl λτ Y D=>?_;have C:=C.trans D;lk;refine cA G (lq hn rfl) M 5 (by decide) Y rfl rfl λτ Y D=>?_;have C:=C.trans D;lk;refine cA G (lq hn rfl) M 6 (by decide) Y rfl rfl λτ Y D=>?_;have C:=C.trans D;lk;refine cA G (lq hn rfl) M 7 (by decide) Y rfl rfl λτ Y D=>?_;have C:=C.trans D;lk;refine cA G (lq hn rfl) M 8 (by decide) Y rfl rfl λτ Y D=>?_;have C:=C.trans D;refine ae Y.m λv hm=>?_;have hp:=C.1 _ _ np M.2;lk;refine(qf G (lq hn rfl) M.6 M.7 hp).k01 ?_;lk;refine cA G (lq hn rfl) M 9 (by decide) Y rfl rfl λτ Y D=>?_;refine ae Y.m λv hm=>?_;have hl:τ B.l1=_:=Y.choose_spec.3 1 (by decide);lk;refine(nU G (lq hn rfl) M 10 (.inl rfl) Y).Wr λτ' r3=>?_;have Y:=r3.1;have D:=r3.2;refine ae Y.m λv hm=>?_;have hl:τ' B.l2=_:=Y.choose_spec.3 2 (by decide);lk;refine(nU G (lq hn rfl) M 14 (.inr rfl) Y).Wr λτ'' r4=>?_;have Y:=r4.1;have D:=r4.2;lk;exact⟨rfl,Y.fin M⟩
end
theorem hG{c d:Cell}(h:J a=Mc c)(h':J b=Mc d)(n:c≠d):a≠b:=λz=>by subst z;rw[h] at h';exact n (MI h')
theorem aG{c:Cell}(_:Sub J (upd J t c)):upd J t c t=Mc c:=aa _ _ _
section
variable{k:T}{st:List Md}
theorem nw{c:Cell}(q:∀x τ,J x=Mq->Sub J τ->τ x=Mc c->X Z n Q K τ E (.ref x::st) k):∀x,J x=Mq->X Z n Q K (upd J x c) E (.ref x::st) k:=
 λx hx=>q x _ hx (Wt hx _) (aa _ _ _)
end
theorem aj.WL(M:aj H A B):∀j,j<18->A.len j=(WL B).getD j 0:=M.8
theorem i9(M:aj H A B)(j:Nat):(WL B).getD j 0<=100000:=by
 rw[Mw];cases h:(WL B)[j]? with
 |none=>decide
 |some x=>exact Np (mP M.5 M.6 M.7 x (MO h))
theorem tE(M:aj J A B)(R:aD J A C)(h:Ch (W6 B) J J'):aD J' A C:=λj hj=>(R j hj).keep λa c ha e=>h.1 a c (λz=>by
 have n1:=(R j hj).neI M.1 (by decide);have n2:=(R j hj).neI M.3 (by decide);have n3:=(R j hj).neI M.4 (by decide);rcases ha with rfl|rfl<;>rcases z with z|z|z
 ·exact n1.1 z
 ·exact n2.1 z
 ·exact n3.1 z
 ·exact n1.2 z
 ·exact n2.2 z
 ·exact n3.2 z) e
theorem bb(G:Good Z Kg)(hn:3<=n)(M:aj J A B)(ne:B.l1≠B.l2)(R:aD J A C)(i:Nat)(hi:i<18)(Y:SG J B (wa A) i τ){t:T}{st:List Md}(hρ:gf E x=Mc (.ref (obj B (gp i))))(q:∀τ',SG J B (wa A) (i+1) τ'->Ch (W6 B) τ τ'->X Z n Q K τ' E st t):X Z n Q K τ E st (.cst (.ref 1134) (.ld x (.fld (nm i) (.call 1 (.ld x (.XF (nm i) t)))))):=by
 refine ae Y λrs Y=>?_;have e:mix (wa A) rs i=.ref (A.ra i):=by unfold mix;rw[MZ (Oq Y.5)];rfl
 refine aB (jc (AK (x_call ((pN G hn (M.8 i hi▸tE M R Y.2 i hi) (i9 M i)).Wq (MC _) ?_)) (Y.3 _ (oa i)) ((CL B _ i hi).trans (congrArg Mc e))) hρ);intro _ τ' r1;refine bI r1 λr d z2=>?_;rw[z2.1];exact jc (gc (z2.2.2.2.1 _ _ (Y.3 _ (oa i))) (AV B _ i hi) rfl (q _ ⟨_,Y.add (M.mb ne) hi z2.2.1 z2.2.2.1 z2.2.2.2.1 z2.2.2.2.2⟩ ((Ch.of z2.2.2.2.1).trans (Ch.upd _ (eP B _) _)))) hρ
theorem je(G:Good Z Kg)(hn:5<=n)(M:aj J A B)(ne:B.l1≠B.l2)(R:aD J A C):ac Z n (.ref 1141) [.ref B.m] J (λu J'=>u=.ref B.m/\∃A,xX J J' B A):=by
 have e:3<=n-1:=lp hn rfl;refine run G (lq hn rfl) (Fo Mh 0 (?_:X _ _ _ _ _ _ _ _));refine bb G e M ne R 0 (by decide) (.start (M.mb ne)) rfl λτ Y a=>?_;refine bb G e M ne R 1 (by decide) Y rfl λτ Y a=>?_;refine bb G e M ne R 2 (by decide) Y rfl λτ Y a=>?_;refine bb G e M ne R 3 (by decide) Y rfl λτ Y a=>?_;refine bb G e M ne R 4 (by decide) Y rfl λτ Y a=>?_;refine bb G e M ne R 5 (by decide) Y rfl λτ Y a=>?_;refine bb G e M ne R 6 (by decide) Y rfl λτ Y a=>?_;refine bb G e M ne R 7 (by decide) Y rfl λτ Y a=>?_;refine bb G e M ne R 8 (by decide) Y rfl λτ Y a=>?_;refine bb G e M ne R 9 (by decide) Y rfl λτ Y a=>?_;refine ae Y.m λv hm=>?_;lk;refine nw λt τ ht T h=>?_;have nt:¬W6 B t:=λz=>by
  refine ae Y λrs Y=>?_;rcases z with z|z|z
  ·have:=Y.3 0 (by decide);rw[<-show t=obj B 0 from z,ht] at this;cases this
  ·have:=Y.3 1 (by decide);rw[<-show t=obj B 1 from z,ht] at this;cases this
  ·have:=Y.3 2 (by decide);rw[<-show t=obj B 2 from z,ht] at this;cases this
 refine oq h λQ1 hq1=>eQ ?_;refine bb G e M ne R 10 (by decide) (Y.sub (M.mb ne) T) rfl λτ Y C=>?_;have h:=C.1 _ _ nt h;refine bb G e M ne R 11 (by decide) Y rfl λτ Y C=>?_;have h:=C.1 _ _ nt h;refine bb G e M ne R 12 (by decide) Y rfl λτ Y C=>?_;have h:=C.1 _ _ nt h;refine bb G e M ne R 13 (by decide) Y rfl λτ Y C=>?_;have h:=C.1 _ _ nt h;refine fu (hq1 h λQ2 hq2=>eQ ?_);refine bb G e M ne R 14 (by decide) Y rfl λτ Y C=>?_;have h:=C.1 _ _ nt h;refine bb G e M ne R 15 (by decide) Y rfl λτ Y C=>?_;have h:=C.1 _ _ nt h;refine bb G e M ne R 16 (by decide) Y rfl λτ Y C=>?_;have h:=C.1 _ _ nt h;refine bb G e M ne R 17 (by decide) Y rfl λτ Y C=>?_;have h:=C.1 _ _ nt h;refine fu (hq2 h ?_);lk;exact⟨rfl,Y.fin (M.mb ne)⟩
theorem cF(G:Good Z Kg)(hn:0<n)(M:aj J A B):ac Z n (.ref 1127) [.ref B.m] J (λu J'=>∃x,u=.ref x/\J x=Mq/\Sub J J'/\J' x=Mc (.list ((Oh 18).map λj=>.ref (A.ra j)))):=by have Mm:=M.1;refine run G hn ?_;lk;refine nw λx τ hx T x1=>?_;have Mm:=T _ _ Mm;lk;refine nw λy τ1 hy S y1=>d5 (S _ _ x1) y1 (MF rfl) (nw λz τ2 hz S' z1=>?_);have T:=(T.trans S).trans S';have Mm:=T _ _ M.1;lk;refine nw λt τ3 ht S t1=>?_;have T:=T.trans S;have z1:=S _ _ z1;have L1:=T _ _ M.3;refine oq t1 λQ1 hq1=>?_;lk;refine nw λy τ4 hy S y1=>d5 (S _ _ z1) y1 (MF rfl) (nw λz τ5 hz S' z1=>eQ (fu (hq1 (S' _ _ (S _ _ t1)) λQ2 hq2=>?_)));have T:=(T.trans S).trans S';have t1:=S' _ _ (S _ _ t1);have L2:=T _ _ M.4;lk;refine nw λy τ6 hy S y1=>d5 (S _ _ z1) y1 (MF rfl) (nw λz τ7 hz S' z1=>eQ (fu (hq2 (S' _ _ (S _ _ t1)) ?_)));lk;exact⟨z,rfl,T.none (S.none hz),(T.trans S).trans S',z1⟩
theorem kE(G:Good Z Kg)(hn:6<=n)(hv:v=2^pb):ac Z n (.ref 293) [.int v 0] J (λu J'=>bM λl w=>u=.ref l/\J l=Mq/\Sub J J'/\J' l=Mc (sY pb w 0)):=by subst hv;refine bz G (lq hn rfl) dZ λx hx=>run G (yw hn rfl) ?_;lk;have Y:qa (λa=>a=x) (upd J x (X5 (.Wu 293 []) LY (.int (2^pb) 0))) _ x _ []:=⟨aa _ _ _,NR.nil ..,Ch.of Sub.rfl,rfl,λb hb=>by rw[hb,aa];exact nofun⟩;refine bC Y rfl rfl λb v0 Y b=>?_;lk;refine bC Y rfl rfl λb v1 Y b=>?_;lk;refine bC Y rfl rfl λb v2 Y b=>?_;lk;refine bC Y rfl rfl λτ v3 Y b=>?_;have Y:qa _ _ τ x (sY pb (λj=>[v0,v1,v2,v3].getD j .none) 0) []:=Y;have h:=Y.1;lk;refine(jM (n:=n-1-1) G (aS 0x1092114200029944133e8ed44856951fac06627403311 [] [_,_,_] hn (Me (af 0x4200013b01988d0230f [] [_] hn)) (Me (ao 0x845080007aa2099f472b01989d0230f [] [_,_] hn (Me (af 0x4200013b01988d0230f [] [_] hn))))) Y).Wr λτ r1=>?_;refine vx r1 λe0 e1 e2 e3 z3=>?_;lk;exact⟨rfl,x,_,rfl,hx,z3.2.1.3.sub (Wt hx _) (by rintro _ rfl;exact hx),z3.2.1.1⟩
inductive abn(J J':Sg)(p:Mk)(lc lp pb:Nat)(A:Rows)(B:MA):Prop where
 |mk (eq:B.p=p/\B.lc=lc/\B.lp=lp/\B.pb=pb)
  (ne:B.l1≠B.l2)
  (sub:Sub J J')
  (mod:aj J' A B)
  (rows:aD J' A (λb b=>1024))
  (apt:A.Apt)
  (new:∀j,j<18->J (A.ra j)=Mq/\J (A.da j)=Mq)
  (nm:∀a,W6 B a->J a=Mq)
theorem cE(G:Good Z Kg)(hn:9<=n){lp:Nat}(hc:lc<=1)(hp:lp<=1)(hb:pb<=4)(Pp:J p=Mc (yP lc lp pb)):ac Z n (.ref 349) [.ref p] J (λu J'=>bM λA B=>u=.ref B.m/\abn J J' p lc lp pb A B):=by
 have e:(1:Int)*2^(pb:Int).toNat=2^pb:=by rw[MN,Py]
 refine bz G (lq hn rfl) iG λx hx=>run G (yw hn rfl) ?_;lk;have S0:Sub J (upd J x (X5 (.Wu 349 []) Jm (.ref p))):=Wt hx _;have Y:qa (λa=>a=x) (upd J x (X5 (.Wu 349 []) Jm (.ref p))) _ x _ []:=⟨aa _ _ _,NR.nil ..,Ch.of Sub.rfl,rfl,λb hb=>by rw[hb,aa];exact nofun⟩;have hP:∀a,a=x->J a=none:=by rintro _ rfl;exact hx
 generalize upd J x (X5 (.Wu 349 []) Jm (.ref p))=J0 at S0 Y ⊢;have hn':6<=n-1-1:=(aS 0x2124228400053288267d1da890ad2a3f5207629603311 [] [_,_,_] hn (Me (af 0x8400027481d8950230f [] [_] hn)) (Me (ao 0x108a10000f544133e8e5481d8a50230f [] [_,_] hn (Me (af 0x8400027481d8950230f [] [_] hn)))));refine bC Y rfl rfl λb v0 Y b=>?_;lk;refine bC Y rfl rfl λb v1 Y b=>?_;lk;refine bC Y rfl rfl λb v2 Y b=>?_;lk;refine bC Y rfl rfl λb v3 Y b=>?_;lk;refine bC Y rfl rfl λb v4 Y b=>?_;lk;refine bC Y rfl rfl λb v5 Y b=>?_;lk;refine bC Y rfl rfl λb v6 Y b=>?_;lk;refine bC Y rfl rfl λb v7 Y b=>?_;lk;refine bC Y rfl rfl λb v8 Y b=>?_;lk;refine bC Y rfl rfl λτ v9 Y b=>?_;have Pq:=Y.3.sub S0 hP _ _ Pp;lk;rw[e];refine(kE (n:=n-1-1) G hn' rfl).Wq (MC _) ?_;intro _ τ0 r2;refine bI r2 λl1 u1 z2=>?_;rw[z2.1];have hl1:=z2.2.1;have L1:=z2.2.2.2;have n1:l1≠x:=λz=>by rw[z,Y.1] at hl1;cases hl1
 have dl1:=S0.none (Y.3.2 _ hl1);refine te Y z2.2.2.1 rfl rfl rfl λτ Y k=>?_;have Pq:=Y.3.sub S0 hP _ _ Pp;have L1:=k _ _ n1 L1;lk;rw[e];refine(kE (n:=n-1-1) G hn' rfl).Wq (MC _) ?_;intro _ τ1 r3;refine bI r3 λl2 u2 z1=>?_;rw[z1.1];have hl2:=z1.2.1;have n2:l2≠x:=Ek hl2 Y.1;have n12:l1≠l2:=λz=>by rw[<-z,L1] at hl2;cases hl2
 have dl2:=S0.none (Y.3.2 _ hl2);refine te Y z1.2.2.1 rfl rfl rfl λτ Y k=>?_;have Sx:=Y.3.sub S0 hP;have M:MB _ ⟨x,p,l1,l2,lc,lp,pb⟩ (λj=>if j<10 then[v0,v1,v2,v3,v4,v5,v6,v7,v8,v9].getD j .none else if j<14 then u1 (j-10) else u2 (j-14)):=
  ⟨Y.1,Sx _ _ Pp,k _ _ n1 (z1.2.2.1 _ _ L1),k _ _ n2 z1.2.2.2,n12,hc,hp,hb⟩
 have h:=Y.1;lk;refine(rD (n:=n-1-1) G hn' M).Wr λτ2 r4=>?_;refine ae r4 λA R=>?_;have nm:∀a,W6 ⟨x,p,l1,l2,lc,lp,pb⟩ a->J a=none:=rQ hx dl1 dl2;lk;exact⟨rfl,A,⟨x,p,l1,l2,lc,lp,pb⟩,rfl,⟨rfl,rfl,rfl,rfl⟩,n12,R.5.sub Sx nm,R.1,R.2,R.3,λj hj=>⟨Sx.none (R.4 j hj).1,Sx.none (R.4 j hj).2⟩,nm⟩
theorem pV(G:Good Z Kg)(hn:2<=n){lp:Nat}(hc:lc<=1)(hp:lp<=1)(hb:pb<=4):ac Z n (.ref 209) [.int lc 0,.int lp 0,.int pb 0] J (λu J'=>∃p,u=.ref p/\J p=Mq/\Sub J J'/\J' p=Mc (yP lc lp pb)):=by
 refine bz G (lq hn rfl) jw λx hx=>?_;refine run G (Ov hn) ?_;have S0:=Wt hx (.Wu 209 []);have x0:=aG S0;generalize upd J x (.Wu 209 [])=J0 at*;lk;intro a ha;have S1:=Wt ha (.tup [.int lc 0,.int 8 0]);have a0:=aG S1;have x0:=S1 _ _ x0;generalize upd J0 a _=J1 at*;lk;intro b hb';have S2:=Wt hb' (.tup [.int lp 0,.int 4 0]);have b0:=aG S2;have a0:=S2 _ _ a0;have x0:=S2 _ _ x0;generalize upd J1 b _=J2 at*;lk;intro c hc';have S3:=Wt hc' (.tup [.int pb 0,.int 4 0]);have c0:=aG S3;have b0:=S3 _ _ b0;have a0:=S3 _ _ a0;have x0:=S3 _ _ x0;generalize upd J2 c _=J3 at*;lk;intro d hd;have S4:=Wt hd (.tup [.ref a,.ref b,.ref c]);have d0:=aG S4;have c0:=S4 _ _ c0;have b0:=S4 _ _ b0;have a0:=S4 _ _ a0;have x0:=S4 _ _ x0;generalize upd J3 d _=J4 at*;refine rJ [(JL,.ref x),(27747,.int lc 0),(27760,.int lp 0),(28770,.int pb 0)] d0 rfl ?_ ?_;·intro j u Q' hu hnext;refine ga (EV (P:=λu=>oz λt i m=>u=.ref t/\J4 t=Mc (.tup [.int i 0,.int m 0])/\0<=i/\i<=m) ⟨a,lc,8,rfl,a0,Ms _,FY hc rfl⟩ ⟨b,lp,4,rfl,b0,Ms _,FY hp rfl⟩ ⟨c,pb,4,rfl,c0,Ms _,nA hb⟩ hu) λt i m z9=>?_;have ht:=z9.2.1;have i0:=z9.2.2.1;have i1:=z9.2.2.2;rw[z9.1];refine dQ ?_ ht rfl;lk;refine ir (r:=Mh) ?_ .int;lk;refine jL (λf=>?_) (λh=>absurd i0 h);lk;refine wZ (λf=>?_) (λh=>absurd i1 h);lk;exact hnext rfl
 ·lk;have hs:Sub J J4:=λa c e=>S4 _ _ (S3 _ _ (S2 _ _ (S1 _ _ (S0 _ _ e))));exact⟨rfl,x,rfl,hx,hs.upd hx _,aa _ _ _⟩
section
variable{st:List Md}{k body:T}{c:Nat}
end
noncomputable def aM(J:Sg)(x:Mk)(ls:List (List Md)):Prop:=∃as:List Mk,J x=Mc (.list (as.map MJ))/\as.length=ls.length/\∀(j:Nat)(l:List Md),ls[j]?=Mc l->∃a,as[j]?=Mc a/\J a=Mc (.list l)
variable{x:Mk}{ls:List (List Md)}
theorem aM.sub(h:aM J x ls)(S:Sub J J'):aM J' x ls:=by refine ae h λas z13=>?_;exact⟨as,S _ _ z13.1,z13.2.1,λj l e=>by refine ae (z13.2.2 j l e) λa z12=>?_;exact⟨a,z12.1,S _ _ z12.2⟩⟩
noncomputable def aU(B:MA)(C:Nat->Int->Int):List (List Md):=(Oh 18).map λj=>WZ ((WL B).getD j 0) (C j)
theorem bR(h:j<18):(aU B C)[j]?=Mc (WZ ((WL B).getD j 0) (C j)):=by unfold aU;rw[ML,Nu h];rfl
theorem bp(B:MA)(C:Nat->Int->Int):(aU B C).length=18:=by unfold aU;rw[Mt,NJ]
theorem qW{J:Sg}{d:Nat}:∀(xs ys:List Md),xs.length=ys.length->(∀(j:Nat)(v w:Md),xs[j]?=Mc v->ys[j]?=Mc w->ey J d v w)->∀p∈xs.zip ys,ey J d p.1 p.2
 |[],_,_,_,p,hp=>by cases hp
 |x::xs,[],h,_,p,hp=>by cases hp
 |x::xs,y::ys,h,hs,p,hp=>by
  rw[OH] at hp;refine Pj (MS.mp hp) (λzz=>?_) (λhp=>?_);rw[zz];·exact hs 0 x y rfl rfl
  ·exact qW xs ys (by simpa using h) (λj v w e e'=>hs (j+1) v w e e') p hp
theorem eT{ys:List Md}(h1:J a=Mc (.list xs))(h2:J b=Mc (.list ys))(hl:xs.length=ys.length)(h:∀(j:Nat)(v w:Md),xs[j]?=Mc v->ys[j]?=Mc w->ey J d v w):ey J (d+1) (.ref a) (.ref b):=by exact .list h1 h2 hl (qW xs ys hl h)
theorem ur{len:Nat}(h1:J a=Mc (.list (WZ len f)))(h2:J b=Mc (.list (WZ len f))):ey J (d+2) (.ref a) (.ref b):=by refine eT h1 h2 rfl λj v w e e'=>?_;rw[e] at e';obtain rfl:=MI e';unfold WZ at e;rw[ML] at e;refine ae (MP.mp e) λi z11=>?_;obtain⟨_,rfl⟩:=z11;exact .int
theorem lJ(h1:aM J x (aU B C))(h2:aM J y (aU B C)):ey J (d+3) (.ref x) (.ref y):=by
 refine ae h1 λas z10=>?_;have a2:=z10.2.1;refine ae h2 λbs z9=>?_;have b2:=z9.2.1;rw[bp] at a2 b2;refine eT z10.1 z9.1 (by rw[Mt,Mt];exact ao 0x422842003d08e10000f48509456420a89d4150f [] [_,_] a2 b2) λj v w e e'=>?_;have hj:j<18:=by have:=(MK.mp e).1;rw[Mt] at this;exact ao 0x108a10000f54140f90a128ac841413 [] [_,_] a2 this
 refine ae (z10.2.2 j _ (bR hj)) λa z8=>?_;refine ae (z9.2.2 j _ (bR hj)) λb z7=>?_;rw[ML,z8.1] at e;rw[ML,z7.1] at e';obtain rfl:=MI e;obtain rfl:=MI e';exact ur z8.2 z7.2
noncomputable def bn(A:Rows):List Value:=(Oh 18).map λj=>.ref (A.ra j)
theorem gJ(A:Rows)(h:j<18):(bn A)[j]?=Mc (.ref (A.ra j)):=by unfold bn;rw[ML,Nu h];rfl
theorem bc(A:Rows):(bn A).length=18:=by unfold bn;rw[Mt,NJ]
theorem iR(G:Good Z Kg)(hn:3<=n){st:List Md}{k:T}(ha:J a=Mc (.list (bn A)))(hlen:∀j,j<18->A.len j=(WL B).getD j 0)(hb:∀j,(WL B).getD j 0<=100000)(R:aD J A C)(q:∀x J',J x=Mq->Sub J J'->aM J' x (aU B C)->X Z n Q K J' ρ (.ref x::st) k):X Z n Q K J ρ (.ref a::st) (.Xn Mg Jq (.cst (.ref 1148)<|.ld Jq<|.call 1<|.yld) k):=by
 refine fc (xs:=bn A) (λj ws J'=>j<=18/\Sub J J'/\∃as:List Mk,ws=as.map MJ/\as.length=j/\∀(i:Nat),i<j->∃b,as[i]?=Mc b/\J' b=Mc (.list (WZ ((WL B).getD i 0) (C i)))) ⟨Nb _,Sub.rfl,[],rfl,rfl,nofun⟩ (λj ws J' h=>h.2.1 _ _ ha) (by rw[bc];decide) ?_ ?_
 ·intro j v ws J' Q' hv I0 hval _;refine ae I0.2.2 λas z6=>?_;obtain rfl:=z6.1;have hlt:j<18:=by have:=(MK.mp hv).1;rw[bc] at this;exact this
  rw[gJ A hlt] at hv;obtain rfl:=MI hv;have Rj:=(R j hlt).sub I0.2.1;rw[hlen j hlt] at Rj;lk;refine(gq (n:=n) G hn Rj (hb j)).Wq (MC _) ?_;intro _ τ r1;refine ae r1 λx z5=>?_;rw[z5.1];lk;refine hval _ _ _ ⟨hlt,I0.2.1.trans z5.2.2.1,as++[x],by simp,by simp[z6.2.1],λi hi=>?_⟩;by_cases hij:i<j;·refine ae (z6.2.2 i hij) λb z4=>?_;exact⟨b,by rw[M7 (by exact ao KC [] [_,_,_] z6.2.1 hij)];exact z4.1,z5.2.2.1 _ _ z4.2⟩
  ·obtain rfl:i=j:=ao Lc [] [_,_] hi hij;exact⟨x,by rw[MY (Oq z6.2.1),z6.2.1,Nq];rfl,z5.2.2.2⟩
 ·intro ws J' x I0 hx;refine ae I0.2.2 λas z3=>?_;rw[z3.1];have hal:=z3.2.1;have hat:=z3.2.2;rw[bc] at hal hat;have N:=Wt hx (.list (as.map MJ));refine q x _ (I0.2.1.none hx) (I0.2.1.trans N) ⟨as,aa _ _ _,by rw[hal,bp],λj l hl=>?_⟩;have hlt:j<18:=by have:=(MK.mp hl).1;rw[bp] at this;exact this
  rw[bR hlt] at hl;rw[<-MI hl];refine ae (hat j hlt) λb z2=>?_;exact⟨b,z2.1,N _ _ z2.2⟩
theorem cO(G:Good Z Kg)(hn:5<=n)(M:aj J A B)(R:aD J A C):ac Z n (.ref 1153) [.ref B.m] J (λu J'=>∃x,u=.ref x/\J x=Mq/\Sub J J'/\aM J' x (aU B C)):=by refine run G (lq hn rfl) ?_;lk;refine(cF (n:=n-1) G (lp hn rfl) M).Wq (MC _) ?_;intro _ τ r2;refine ae r2 λa z1=>?_;rw[z1.1];refine iR G (lp hn rfl) (B:=B) (C:=C) z1.2.2.2 M.WL (i9 M) (λj hj=>(R j hj).sub z1.2.2.1) λx J' hx S' L=>?_;lk;exact⟨x,rfl,z1.2.2.1.none hx,z1.2.2.1.trans S',L⟩
section
variable{st:List Md}{k:T}{i j:Int}{t:Nat}
end
theorem ZZ{i:Int}(h:i.natAbs<2^k):OT i<=k+1:=by
 unfold OT;split;·exact Mr _ _
 ·rename_i q;have hb:i.natAbs≠0:=λz=>q (by simpa using z);have:=(UK hb).mpr h;exact NY this
noncomputable def nv(J:Sg)(ja:Mk)(k:Int):Prop:=oz λg m t=>J ja=Mc (.list [.int g 0,.int m 0,.int t 0])/\0<=g/\0<=m/\m<10000/\0<=t/\t<=k
variable{k:Int}{ja:Mk}
theorem nv.le{l:Int}(h:nv J ja k)(hl:k<=l):nv J ja l:=by refine Ds h λg m t e h1 h2 h3 h4 h5=>?_;exact⟨g,m,t,e,h1,h2,h3,h4,OU h5 hl⟩
theorem nv.sub(h:nv J ja k)(S:Sub J J'):nv J' ja k:=by refine ga h λg m t z6=>?_;exact⟨g,m,t,S _ _ z6.1,z6.2⟩
variable{l:List Int}{sc:Mk}
theorem Do:(10:Int)^Pa 18=1000000000000000000:=by decide
theorem HG:(10:Int)^Pa 40=10000000000000000000000000000000000000000:=by decide
theorem As{m:Nat}(h:m<=n):(2:Int)^m<=2^n:=by
 have:=Pg (n:=2) (by decide) h;have e1:((2^m:Nat):Int)=2^m:=by simp
 have e2:((2^n:Nat):Int)=2^n:=by simp
 exact nA this
theorem xM{g r:Int}(hg:g<2^(133*j))(hr:r<10000000000000000000000000000000000000000):g*10000000000000000000000000000000000000000+r<2^(133*(j+1)):=by have e:(2:Int)^(133*(j+1))=2^(133*j)*2^133:=Ti ..;have h1:(2:Int)^(133*j)*10000000000000000000000000000000000000000<=2^(133*j)*2^133:=Nr (by decide) (Nl (NU (by decide)));rw[e];generalize(2:Int)^(133*j)=x at*;lia
theorem sV(G:Good Z Kg)(hn:0<n)(hl:l.length<=100000)(h:Z.kl sc=Mc (bt l)):ac Z n (.ref 1106) [.ref sc] J (λu J'=>∃ja,u=.ref ja/\J ja=Mq/\Sub J J'/\nv J' ja 0):=by
 have hll:(bt l).length=l.length:=by unfold bt;rw[Mt]
 refine run G hn ?_;lk;intro a ha;have S1:=Wt ha (.tup [.int 0 0,.int 25 0]);refine dQ ?_ (aa _ _ _) rfl;lk;refine Br h (i:=0) (j:=24) rfl (ug hll hl rfl) λb hb=>?_;have S2:=S1.trans (Wt hb (.list (((bt l).take 24).drop 0)));have b0:=aG (Wt hb (.list (((bt l).take 24).drop 0)));generalize upd _ b _=J2 at*;have hx:(((bt l).take 24).drop 0).length<=24:=by rw[SU,OI];exact af 0x1080004f020989e041313 [] [_] (OR _ _)
 refine eS (xs:=((bt l).take 24).drop 0) (λg m (_:Unit)=>[(444300878196,.int g 0),(469920933220,.int m 0)]) (λj g m d J'=>J'=J2/\0<=g/\g<2^(133*j)/\0<=m/\m<10000) 0 25 () ⟨rfl,by decide,by decide,by decide,by decide⟩ (by rfl) (λd d d d d h=>by rw[h.1];exact b0) ?_ ?_
 ·intro j u g m _ J' Q' hu I0 hnext _;rw[I0.1];have q0:=I0.2.1;have q1:=I0.2.2.1;have m0:=I0.2.2.2.1;have m1:=I0.2.2.2.2;obtain⟨c,rfl⟩:∃c:Int,u=.int c 0:=by have:=MO hu;rw[SU] at this;have:=RN this;unfold bt at this;refine ae (ND.mp this) λc z3=>?_;obtain⟨_,rfl⟩:=z3;exact⟨c,rfl⟩
  have hj:j<24:=by have:=(MK.mp hu).1;exact Nj this hx
  lk;rw[Do];refine xh (λhc=>?_) (λhc=>?_)
  ·lk;rw[HG];have hg:IntMulOk g 10000000000000000000000000000000000000000:=IntMulOk.of_bits (Nj (ZZ (k:=133*j) (by
    have e2:((2^(133*j):Nat):Int)=2^(133*j):=by simp
    lia)) (by show _<=1048576;exact af 0x10a80000d60414138000008a14171671b44 [] [_] hj)) (Nj (ZZ (k:=133) (by decide)) (by decide))
   refine EP ?_ hg;lk;rw[Do];lk;have:(((c.natAbs:Int)-1000000000000000000)%10000000000000000000000000000000000000000)<10000000000000000000000000000000000000000:=Ni _ (by decide);have h2:0<=(((c.natAbs:Int)-1000000000000000000)%10000000000000000000000000000000000000000):=Nv _ (by decide);lk;rw[HG];lk;refine hnext _ m () ⟨rfl,?_,xM q1 this,m0,m1⟩ rfl;lia
  ·lk;refine tV ?_;lk;refine hnext g _ () ⟨rfl,q0,?_,Nv _ (by decide),?_⟩ rfl;·refine PI q1 (As (Of _ _))
   ·have:=Ni (m*31+2*(c.natAbs:Int)+(if yn .lt c 0=Mh then 1 else 0)) (b:=9973) (by decide);exact oV this rfl
 ·intro g m _ J' I0;rw[I0.1];have q0:=I0.2.1;have q1:=I0.2.2.1;have m0:=I0.2.2.2.1;have m1:=I0.2.2.2.2;lk;intro x hx;lk;exact⟨x,rfl,S2.none hx,S2.trans (Wt hx _),g,m,0,aa _ _ _,q0,m0,m1,by decide,by decide⟩
theorem aF(G:Good Z Kg)(hn:0<n){many:Int}(Lz:nv J ja k)(hk:k<=100000)(m0:0<many)(m1:many.natAbs.log2<9000):ac Z n (.ref 1113) [.ref ja,.int many 0] J (λu J'=>∃r,u=.int r 0/\0<=r/\r<many/\nv J' ja (k+1)/\Ch (λa=>a=ja) J J'):=by
 refine Ds Lz λg m t e g0 mm0 mm1 t0 t1=>?_;refine run G hn ?_;lk;refine av e (by decide) (by decide) rfl ?_;lk;refine Y5 e (by decide) (by show(2:Int)<3;decide) (by show 3<=1000000;decide) ?_;have C1:=Ch.upd (P:=λa=>a=ja) J rfl (.list ([.int g 0,.int m 0,.int t 0].set (Pa 2) (.int (t+1) 0)));have e1:_=Mc (Cell.list [.int g 0,.int m 0,.int (t+1) 0]):=aa J ja (.list ([.int g 0,.int m 0,.int t 0].set (Pa 2) (.int (t+1) 0)));generalize upd J ja _=J1 at*;lk;refine av e1 (by decide) (by decide) rfl ?_;refine aB (nG (λhg=>?_) (λhg=>?_));·lk;refine av e1 (by decide) (by decide) rfl ?_;lk;refine av e1 (by decide) (by decide) rfl ?_;lk;refine Y5 e1 (by decide) (by show(0:Int)<3;decide) (by show 3<=1000000;decide) ?_;lk;exact⟨_,rfl,Nv _ (λzz=>fb 0x422840003d0242e0a0a [_] [] zz m0),Ni _ m0,⟨g/many,m,t+1,aa _ _ _,Oa g0 (Nl m0),mm0,mm1,CM t0 rfl,af 0x1080004e6080e8911c4167028 [_,_] [] t1⟩,C1.trans (Ch.upd (P:=λa=>a=ja) J1 rfl _)⟩
 ·lk;refine av e1 (by decide) (by decide) rfl ?_;lk;refine av e1 (by decide) (by decide) rfl ?_;lk;refine av e1 (by decide) (by decide) rfl ?_;lk;refine av e1 (by decide) (by decide) rfl ?_;lk;exact⟨_,rfl,Nv _ (λzz=>fb 0x422840003d0242e0a0a [_] [] zz m0),Ni _ m0,⟨g,m,t+1,e1,g0,mm0,mm1,CM t0 rfl,af 0x1080004e6080e8911c4167028 [_,_] [] t1⟩,C1⟩
noncomputable def sX:LS->List aH->LS
 |v,[]=>v
 |v,p::r=>sX (p.next v) r
theorem mq:∀(ps:List aH)(v:LS)(p:aH),sX v (ps++[p])=p.next (sX v ps)
 |[],_,_=>rfl
 |q::r,v,p=>mq r (q.next v) p
theorem km{o:Array UInt8}:∀(ps:List aH)(v:LS)(p:aH),aX o v (ps++[p])↔aX o v ps/\p.X8 o (sX v ps)
 |[],v,p=>⟨λh=>⟨trivial,h.1⟩,λh=>⟨h.2,trivial⟩⟩
 |q::r,v,p=>by show(q.X8 o v/\aX o (q.next v) (r++[p]))↔(q.X8 o v/\aX o (q.next v) r)/\_;rw[km r (q.next v) p,qG];rfl
theorem mr{o:Array UInt8}:∀(ps:List aH)(v:LS)(p:aH),bu o v ((ps++[p]).map Mc)=bu o v (ps.map Mc)++[io o (sX v ps) (Mc p)]
 |[],_,_=>rfl
 |q::r,v,p=>congrArg (io o v (Mc q)::·) (mr r (q.next v) p)
variable{w:List UInt8}
theorem j7{x:List UInt8}{i:Int}(h0:0<=i)(h1:i<w.length):au (w++x).toArray i=au w.toArray i:=by refine ae (MW h0) λk z5=>?_;obtain rfl:=z5;rw[bW,bW];show(((w++x).getD k 0).toNat:Int)=((w.getD k 0).toNat:Int);rw[Mw,Mw,M7 (vX h1)]
variable{v:LS}
theorem s6{x:List UInt8}{p:aH}(h:p.X8 w.toArray v)(h0:0<=v.pl)(hs:(w++x).length<=1000):p.X8 (w++x).toArray v:=by
 have hf:v.pl+p.len<=w.length:=h.2;refine⟨hs,?_,h.3,h.4,h.5,h.6,λhl j hj=>?_⟩;·show v.pl+p.len<=((w++x).length:Int);rw[MH];exact af 0x431840003d7982ce039504fcc167029 [_,_] [_,_] hf
 ·obtain z4:=h.6 hl;have f:=z4.1;have f':=z4.2;rw[j7 (by lia) (by lia),j7 (by lia) (by lia)];exact h.7 hl j hj
theorem Z1{p:aH}(h:p.X8 o v):1<=p.len:=by
 induction p with
 |lit=>decide
 |mat d sz=>have:=h.3 d sz rfl;show 1<=sz;exact af 0x42000138888230141fcbb0200e [_] [] this
 |rep i sz=>have:=h.4 i sz rfl;show 1<=sz;exact af 0x84200271110460283fe209a1d1f0200e [_] [_] this
 |short=>decide
theorem d7{w x:List UInt8}(hs:(w++x).length<=1000):∀(ps:List aH)(v:LS),0<=v.pl->aX w.toArray v ps->aX (w++x).toArray v ps
 |[],_,_,_=>trivial
 |p::r,v,h0,h=>⟨s6 h.1 h0 hs,d7 hs r (p.next v) (by rw[gZ];have:=Z1 h.1;exact ao KD [_,_] [] h0 this) h.2⟩
theorem kj{w x:List UInt8}:∀(ps:List aH)(v:LS),0<=v.pl->aX w.toArray v ps->bu (w++x).toArray v (ps.map Mc)=bu w.toArray v (ps.map Mc)
 |[],_,_,_=>rfl
 |p::r,v,h0,h=>by
  have ih:=kj (x:=x) r (p.next v) (by rw[gZ];have:=Z1 h.1;exact ao KD [_,_] [] h0 this) h.2;show io _ v (Mc p)::bu _ (p.next v) (r.map Mc)=io _ v (Mc p)::bu _ (p.next v) (r.map Mc);rw[ih];have hf:v.pl+p.len<=w.length:=h.1.2;induction p with
  |lit=>have hf:v.pl+1<=w.length:=hf;show[_,OC (au _ v.pl) 0]::_=[_,OC (au _ v.pl) 0]::_;rw[j7 h0 hf]
  |mat d sz=>rfl
  |rep i sz=>rfl
  |short=>rfl
inductive PS(w:List UInt8)(ps:List aH)(v:LS):Prop where
 |mk(val:aX w.toArray v0 ps)
  (run:sX v0 ps=v)
  (pl:v.pl=w.length)
  (bl:v.back.length=4)
  (bk:∀b∈v.back,1<=b/\(b<=w.length∨b=1))
  (st:w=[]->v.st<7)
  (small:w.length<=25*ps.length)
theorem PS.nil:PS [] [] v0:=⟨trivial,rfl,rfl,rfl,by
 intro b hb;have:b=1:=by simp only[v0,MS,TM,or_false] at hb;lia
 exact⟨af 0x421001388283b0200e [_] [] this,.inr this⟩,λa=>by decide,MC _⟩
theorem PS.b0(h:PS w ps v)(hi:i<=3):1<=v.back.getD i 0/\(w≠[]->v.back.getD i 0<=w.length):=by
 have hl:=h.4;have:v.back.getD i 0∈v.back:=by rw[Mw,MG (by exact ao 0x845080007a0a1289e2098854140f [] [_,_] hi hl)];exact TV _
 obtain z3:=h.5 _ this;have b1:=z3.1;have b2:=z3.2;refine⟨b1,λhw=>?_⟩;have:0<w.length:=U3.mpr hw;lia
theorem PS.lit(h:PS w ps v)(hp:ps.length<=3)(u:UInt8):PS (w++[u]) (ps++[.lit]) (aH.lit.next v)/\bu (w++[u]).toArray v0 ((ps++[aH.lit]).map Mc)=bu w.toArray v0 (ps.map Mc)++[[.str "lit" 0,.int u.toNat 0]]:=by
 have hs:=h.7;have hpl:=h.3;have hll:(w++[u]).length=w.length+1:=by simp
 have hl1:(w++[u]).length<=1000:=aS 0x422843928000b6242b82a3b5904490ac8f142312fa041318 [] [_,_,_] hp hs hll;refine⟨⟨(km ..).mpr ⟨d7 hl1 ps v0 (by decide) h.1,?_⟩,by rw[mq,h.2],?_,h.4,λb hb=>?_,λz=>?_,by rw[hll,MH];show w.length+1<=25*(ps.length+1);exact af 0x1080004eb208904c822847904488267b3a [] [_,_] hs⟩,?_⟩
 ·rw[h.2];refine⟨hl1,?_,nofun,nofun,λa h7=>?_,λz=>absurd rfl z,λz=>absurd rfl z⟩;·show v.pl+1<=((w++[u]).length:Int);exact ao 0x423840003d142382a395e0a11bc416701c [_] [_,_] hpl hll
  ·have hw:w≠[]:=λz=>h7 (h.6 z);have:=h.b0 (i:=0) (by decide);exact⟨this.1,by rw[hpl];exact this.2 hw⟩
 ·show v.pl+1=((w++[u]).length:Int);exact ao 0x108a10800f423840003d142382a395e0a11bc416721c [_] [_,_] hpl hll
 ·obtain z2:=h.5 b hb;have p1:=z2.1;have p2:=z2.2;constructor<;>lia
 ·have:=congrArg VP z;rw[hll] at this;cases this
 ·rw[mr,h.2,kj ps v0 (by decide) h.1];show _++[[_,OC (au _ v.pl) 0]]=_;rw[hpl,bW];show _++[[_,OC (((w++[u]).getD w.length 0).toNat:Int) 0]]=_;rw[Mw,MY (MC _),Nq];rfl
theorem oF:∀(c:Nat)(w:List UInt8)(d:Nat),(bf w d c).length=c
 |0,_,_=>rfl
 |c+1,w,d=>by rw[iT,MV,oF]
theorem j9{a b:List UInt8}(h:i<a.length):(a++b).getD i 0=a.getD i 0:=by rw[Mw,Mw,M7 h]
theorem aak(a:List UInt8)(u:UInt8):(a++[u]).getD a.length 0=u:=by rw[Mw,MY (MC _),Nq];rfl
theorem lV:∀(c:Nat)(w:List UInt8)(d:Nat),1<=d->d<=w.length->∀j,j<c->(w++bf w d c).getD (w.length+j) 0=(w++bf w d c).getD (w.length+j-d) 0
 |0,_,_,_,_,j,hj=>absurd hj (Qy j)
 |c+1,w,d,d0,d1,j,hj=>by
  have e:w++bf w d (c+1)=(w++[w.getD (w.length-d) 0])++bf (w++[w.getD (w.length-d) 0]) d c:=by show w++(_::_)=_;rw[NI];rfl
  rw[e];induction j with
  |zero=>rw[VA];exact((j9 (by rw[MH,Ng];exact MC _)).trans (aak ..)).trans ((j9 (by rw[MH,Ng];exact ao 0x108610000f54a09a14765023128a11c141c [] [_,_,_] d0 (Me d1))).trans (j9 (ao K0 [] [_,_,_] d0 (Me d1)))).symm
  |succ j=>have:=lV c (w++[w.getD (w.length-d) 0]) d d0 (by rw[MH];exact Nj d1 (Of _ _)) j (af 0x42000138a11c4133e14d4140f [] [_,_] hj);rw[MH,Ng] at this;rw[show w.length+(j+1)=w.length+1+j from ck 0x4035104cf71423826e541 [] [_,_]];exact this
theorem PS.aat(h:PS w ps v)(hp:ps.length<=3){p:aH}{c:Nat}(hl:p≠.lit)(hd:p.Zd v=d)(d0:1<=d)(d1:d<=w.length)(hc:p.len=c)(c1:c<=25)(mat:∀d sz,p=.mat d sz->2<=sz/\sz<=273)(rep:∀i sz,p=.rep i sz->i<=3/\2<=sz/\sz<=273)(c0:1<=c)(nb:(p.next v).back.length=4)(nbk:∀b∈(p.next v).back,b∈v.back∨b=d):PS (w++bf w d c) (ps++[p]) (p.next v)/\bu (w++bf w d c).toArray v0 ((ps++[p]).map Mc)=bu w.toArray v0 (ps.map Mc)++[p.vals]:=by
 have hs:=h.7;have hpl:=h.3;have hll:(w++bf w d c).length=w.length+c:=by rw[MH,oF]
 have hl1:(w++bf w d c).length<=1000:=iK 0x108e11421c94000712d0ae0a8f56411342b23c890ac5b142312fa041318 [] [_,_,_,_] hp c1 hs hll;refine⟨⟨(km ..).mpr ⟨d7 hl1 ps v0 (by decide) h.1,?_⟩,by rw[mq,h.2],by rw[gZ,hll];exact ao 0x847084007a11420001ebc141f5e44429504fcc167229 [_,_] [_,_] hc hpl,nb,λb hb=>?_,λz=>?_,by rw[hll,MH];show w.length+c<=25*(ps.length+1);exact ao 0x421840003d2c82241321c8a118ac48579044a8267b3b [] [_,_,_] c1 hs⟩,?_⟩
 ·rw[h.2];refine⟨hl1,?_,mat,rep,λz=>absurd z hl,λa=>by rw[hd];exact aS 0x211c21001e84000275e0a11a8261f408c3f7145e040972a [_] [_,_] d0 d1 hpl,λa j hj=>?_⟩;·show v.pl+p.len<=((w++bf w d c).length:Int);exact aS 0x84b08a100014d4857054765e0a12af22214bcc16701c [_,_] [_,_,_] hc hpl hll
  ·have:=lV c w d d0 d1 j (ao 0x108a10000f6e290faf0508d4140f [_] [_,_] hc hj);rw[hpl,hd,show((w.length:Int)+(j:Int))=((w.length+j:Nat):Int) from rfl,show((w.length+j:Nat):Int)-(d:Int)=((w.length+j-d:Nat):Int) by exact af 0x1080004e108009d413968569d2bd797a827d2b1a34 [] [_,_,_,_] (Me (af 0x219420001ea8261f2a11c131d [] [_,_,_] d1)),bW,bW];exact congrArg (λu:UInt8=>(u.toNat:Int)) this
 ·rcases nbk b hb with hb|rfl;·obtain z1:=h.5 b hb;have p1:=z1.1;have p2:=z1.2;constructor<;>lia
  ·constructor<;>lia
 ·have:=congrArg VP z;rw[hll] at this;have:w.length+c=0:=this;exact CF 0x10ca1142184000692a11a546ea0987d0230f [] [_,_,_] d0 d1 this
 ·rw[mr,h.2,kj ps v0 (by decide) h.1];induction p with
  |lit=>exact absurd rfl hl
  |mat d sz=>rfl
  |rep i sz=>rfl
  |short=>rfl
variable{ds:List (List Md)}
theorem bL.keep(T:bL J x ds)(h:∀a c,(a=x∨∃xs,c=.tup xs)->J a=Mc c->J' a=Mc c):bL J' x ds:=by refine ae T λas z15=>?_;exact⟨as,h _ _ (.inl rfl) z15.1,z15.2.1,λj d e=>by refine ae (z15.2.2 j d e) λa z14=>?_;exact⟨a,z14.1,h _ _ (.inr ⟨_,rfl⟩) z14.2⟩⟩
variable{d:List Md}
theorem bL.Zb(T:bL J x ds)(h:J x=Mc (.list xs))(ht:J t=Mc (.tup d)):bL (upd J x (.list (xs++[.ref t]))) x (ds++[d]):=by
 refine ae T λas z13=>?_;have h1:=z13.1;rw[h] at h1;injection MI h1 with h1;subst h1
 have ne:∀{a c},J a=Mc (.tup c)->a≠x:=λe=>hG e h nofun
 refine⟨as++[t],(aa _ _ _).trans (by simp),by simp[z13.2.1],λj e he=>?_⟩;by_cases hj:j<ds.length;·rw[M7 hj] at he;refine ae (z13.2.2 j e he) λa z12=>?_;exact⟨a,by rw[M7 (by exact ao KC [] [_,_,_] z13.2.1 hj)];exact z12.1,(ag _ _ (ne z12.2)).trans z12.2⟩
 ·have hlt:=(MK.mp he).1;rw[MH,Ng] at hlt;obtain rfl:j=ds.length:=ao 0x4200013842002714238283950530954150f [] [_,_] hj hlt;rw[MY (MC _),Nq] at he;obtain rfl:d=e:=MI he;exact⟨t,by rw[MY (Oq z13.2.1),z13.2.1,Nq];rfl,(ag _ _ (ne ht)).trans ht⟩
noncomputable def kV(w:List UInt8):List Value:=w.map λu=>.int u.toNat 0
inductive SM(J0 J:Sg)(ja wa sa da ba:Mk)(k:Int)(w:List UInt8)(ts ds:List (List Md))(bk:List Int):Prop where
 |mk(Lz:nv J ja k)
  (wo:J wa=Mc (.list (kV w)))
  (so:bL J sa ts)
  (dd:bL J da ds)
  (bo:J ba=Mc (.list (bt bk)))
  (ne:wa≠sa/\wa≠da/\sa≠da/\ja≠wa/\ja≠sa/\ja≠da)
  (nb:ba≠ja/\ba≠wa/\ba≠sa/\ba≠da)
  (ch:Ch (λa=>a=ja) J0 J)
  (nw:J0 wa=Mq/\J0 sa=Mq/\J0 da=Mq)
variable{ba:Mk}{bk bk':List Int}
section
variable{wa:Mk}{ts:List (List Md)}
theorem SM.sub(S:SM J0 J ja wa sa da ba k w ts ds bk)(T:Sub J J'):SM J0 J' ja wa sa da ba k w ts ds bk:=
 ⟨S.1.sub T,T _ _ S.2,S.3.keep λa a a e=>T _ _ e,S.4.keep λa a a e=>T _ _ e,T _ _ S.5,S.6,S.7,S.8.trans (Ch.of T),S.9⟩
theorem SM.jar{k':Int}(S:SM J0 J ja wa sa da ba k w ts ds bk)(Lz:nv J' ja k')(C:Ch (λa=>a=ja) J J'):SM J0 J' ja wa sa da ba k' w ts ds bk:=by
 refine ga S.1 λg m t z11=>?_;have kp:∀{x:Mk},x≠ja->∀a c,(a=x∨∃xs,c=Cell.tup xs)->J a=Mc c->J' a=Mc c:=λhx a c h e'=>C.1 a c (λz=>by
  rcases h with h|⟨xs,rfl⟩;·exact hx (h.symm.trans z)
  ·exact hG e' z11.1 nofun z) e'
 exact⟨Lz,C.1 _ _ S.6.2.2.2.1.symm S.2,S.3.keep (kp S.6.2.2.2.2.1.symm),S.4.keep (kp S.6.2.2.2.2.2.symm),C.1 _ _ S.7.1 S.5,S.6,S.7,S.8.trans C,S.9⟩
theorem SM.put(S:SM J0 J ja wa sa da ba k w ts ds bk)(u:UInt8):SM J0 (upd J wa (.list (kV (w++[u])))) ja wa sa da ba k (w++[u]) ts ds bk:=by
 refine ga S.1 λg m t z10=>?_;have kp:∀{x:Mk},x≠wa->∀a c,(a=x∨∃xs,c=Cell.tup xs)->J a=Mc c->upd J wa (.list (kV (w++[u]))) a=Mc c:=λhx a c h e'=>(ag _ _ (λz=>by
  rcases h with h|⟨xs,rfl⟩;·exact hx (h.symm.trans z)
  ·exact hG e' S.2 nofun z)).trans e'
 have U:=Ch.upd (P:=λa=>a=wa) J rfl (.list (kV (w++[u])));exact⟨⟨g,m,t,(ag _ _ S.6.2.2.2.1).trans z10.1,z10.2⟩,aa _ _ _,S.3.keep (kp S.6.1.symm),S.4.keep (kp S.6.2.1.symm),(ag _ _ S.7.2.1).trans S.5,S.6,S.7,⟨λa c h e'=>U.1 _ _ (yx e' S.9.1) (S.8.1 a c h e'),λa h=>S.8.2 _ (U.2 _ h)⟩,S.9⟩
theorem SM.step(S:SM J0 J ja wa sa da ba k w ts ds bk)(h:J sa=Mc (.list xs))(ht:J t=Mc (.tup d)):SM J0 (upd J sa (.list (xs++[.ref t]))) ja wa sa da ba k w (ts++[d]) ds bk:=by
 refine ga S.1 λg m tt z9=>?_;have kp:∀{x:Mk},x≠sa->∀a c,(a=x∨∃xs,c=Cell.tup xs)->J a=Mc c->upd J sa (.list (xs++[.ref t])) a=Mc c:=λhx a c h' e'=>(ag _ _ (λz=>by
  rcases h' with h'|⟨xs,rfl⟩;·exact hx (h'.symm.trans z)
  ·exact hG e' h nofun z)).trans e'
 have U:=Ch.upd (P:=λa=>a=sa) J rfl (.list (xs++[.ref t]));exact⟨⟨g,m,tt,(ag _ _ S.6.2.2.2.2.1).trans z9.1,z9.2⟩,(ag _ _ S.6.1).trans S.2,S.3.Zb h ht,S.4.keep (kp S.6.2.2.1.symm),(ag _ _ S.7.2.2.1).trans S.5,S.6,S.7,⟨λa c h e'=>U.1 _ _ (yx e' S.9.2.1) (S.8.1 a c h e'),λa h=>S.8.2 _ (U.2 _ h)⟩,S.9⟩
theorem SM.due(S:SM J0 J ja wa sa da ba k w ts ds bk)(h:J da=Mc (.list xs))(ht:J t=Mc (.tup d)):SM J0 (upd J da (.list (xs++[.ref t]))) ja wa sa da ba k w ts (ds++[d]) bk:=by
 refine ga S.1 λg m tt z8=>?_;have kp:∀{x:Mk},x≠da->∀a c,(a=x∨∃xs,c=Cell.tup xs)->J a=Mc c->upd J da (.list (xs++[.ref t])) a=Mc c:=λhx a c h' e'=>(ag _ _ (λz=>by
  rcases h' with h'|⟨xs,rfl⟩;·exact hx (h'.symm.trans z)
  ·exact hG e' h nofun z)).trans e'
 have U:=Ch.upd (P:=λa=>a=da) J rfl (.list (xs++[.ref t]));exact⟨⟨g,m,tt,(ag _ _ S.6.2.2.2.2.2).trans z8.1,z8.2⟩,(ag _ _ S.6.2.1).trans S.2,S.3.keep (kp S.6.2.2.1),S.4.Zb h ht,(ag _ _ S.7.2.2.2).trans S.5,S.6,S.7,⟨λa c h e'=>U.1 _ _ (yx e' S.9.2.2) (S.8.1 a c h e'),λa h=>S.8.2 _ (U.2 _ h)⟩,S.9⟩
theorem SM.back(S:SM J0 J ja wa sa da ba k w ts ds bk){b':Mk}(T:Sub J J')(h:J b'=Mq)(e:J' b'=Mc (.list (bt bk'))):SM J0 J' ja wa sa da b' k w ts ds bk':=by
 have S':=S.sub T;refine ga S.1 λg m t z7=>?_;refine ae S.3 λas z6=>?_;refine ae S.4 λad z5=>?_;have ne:∀{a:Mk}{c:Cell},J a=Mc c->b'≠a:=λe' z=>by rw[<-z,h] at e';cases e'
 exact⟨S'.1,S'.2,S'.3,S'.4,e,S.6,⟨ne z7.1,ne S.2,ne z6.1,ne z5.1⟩,S'.8,S.9⟩
end
variable{s:Nn}
section
variable{st:List Md}{kc:T}
variable{wa:Mk}{ts:List (List Md)}
theorem oG(w:List UInt8)(u:UInt8):kV w++[.int u.toNat 0]=kV (w++[u]):=by unfold kV;rw[Oc];rfl
theorem b9(w:List UInt8):(kV w).length=w.length:=by unfold kV;rw[Mt]
theorem rh(h:i<w.length):(kV w)[i]?=Mc (.int (w.getD i 0).toNat 0):=by unfold kV;rw[ML,Mw,MG h];rfl
theorem Gq{k:T}(q:X Z n Q K J E st .WY):X Z n Q (.sq st' k::K) J E st .WY:=q
noncomputable abbrev E5(wa sa da ba ja:Mk)(r:Loc):Loc:=(Ki,.ref wa)::(Kb,.ref sa)::(JY,.ref da)::(Kj,.ref ba)::(Kh,.ref ja)::r
noncomputable abbrev E8(wa sa da ba ja:Mk)(s:Nn)(sp c:Int):Loc:=E5 wa sa da ba ja [(Kk,.str s 0),(JA,.int sp 0),(I7,.int c 0)]
noncomputable abbrev Dd:T:=(.ld Ki<|.bm JJ<|.cst (.ref 1113)<|.ld Kh<|.cst (.int 256 0)<|.call 2<|.cb 1<|.pop<|.ld Kb<|.bm JJ<|.cst (.str "lit" 0)<|.Xy 1<|.cb 1<|.pop<|.ld JY<|.bm JJ<|.cst (.str "lit" 0)<|.ld Ki<|.cst (.int 1 0)<|.neg<|.idx<|.Xy 2<|.cb 1<|.pop<|.WY)
theorem xQ(G:Good Z Kg)(hn:0<n)(S:SM J0 J ja wa sa da ba k w ts ds bk)(hk:k<=1000)(hw:w.length<=1000)(ht:ts.length<=1000)(hd:ds.length<=1000){r:Loc}(q:∀u J',SM J0 J' ja wa sa da ba (k+1) (w++[u]) (ts++[[.str "lit" 0]]) (ds++[[.str "lit" 0,.int u.toNat 0]]) bk->X Z n Q K J' (E5 wa sa da ba ja r) [] .WY):X Z n Q K J (E5 wa sa da ba ja r) [] Dd:=by have w0:=S.2;lk;refine(aF G hn S.1 (oV hk rfl) (by decide) (by decide)).X4 λJ1 r r0 r1 LV C1=>?_;have S1:=S.jar LV C1;lk;refine eO S1.2 (by rw[b9];exact db hw rfl) ?_;obtain⟨u,hu⟩:∃u:UInt8,r=(u.toNat:Int):=⟨Pz r.toNat,by rw[Vi];rw[Nat.mod_eq_of_lt (by lia)];exact af LZ [_] [_] (ME r0)⟩;rw[hu];rw[oG];have S2:=S1.put u;generalize upd J1 wa _=J2 at*;refine ae (id S2.3) λas z4=>?_;have hs1:=z4.1;lk;intro t1 ht1;have S3:=S2.sub (Wt ht1 (.tup [.str "lit" 0]));have ht1':=aG (Wt ht1 (.tup [.str "lit" 0]));have hs1:=Wt ht1 (.tup [.str "lit" 0]) _ _ hs1;generalize upd J2 t1 _=J3 at*;lk;refine eO hs1 (by rw[Mt];exact ug z4.2.1 ht rfl) ?_;have S4:=S3.step hs1 ht1';generalize upd J3 sa _=J4 at*;refine ae (id S4.4) λad z3=>?_;have hd1:=z3.1;lk;refine k9 S4.2 (by decide) (by decide) (by rw[b9,MH,Ng];exact ck LJ [] [_]) (rh (w:=w++[u]) (i:=w.length) (by rw[MH,Ng];exact MC _)|>λe=>by rw[b9,MH,Ng,show((-1:Int)+((w.length+1:Nat):Int)).toNat=w.length from ao Lh [] [_,_] (Nh _) (ME (ck LJ [] [_]))];exact e) ?_;rw[show(w++[u]).getD w.length 0=u by rw[Mw,MY (MC _),Nq];rfl];lk;intro t2 ht2;have S5:=S4.sub (Wt ht2 (.tup [.str "lit" 0,.int u.toNat 0]));have ht2':=aG (Wt ht2 (.tup [.str "lit" 0,.int u.toNat 0]));have hd1:=Wt ht2 (.tup [.str "lit" 0,.int u.toNat 0]) _ _ hd1;generalize upd J4 t2 _=J5 at*;lk;refine eO hd1 (by rw[Mt];exact ug z3.2.1 hd rfl) ?_;have S6:=S5.due hd1 ht2';exact tY (q u _ S6)
theorem uF(S:SM J0 J ja wa sa da ba k w ts ds bk){d c:Nat}(hb:bk.length=4)(hb0:bk.getD 0 0=d)(d0:1<=d)(d1:d<=w.length)(hw:w.length<=1000)(hc:c<=100){sp:Int}(q:∀J',SM J0 J' ja wa sa da ba k (w++bf w d c) ts ds bk->X Z n Q K J' (E8 wa sa da ba ja s sp c) [] kc):X Z n Q K J (E8 wa sa da ba ja s sp c) [] (.cst (.int 0 0)<|.ld I7<|.Wz (.rng Mg) (.st 1668247673<|.ld Ki<|.bm JJ<|.ld Ki<|.ld Kj<|.cst (.int 0 0)<|.idx<|.neg<|.idx<|.cb 1<|.pop<|.Wy)<|kc):=by
 lk;refine my (c:=c) (db hc rfl) (λm E' J'=>m<=c/\E'=E8 wa sa da ba ja s sp c/\∃done,SM J0 J' ja wa sa da ba k (w++done) ts ds bk/\done.length=m/\done++bf (w++done) d (c-m)=bf w d c) ⟨_,⟨Nb _,rfl,[],by rw[NF];exact S,rfl,by rw[NF];rfl⟩,rfl⟩ ?_ ?_
 ·intro m E' J' Q' hm I0 hnext _ _;rw[I0.2.1];refine ae I0.2.2 λdone z2=>?_;have hdn:=z2.2.2;obtain⟨e,he⟩:∃e,c-m=e+1:=⟨c-m-1,af Kx [] [_,_] (Me (ao KL [] [_,_,_] hm (Me (af Kw [] [_,_] hm))))⟩;have he':c-(m+1)=e:=aS Kv [] [_,_,_,_,_] he (Me (af KA [] [_,_] hm)) (Me (af Kw [] [_,_] hm));rw[he] at hdn;have w0:=z2.1.2;lk;refine av z2.1.5 (by decide) (by decide) (fL (i:=0) (af 0x842002704151180c0c [] [_] hb)) ?_;rw[hb0];have hl:(w++done).length=w.length+m:=by rw[MH,z2.2.1]
  lk;refine k9 z2.1.2 (by exact af 0x4200013a0461f7c4111 [] [_] d0) (aS 0x847086100014c000000000000000082937e814231aa8261f7dc2015 [_] [_,_] d1 hw ej) (by rw[b9];exact ao 0x43384508000a75215d09482504c42bdf10c0822 [] [_,_,_,_] d1 hl) (rh (w:=w++done) (i:=(w++done).length-d) (by exact ao K0 [] [_,_,_] d0 (Me (ao Le [] [_,_,_,_] d1 hl)))|>λe=>by rw[b9,show(-(d:Int)+(((w++done).length:Nat):Int)).toNat=(w++done).length-d from aS 0x423840003d09210800f6a54234a906bcbe2ddc54557d797c5b701554150f [] [_,_,_,_] (Nh _) (ME (ao 0x43384508000a75215d09482504c42bdf10c0822 [] [_,_,_,_] d1 hl)) (Me (ao Le [] [_,_,_,_] d1 hl))];exact e) ?_;lk;refine eO z2.1.2 (by rw[b9];exact iK 0x108e114218400069aa11c151d968582790485631f40a118d61a804131f [] [_,_,_,_] hw hc hm hl) ?_;rw[oG];have S2:=z2.1.put ((w++done).getD ((w++done).length-d) 0);refine tY (fu (hnext ⟨_,⟨hm,rfl,done++[(w++done).getD ((w++done).length-d) 0],by rw[<-NI];exact S2,by simp[z2.2.1],?_⟩,rfl⟩));rw[he',<-hdn,<-NI];show _=done++(_::_);simp
 ·intro E' J' I0;rw[I0.2.1];refine ae I0.2.2 λdone z1=>?_;have hdn:=z1.2.2;rw[Nq] at hdn;have e:done=bf w d c:=by rw[<-hdn,show bf _ d 0=[] from rfl,NF]
  exact q J' (by rw[<-e];exact z1.1)
end
variable{d:Int}
section
variable{st:List Md}{wa:Mk}{ts:List (List Md)}
theorem EQ{k:T}{key:Md}{keys:List Md}{p:Md×Md}(h:take? keys.length st=Mc (vs,st'))(hf:(keys.zip vs).find? (λp=>p.1==key)=Mc p)(q:X Z n Q K J E (p.2::st') k):X Z n Q K J E (key::st) (.sel keys k):=λρ hr=>⟨vs,st',p,h,hf,q ρ hr⟩
theorem SM.aaL(S:SM J0 J ja wa sa da ba k w ts ds bk)(h:J x=Mq):x≠ja:=λz=>by refine ga S.1 λg m t z5=>?_;have e:=z5.1;rw[<-z,h] at e;cases e
noncomputable abbrev EM:T:=(.cst (.int 2 0)<|.cst (.int 10 0)<|.cst (.int 18 0)<|.W9 3<|.cst (.ref 1113)<|.ld Kh<|.cst (.int 3 0)<|.call 2<|.idx<|.cst (.ref 1113)<|.ld Kh<|.cst (.int 8 0)<|.call 2<|.bin .add<|.st I7<|.Wy)
theorem oh(G:Good Z Kg)(hn:0<n)(S:SM J0 J ja wa sa da ba k w ts ds bk)(hk:k<=1000){sp c0:Int}(q:∀(c:Nat) J',2<=c->c<=25->SM J0 J' ja wa sa da ba (k+2) w ts ds bk->X Z n Q K J' (E8 wa sa da ba ja s sp c) [] .Wy):X Z n Q K J (E8 wa sa da ba ja s sp c0) [] EM:=by
 lk;intro x hx;have hxj:=S.aaL hx;have S1:=S.sub (Wt hx (.list [.int 2 0,.int 10 0,.int 18 0]));have hx':=aG (Wt hx (.list [.int 2 0,.int 10 0,.int 18 0]));generalize upd J x _=J1 at*;lk;refine(aF G hn S1.1 (oV hk rfl) (by decide) (by decide)).X4 λJ2 r r0 r1 LX C2=>?_;have S2:=S1.jar LX C2;have hx2:=C2.1 _ _ hxj hx';obtain⟨b,hb,b0,b1⟩:∃b:Nat,[OC 2 0,.int 10 0,.int 18 0][r.toNat]?=Mc (.int b 0)/\2<=b/\b<=18:=by
  have:r=0∨r=1∨r=2:=by lia
  rcases this with rfl|rfl|rfl;·exact⟨2,rfl,by decide,by decide⟩
  ·exact⟨10,rfl,by decide,by decide⟩
  ·exact⟨18,rfl,by decide,by decide⟩
 lk;refine av hx2 r0 (oV r1 rfl) hb ?_;lk;refine(aF G hn S2.1 (ill hk rfl) (by decide) (by decide)).X4 λJ3 e e0 e1 Ls C3=>?_;refine ae (MW e0) λe z4=>?_;obtain rfl:=z4;have S3:=S2.jar Ls C3;have:=q (b+e) J3 (by exact Nj b0 (Of _ _)) (ao 0x843080007a0571c8bc841313c8a8267b20 [] [_,_] b1 e1) (by rw[show k+2=k+1+1 by exact ck 0x100c44167384167a33 [_] []];exact S3);rw[Ui] at this;exact mE (w:=Mh) 2 Mg K _ _ _ this
noncomputable def pq(s:Nn)(d:Int)(sp:Nat)(c:Nat):List Value:=if s="match" then[.str "match" 0,.int d 0,.int c 0] else if s="rep" then[.str "rep" 0,.int sp 0,.int c 0] else[.str "short" 0]
noncomputable abbrev A6:T:=(.ld Kb<|.bm JJ<|.cst (.str "match" 0)<|.ld Kj<|.cst (.int 0 0)<|.idx<|.ld I7<|.Xy 3<|.cst (.str "rep" 0)<|.ld JA<|.ld I7<|.Xy 3<|.cst (.str "short" 0)<|.Xy 1<|.ld Kk<|.sel [(.str "match" 0),(.str "rep" 0),(.str "short" 0)]<|.cb 1<|.pop<|.ld JY<|.bm JJ<|.ld Kb<|.cst (.int 1 0)<|.neg<|.idx<|.cb 1<|.pop<|.Wy)
theorem um(S:SM J0 J ja wa sa da ba k w ts ds bk){sp c:Nat}(hs:s="match"∨s="rep"∨s="short")(hb:bk.length=4)(hb0:bk.getD 0 0=d)(ht:ts.length<=1000)(hd:ds.length<=1000)(q:∀J',SM J0 J' ja wa sa da ba k w (ts++[pq s d sp c]) (ds++[pq s d sp c]) bk->X Z n Q K J' (E8 wa sa da ba ja s sp c) [] .Wy):X Z n Q K J (E8 wa sa da ba ja s sp c) [] A6:=by
 refine ae (id S.3) λas z3=>?_;have hs1:=z3.1;have hs2:=z3.2.1;lk;refine av S.5 (by decide) (by decide) (fL (i:=0) (af 0x842002704151180c0c [] [_] hb)) ?_;rw[hb0];lk;intro t1 h1;have N1:=Wt h1 (.tup [.str "match" 0,.int d 0,.int c 0]);have S1:=S.sub N1;have a1:=aG N1;generalize upd J t1 _=J1 at*;lk;intro t2 h2;have N2:=Wt h2 (.tup [.str "rep" 0,.int sp 0,.int c 0]);have S2:=S1.sub N2;have a1:=N2 _ _ a1;have a2:=aG N2;generalize upd J1 t2 _=J2 at*;lk;intro t3 h3;have N3:=Wt h3 (.tup [.str "short" 0]);have S3:=S2.sub N3;have a1:=N3 _ _ a1;have a2:=N3 _ _ a2;have a3:=aG N3;generalize upd J2 t3 _=J3 at*;have hs1:=N3 _ _ (N2 _ _ (N1 _ _ hs1));have hsel:bM λt key=>([(Q7 "match" 0),(.str "rep" 0),(.str "short" 0)].zip [MJ t1,.ref t2,.ref t3]).find? (λp=>p.1==Q7 s 0)=Mc (key,.ref t)/\J3 t=Mc (.tup (pq s d sp c)):=by
  rcases hs with rfl|rfl|rfl;·exact⟨t1,_,rfl,a1⟩
  ·exact⟨t2,_,rfl,a2⟩
  ·exact⟨t3,_,rfl,a3⟩
 refine bI hsel λt key z2=>?_;have hf:=z2.1;have ht':=z2.2;lk;refine EQ rfl hf ?_;lk;refine eO hs1 (by rw[Mt];exact ug hs2 ht rfl) ?_;have S4:=S3.step hs1 ht';have hs4:=aa J3 sa (.list (as.map MJ++[.ref t]));have ht4:upd J3 sa (.list (as.map MJ++[.ref t])) t=Mc (.tup (pq s d sp c)):=(ag _ _ (hG ht' hs1 nofun)).trans ht';generalize upd J3 sa _=J4 at*;refine ae (id S4.4) λad z1=>?_;have hd1:=z1.1;have hd2:=z1.2.1;lk;refine k9 hs4 (by decide) (by decide) (by rw[MH,Ng];exact ck LJ [] [_]) (v:=.ref t) (by rw[MH,Ng,show((-1:Int)+(((as.map MJ).length+1:Nat):Int)).toNat=(as.map MJ).length from ao Lh [] [_,_] (Nh _) (ME (ck LJ [] [_])),MY (MC _),Nq];rfl) ?_;lk;refine eO hd1 (by rw[Mt];exact ug hd2 hd rfl) ?_;exact tY (q _ (S4.due hd1 ht4))
theorem l9(S:SM J0 J ja wa sa da ba k w ts ds bk){d sp c:Nat}(hs:s="match"∨s="rep"∨s="short")(hb:bk.length=4)(hb0:bk.getD 0 0=d)(d0:1<=d)(d1:d<=w.length)(hw:w.length<=1000)(hc:c<=100)(ht:ts.length<=1000)(hd:ds.length<=1000)(q:∀J',SM J0 J' ja wa sa da ba k (w++bf w d c) (ts++[pq s d sp c]) (ds++[pq s d sp c]) bk->X Z n Q K J' (E8 wa sa da ba ja s sp c) [] .Wy):X Z n Q K J (E8 wa sa da ba ja s sp c) [] (.cst (.int 0 0)<|.ld I7<|.Wz (.rng Mg) (.st 1668247673<|.ld Ki<|.bm JJ<|.ld Ki<|.ld Kj<|.cst (.int 0 0)<|.idx<|.neg<|.idx<|.cb 1<|.pop<|.Wy)<|A6):=
 uF S hb hb0 d0 d1 hw hc λa S'=>um S' hs hb hb0 ht hd q
end
noncomputable abbrev G6:T:=.cst (.int 1 0)<|.cst (.ref 1113)<|.ld Kh<|.ld Ki<|.len<|.call 2<|.bin .add<|.W9 1<|.ld Kj<|.cst .none<|.cst (.int 3 0)<|.sli<|.bin .add<|.st Kj<|.Wy
noncomputable abbrev Hd:T:=.cst (.ref 1113)<|.ld Kh<|.cst (.int 4 0)<|.call 2<|.st JA<|.ld Kj<|.ld JA<|.idx<|.W9 1<|.ld Kj<|.cst .none<|.ld JA<|.sli<|.bin .add<|.ld Kj<|.ld JA<|.cst (.int 1 0)<|.bin .add<|.cst .none<|.sli<|.bin .add<|.st Kj<|.Wy
section
variable{wa:Mk}{ts:List (List Md)}
theorem xP(G:Good Z Kg)(hn:0<n)(S:SM J0 J ja wa sa da ba k w ts ds bk)(hk:k<=1000)(hw:w.length<=1000)(hw0:w≠[])(hb:bk.length=4){sp c0:Int}(q:∀(d:Nat) b' J',1<=d->d<=w.length->SM J0 J' ja wa sa da b' (k+1) w ts ds ((d:Int)::bk.take 3)->X Z n Q K J' (E8 wa sa da b' ja s sp c0) [] .Wy):X Z n Q K J (E8 wa sa da ba ja s sp c0) [] G6:=by
 have hpos:0<w.length:=U3.mpr hw0;lk;refine YG S.2 (by rw[b9];exact db hw rfl) ?_;rw[b9];lk;refine(aF G hn S.1 (oV hk rfl) (nA hpos) (by rw[Int.natAbs_natCast];exact Sq (Nat.log2_le_self _) (kG hw rfl))).Wq (MC _) ?_;intro _ J1 I0;refine ae I0 λr z3=>?_;rw[z3.1];have S1:=S.jar z3.2.2.2.1 z3.2.2.2.2;refine ae (MW z3.2.1) λr z2=>?_;obtain rfl:=z2;have hlen:(bt bk).length=4:=by unfold bt;rw[Mt];exact hb
 lk;intro x hx;have T1:=Wt hx (.list [.int (1+(r:Int)) 0]);lk;refine iA (T1 _ _ S1.5) (i:=0) (j:=3) rfl (Dn hlen rfl) λz hz=>?_;have T2:=T1.trans (Wt hz (.list (((bt bk).take 3).drop 0)));refine d5 (Wt hz _ _ _ (aa _ _ _)) (aa _ _ _) (by simp[hlen]) λv hv=>?_;have T3:=T2.trans (Wt hv (.list ([OC (1+(r:Int)) 0]++((bt bk).take 3).drop 0)));refine mE (w:=Mh) 1 Mg K _ _ _ (?_:X _ _ _ _ _ _ _ _);refine q (r+1) v _ (Mr _ _) (vX z3.2.2.1) (S1.back T3 (T2.none hv) ((aa _ _ _).trans ?_));have:(1+(r:Int))=((r+1:Nat):Int):=ck 0x403104fde046922d [] [_];rw[this];simp[bt,Rw]
theorem wL(G:Good Z Kg)(hn:0<n)(S:SM J0 J ja wa sa da ba k w ts ds bk)(hk:k<=1000)(hb:bk.length=4){sp c0:Int}(q:∀(i:Nat) b' J',i<=3->SM J0 J' ja wa sa da b' (k+1) w ts ds (fT bk i)->X Z n Q K J' (E8 wa sa da b' ja s i c0) [] .Wy):X Z n Q K J (E8 wa sa da ba ja s sp c0) [] Hd:=by
 lk;refine(aF G hn S.1 (oV hk rfl) (by decide) (by decide)).X4 λJ1 r r0 r1 LV C1=>?_;have S1:=S.jar LV C1;refine ae (MW r0) λi z1=>?_;obtain rfl:=z1;have hi:i<=3:=af 0x420001382e2914c41310 [] [_] r1;have hlen:(bt bk).length=4:=by unfold bt;rw[Mt];exact hb
 lk;refine av S1.5 (Ms _) (oV r1 rfl) (fL (i:=i) (by rw[hb];exact vX r1)) ?_;lk;intro x hx;have T1:=Wt hx (.list [.int (bk.getD i 0) 0]);lk;refine iA (T1 _ _ S1.5) (i:=0) (j:=i) ((sN (Ms _) (oV r1 rfl)).trans (by rw[MN])) (Dn hlen rfl) λz hz=>?_;have T2:=T1.trans (Wt hz (.list (((bt bk).take i).drop 0)));refine d5 (Wt hz _ _ _ (aa _ _ _)) (aa _ _ _) (by simp[hlen];exact ao 0x421840003d504c3e0ae3916c3500a0467b2c [] [_,_] r1 (OR _ _)) λv hv=>?_;have T3:=T2.trans (Wt hv (.list ([OC (bk.getD i 0) 0]++((bt bk).take i).drop 0)));lk;refine iA (T3 _ _ S1.5) (i:=i+1) (j:=4) ((ry (Ms _) (ill r1 rfl)).trans (by rw[hlen];congr 1)) (Dn hlen rfl) λu hu=>?_;have T4:=T3.trans (Wt hu (.list (((bt bk).take 4).drop (i+1))));refine d5 (Wt hu _ _ _ (aa _ _ _)) (aa _ _ _) (by simp[hlen];exact ao 0x421840003d89508d2a4128262186a015104cf6e339 [] [_,_,_] (OR _ _) (Me (af 0x420001382e2914c41310 [] [_] r1))) λp hp=>?_;have T5:=T4.trans (Wt hp (.list (([OC (bk.getD i 0) 0]++((bt bk).take i).drop 0)++((bt bk).take 4).drop (i+1))));refine mE (w:=Mh) 1 Mg K _ _ _ (?_:X _ _ _ _ _ _ _ _);refine q i p _ hi (S1.back T5 (T4.none hp) ((aa _ _ _).trans ?_));have:(bt bk).take 4=bt bk:=PJ (Oq hlen);rw[this];simp[bt,fT,Rw,Tw]
theorem vk(hb:bk.length=4)(hi:i<=3):∀b∈fT bk i,b∈bk:=by
 intro b h;unfold fT at h;refine Pj (MS.mp h) (λzz=>?_) (λh=>?_);rw[zz];·rw[Mw,MG (by exact ao 0x845084007b104c420a1289d4140f [] [_,_] hb hi)];exact TV _
 ·rcases Oo.mp h with h|h;·exact RN h
  ·exact List.mem_of_mem_drop h
end
section
variable{wa:Mk}{ts:List (List Md)}
inductive SI(J0:Sg)(ja wa sa da:Mk)(k:Int)(j:Nat)(ba:Mk)(J:Sg):Prop
 |mk (w:List UInt8) (ps:List aH) (v:LS) (hps:ps.length=j) (S:SM J0 J ja wa sa da ba (k+5*j) w (ps.map aH.vals) (bu w.toArray v0 (ps.map Mc)) v.back) (P:PS w ps v)
inductive SE(J:Sg)(ja:Mk)(k:Int)(many:Nat)(u:Md)(J':Sg):Prop
 |mk (t sa da:Mk) (w:List UInt8) (ps:List aH) (v:LS) (e:u=.ref t) (ht:J' t=Mc (.tup [.ref sa,.bytes w.toArray 0,.ref da])) (hs:J sa=Mq) (hd:J da=Mq) (T:bL J' sa (ps.map aH.vals)) (T':bL J' da (bu w.toArray v0 (ps.map Mc))) (P:PS w ps v) (l:ps.length=many) (Lz:nv J' ja (k+20)) (C:Ch (λa=>a=ja) J J')
theorem SM.le{l:Int}(S:SM J0 J ja wa sa da ba k w ts ds bk)(h:k<=l):SM J0 J ja wa sa da ba l w ts ds bk:=⟨S.1.le h,S.2,S.3,S.4,S.5,S.6,S.7,S.8,S.9⟩
theorem SM.eq{ts' ds':List (List Md)}(S:SM J0 J ja wa sa da ba k w ts ds bk)(h1:ts=ts')(h2:ds=ds')(h3:bk=bk'):SM J0 J ja wa sa da ba k w ts' ds' bk':=by subst h1 h2 h3;exact S
theorem xk{sp c:Nat}:pq "match" d sp c=(aH.mat d c).vals:=if_pos rfl
theorem vW{sp c:Nat}:pq "rep" d sp c=(aH.rep sp c).vals:=(if_neg (by decide)).trans (if_pos rfl)
theorem wC{sp c:Nat}:pq "short" d sp c=aH.short.vals:=(if_neg (by decide)).trans (if_neg (by decide))
theorem jO(f:α->β)(l:List α)(a:α):(l++[a]).map f=l.map f++[f a]:=by rw[Oc];rfl
theorem pY(G:Good Z Kg)(hn:2<=n)(Lz:nv J ja k)(k0:0<=k)(hk:k<=500){many:Nat}(m1:many<=4):ac Z n (.ref 1120) [.ref ja,.int many 0] J (SE J ja k many):=by
 refine run G (lq hn rfl) ?_;lk;intro wa hwa;have N1:=Wt hwa (.list []);have w1:=aG N1;lk;intro sa hsa;have N2:=Wt hsa (.list []);have w1:=N2 _ _ w1;have s1:=aG N2;lk;intro da hda;have N3:=Wt hda (.list []);have w1:=N3 _ _ w1;have s1:=N3 _ _ s1;have d1:=aG N3;lk;intro ba hba;have N4:=Wt hba (.list [.int 1 0,.int 1 0,.int 1 0,.int 1 0]);have w1:=N4 _ _ w1;have s1:=N4 _ _ s1;have d1:=N4 _ _ d1;have b1:=aG N4;lk;intro t0 ht0;have N5:=Wt ht0 (.tup [.ref wa,.ref sa,.ref da,.ref ba]);have w1:=N5 _ _ w1;have s1:=N5 _ _ s1;have d1:=N5 _ _ d1;have b1:=N5 _ _ b1;have T2:=N1.trans N2;have T3:=T2.trans N3;have T4:=T3.trans N4;have T5:=T4.trans N5;have zs:=N1.none hsa;have zd:=T2.none hda;have nn:∀{τ:Sg}{a b:Mk}{c:Cell},τ a=Mc c->τ b=Mq->a≠b:=λe e' z=>by rw[z,e'] at e;cases e
 refine ga (id Lz) λg m tt z7=>?_;have q1:=nn (aG N1) hsa;have q2:=nn (N2 _ _ (aG N1)) hda;have q3:=nn (aG N2) hda;have q4:=nn z7.1 hwa;have q5:=nn (N1 _ _ z7.1) hsa;have q6:=nn (T2 _ _ z7.1) hda;have q7:=(nn (T3 _ _ z7.1) hba).symm;have q8:=(nn (N3 _ _ (N2 _ _ (aG N1))) hba).symm;have q9:=(nn (N3 _ _ (aG N2)) hba).symm;have q10:=(nn (aG N3) hba).symm;have t1:=aG N5;clear N1 N2 N3 N4 N5 T2 T3 T4;generalize Internal.upd _ t0 _=τ at*;have SM0:SM J τ ja wa sa da ba (k+5*(0:Nat)) [] ([].map aH.vals) (bu #[] v0 ([].map Mc)) v0.back:=by exact⟨(Lz.sub T5).le (ck 0x7d03482e0826 [_] []),w1,⟨[],s1,rfl,nofun⟩,⟨[],d1,rfl,nofun⟩,b1,⟨q1,q2,q3,q4,q5,q6⟩,⟨q7,q8,q9,q10⟩,Ch.of T5,hwa,zs,zd⟩
 refine dQ ?_ t1 rfl;lk;refine wl (λba (_ _:Unit)=>E5 wa sa da ba ja []) (λj ba f f J1=>SI J ja wa sa da k j ba J1) ba () () (db m1 rfl) ⟨[],[],v0,rfl,SM0,PS.nil⟩ rfl ?_ ?_
 ·intro j ba _ _ J1 Q' hj I0 hnext hcont;cases I0 with
  |mk w ps v hps S P=>
  have hsm:=P.7;have hbl:=P.4;have hts:(ps.map aH.vals).length=ps.length:=Mt ..;have hds:(bu w.toArray v0 (ps.map Mc)).length=ps.length:=by rw[jA,Mt]
  lk;intro x hx;have hxj:=S.aaL hx;have N:=Wt hx (.list [.str "lit" 0,.str "match" 0,.str "rep" 0,.str "short" 0,.str "lit" 0]);have S:=S.sub N;have hx1:=aG N;generalize upd J1 x _=J2 at*;lk;refine(aF (n:=n-1) G (lp hn rfl) S.1 (aS 0xa315186100016d4140f8284627f41040b61a805e81a416f03b [_] [_,_] hk m1 hj) (by decide) (by decide)).X4 λJ3 r r0 r1 Ls C3=>?_;have S:=S.jar Ls C3;have hx3:=C3.1 _ _ hxj hx1;have litQ:∀{J4:Sg}{r:Loc}{t:T},SM J J4 ja wa sa da ba (k+5*(j:Int)+1) w (ps.map aH.vals) (bu w.toArray v0 (ps.map Mc)) v.back->X Z (n-1) Q' [.sq [] t] J4 (E5 wa sa da ba ja r) [] Dd:=λS4=>by refine xQ G (lp hn rfl) S4 (aS KP [_] [_,_] hk m1 hj) (iK Kz [] [_,_,_,_] m1 hj hps hsm) (iK Ku [] [_,_,_,_] m1 hj hps hts) (iK Ku [] [_,_,_,_] m1 hj hps hds) λu J' S'=>Gq (Bu ?_);obtain z5:=P.lit (aS KS [] [_,_,_] m1 hj hps) u;exact hcont ba () () ⟨w++[u],ps++[aH.lit],aH.lit.next v,by rw[MH,hps];rfl,(S'.le (ck 0x18827e81a417117a06905bceb7c06c [_] [_])).eq (show ps.map aH.vals++[[Q7 "lit" 0]]=(ps++[aH.lit]).map aH.vals from(jO aH.vals ps .lit).symm) z5.2.symm rfl,z5.1⟩ rfl
  have nonlit:∀(s:Nn),(s="match"∨s="rep"∨s="short")->∀{A K:T},(w≠[]->∀J4,SM J J4 ja wa sa da ba (k+5*(j:Int)+1) w (ps.map aH.vals) (bu w.toArray v0 (ps.map Mc)) v.back->X Z (n-1) Q' [] J4 (E5 wa sa da ba ja [(1953854062,.int j 0),(Kk,.str s 0)]) [] K)->
    X Z (n-1) Q' [] J3 (E5 wa sa da ba ja [(1953854062,.int j 0),(Kk,.str s 0)]) [] (.seq (.ld Kk<|.cst (.str "lit" 0)<|.eqv Mg<|.ite A (.ld Ki<|.W9 0<|.eqv Mg<|.ite Dd .Wy)) K):=by
   intro s hs A K hK
   have hne:M0 (s="lit")=false:=by rcases hs with rfl|rfl|rfl<;>decide
   refine kH (jc (aB (aO (r:=Mg) (iD ?_) hne)) rfl)
   lk
   intro y hy
   have Ny:=Wt hy (.list [])
   have S4:=S.sub Ny
   by_cases hw:w=[]
   ·refine iu (r:=Mh) (.same (eT S4.2 (aG Ny) (by rw[hw];rfl) (by rw[hw];intro j v w e;cases e))) rfl (fP ?_);exact litQ S4
   ·exact iu (r:=Mg) (.odd S4.2 (aG Ny) (by rw[b9];exact λz=>hw (List.length_eq_zero_iff.mp z))) rfl (iD (nh (hK hw _ S4)))
  have kinds:r=0∨r=1∨r=2∨r=3∨r=4:=by lia
  lk;rcases kinds with rfl|rfl|rfl|rfl|rfl
  ·refine av hx3 (by decide) (by decide) rfl ?_;exact eQ (kH (jc (aB (aO (r:=Mh) (fP (litQ S)) (by decide))) rfl))
  ·refine av hx3 (by decide) (by decide) rfl ?_;refine eQ (nonlit "match" (.inl rfl) λhw J4 S4=>?_);lk;intro y hy;have S5:=S4.sub (Wt hy (.tup [.int 0 0,.int 1 0]));refine dQ ?_ (aa _ _ _) rfl;lk;refine aO (r:=Mh) ?_ (by decide);refine fP (fD (xP (s:="match") (sp:=0) (c0:=1) G (lp hn rfl) S5 (aS KP [_] [_,_] hk m1 hj) (iK Kz [] [_,_,_,_] m1 hj hps hsm) hw P.4 λd b' J6 d0 d1 S6=>?_) rfl);refine nh (kH (jc (aB (wz (r:=Mg) ?_ (by decide))) rfl));refine fP (oh G (lp hn rfl) S6 (aS Lb [_] [_,_] hk m1 hj) λc J7 c0 c1 S7=>?_);refine nh (l9 (s:="match") (d:=d) (sp:=0) (c:=c) S7 (.inl rfl) (by simp[P.4]) rfl d0 d1 (iK Kz [] [_,_,_,_] m1 hj hps hsm) (db c1 rfl) (iK Ku [] [_,_,_,_] m1 hj hps hts) (iK Ku [] [_,_,_,_] m1 hj hps hds) λJ8 S8=>fu ?_);obtain z4:=P.aat (p:=.mat d c) (aS KS [] [_,_,_] m1 hj hps) nofun rfl d0 d1 rfl c1 (by rintro _ _ ⟨⟩;exact ao 0x421001384000279104c4e80ac42222e28bc0509f36 [] [_] c0 c1) nofun (Np c0) (by show((d:Int)::v.back.take 3).length=4;simp[P.4]) (λb hb=>by
    rcases MS.mp hb with hb|hb;·exact .inr hb
    ·exact .inl (RN hb))
   exact hnext b' () () ⟨_,ps++[.mat d c],(aH.mat d c).next v,by rw[MH,hps];rfl,(S8.le (by lia)).eq (by rw[xk];exact(jO aH.vals ps (.mat d c)).symm) (by rw[xk];exact z4.2.symm) rfl,z4.1⟩ rfl
  ·refine av hx3 (by decide) (by decide) rfl ?_;refine eQ (nonlit "rep" (.inr (.inl rfl)) λhw J4 S4=>?_);lk;intro y hy;have S5:=S4.sub (Wt hy (.tup [.int 0 0,.int 1 0]));refine dQ ?_ (aa _ _ _) rfl;lk;refine aO (r:=Mg) ?_ (by decide);lk;refine aO (r:=Mh) ?_ (by decide);refine fP (fD (wL (s:="rep") (sp:=0) (c0:=1) G (lp hn rfl) S5 (aS KP [_] [_,_] hk m1 hj) P.4 λi b' J6 hi S6=>?_) rfl);refine nh (nh (kH (jc (aB (wz (r:=Mg) ?_ (by decide))) rfl)));refine fP (oh G (lp hn rfl) S6 (aS Lb [_] [_,_] hk m1 hj) λc J7 c0 c1 S7=>?_);have b0:=P.b0 (i:=i) hi;have b3:=b0.1;refine ae (MW (show 0<=v.back.getD i 0 from r9 b3 rfl)) λd hd=>?_;have b1:=b0.2 hw;rw[hd] at b1;have b2:=b0.1;rw[hd] at b2;have ul:(fT v.back i).length=4:=by unfold fT;simp[P.4];exact AD _ hi
   refine nh (l9 (s:="rep") (d:=d) (sp:=i) (c:=c) S7 (.inr (.inl rfl)) ul hd (ao K9 [_] [_] b3 hd) (vX b1) (iK Kz [] [_,_,_,_] m1 hj hps hsm) (db c1 rfl) (iK Ku [] [_,_,_,_] m1 hj hps hts) (iK Ku [] [_,_,_,_] m1 hj hps hds) λJ8 S8=>fu ?_);obtain z3:=P.aat (p:=.rep i c) (d:=d) (aS KS [] [_,_,_] m1 hj hps) nofun hd (ao K9 [_] [_] b3 hd) (vX b1) rfl c1 nofun (by rintro _ _ ⟨⟩;exact aS 0x42200138420027080004f228462b501589620988444571c5780a15f88268753 [] [_,_] hi c0 c1) (Np c0) ul (λb hb=>.inl (vk P.4 hi b hb))
   exact hnext b' () () ⟨_,ps++[.rep i c],(aH.rep i c).next v,by rw[MH,hps];rfl,(S8.le (by lia)).eq (by rw[vW];exact(jO aH.vals ps (.rep i c)).symm) (by rw[vW];exact z3.2.symm) rfl,z3.1⟩ rfl
  ·refine av hx3 (by decide) (by decide) rfl ?_;refine eQ (nonlit "short" (.inr (.inr rfl)) λhw J4 S4=>?_);lk;intro y hy;have S5:=S4.sub (Wt hy (.tup [.int 0 0,.int 1 0]));refine dQ ?_ (aa _ _ _) rfl;lk;refine aO (r:=Mg) ?_ (by decide);lk;refine aO (r:=Mg) ?_ (by decide);lk;refine wz (r:=Mh) ?_ (by decide);have b0:=P.b0 (i:=0) (by decide);have b3:=b0.1;refine ae (MW (show 0<=v.back.getD 0 0 from r9 b3 rfl)) λd hd=>?_;have b1:=b0.2 hw;rw[hd] at b1;have b2:=b0.1;rw[hd] at b2;refine iD (nh (fD (l9 (s:="short") (d:=d) (sp:=0) (c:=1) S5 (.inr (.inr rfl)) P.4 hd (ao K9 [_] [_] b3 hd) (vX b1) (iK Kz [] [_,_,_,_] m1 hj hps hsm) (Mr _ _) (iK Ku [] [_,_,_,_] m1 hj hps hts) (iK Ku [] [_,_,_,_] m1 hj hps hds) λJ8 S8=>fu ?_) rfl));obtain z2:=P.aat (p:=.short) (d:=d) (c:=1) (aS KS [] [_,_,_] m1 hj hps) nofun hd (ao K9 [_] [_] b3 hd) (vX b1) rfl (by decide) nofun nofun (Mr _ _) P.4 (λb hb=>.inl hb)
   exact hnext ba () () ⟨_,ps++[.short],aH.short.next v,by rw[MH,hps];rfl,(S8.le (ck 0xc413f40d20b8bd03482de7585f [_] [_])).eq (by rw[wC];exact(jO aH.vals ps .short).symm) (by rw[wC];exact z2.2.symm) rfl,z2.1⟩ rfl
  ·refine av hx3 (by decide) (by decide) rfl ?_;exact eQ (kH (jc (aB (aO (r:=Mh) (fP (litQ S)) (by decide))) rfl))
 ·intro ba _ _ J1 I0;cases I0 with
  |mk w ps v hps S P=>
  have hsm:=P.7;lk;refine lD (bs:=w) ?_ S.2 ?_ (aS 0x211e4a1c94000632c82241321a90b44a0a1189e1a804131f [] [_,_,_] m1 hps hsm);·lk;intro t ht;have N:=Wt ht (.tup [.ref sa,.bytes w.toArray 0,.ref da]);have S':=S.sub N;lk;exact⟨t,sa,da,w,ps,v,rfl,aG N,zs,zd,S'.3,S'.4,P,hps,S'.1.le (af 0x518000560826234105de81a416f039 [_] [_] m1),S'.8⟩
  ·refine⟨w.map λu=>(u.toNat:Int),by unfold kV;rw[OX];rfl,λn hn=>?_,?_⟩;·refine ae (ND.mp hn) λu z=>?_;rw[<-z.2];exact⟨Ms _,Sb.mpr u.toNat_lt⟩
   ·rw[OX];exact(Qs λu f=>Vy).trans (List.map_id w)
end
noncomputable def aE(A:Rows)(a:Mk):Prop:=∃j,j<18/\(a=A.ra j∨a=A.da j)
open Classical in
noncomputable def Hx(A:Rows)(J:Sg):Sg:=λa=>if aE A a then Mq else J a
theorem Hx.sub(A:Rows)(J:Sg):Sub (Hx A J) J:=λa c e=>by
 unfold Hx at e;split at e;·cases e
 ·exact e
theorem Hx.off(A:Rows)(J:Sg):Off (Hx A J) A:=λj hj=>⟨if_pos ⟨j,hj,.inl rfl⟩,if_pos ⟨j,hj,.inr rfl⟩⟩
theorem Hx.at{c:Cell}(h:¬aE A a)(e:J a=Mc c):Hx A J a=Mc c:=(if_neg h).trans e
theorem lA(R:aD J A C)(h:J a=Mq):¬aE A a:=by
 rintro⟨j,hj,rfl|rfl⟩;·exact(bN (R j hj)).1 h
 ·exact(bN (R j hj)).2 h
theorem qR{c:Cell}(N:∀j,j<18->J (A.ra j)=Mq/\J (A.da j)=Mq)(h:J a=Mc c):¬aE A a:=by
 rintro⟨j,hj,rfl|rfl⟩;·rw[(N j hj).1] at h;cases h
 ·rw[(N j hj).2] at h;cases h
theorem cK{cl:Nat}(R:aD J A C)(h:J a=Mc (.Wu cl fs))(hc:cl≠159):¬aE A a:=by
 rintro⟨j,hj,rfl|rfl⟩;·exact((R j hj).neI h hc).1 rfl
 ·exact((R j hj).neI h hc).2 rfl
theorem aj.hx(M:aj J A B)(R:aD J A C):aj (Hx A J) A B:=
 ⟨Hx.at (cK R M.1 (by decide)) M.1,Hx.at (cK R M.2 (by decide)) M.2,Hx.at (cK R M.3 (by decide)) M.3,Hx.at (cK R M.4 (by decide)) M.4,M.5,M.6,M.7,M.8⟩
theorem tO{A':Rows}(S:Sub (Hx A' J) J')(R:aD J A C)(D:∀a,aE A a->¬aE A' a):aD J' A C:=λj hj=>(R j hj).keep λa c h e=>S _ _ (Hx.at (D a ⟨j,hj,h⟩) e)
section
variable{st:List Md}{k body:T}
theorem A7{c:Mk}{ys zs:List Md}(h1:J a=Mc (.list xs))(h2:J b=Mc (.list ys))(h3:J c=Mc (.list zs))(e1:xs.length=N)(e2:ys.length=N)(e3:zs.length=N)(j:Nat):uD [a,b,c] j J=Mc (if j<N then Mc [xs.getD j .none,ys.getD j .none,zs.getD j .none] else Mq):=by
 unfold uD;simp only[SP,List.mapM_nil,h1,h2,h3,rx,NH,VV,U4,Pb];by_cases hj:j<N;·rw[if_pos hj,MG (by lia),MG (by lia),MG (by exact ao KC [] [_,_,_] e3 hj)];simp only[NH,Mw];rw[MG (by lia),MG (by lia),MG (by exact ao KC [] [_,_,_] e3 hj)];rfl
 ·rw[if_neg hj,MZ (by exact ao Lr [] [_,_,_] e1 hj)];rfl
theorem BY{ys:List Md}(h1:J a=Mc (.list xs))(h2:J b=Mc (.list ys))(e1:xs.length=N)(e2:ys.length=N)(j:Nat):uD [a,b] j J=Mc (if j<N then Mc [xs.getD j .none,ys.getD j .none] else Mq):=by
 unfold uD;simp only[SP,List.mapM_nil,h1,h2,rx,NH,VV,U4,Pb];by_cases hj:j<N;·rw[if_pos hj,MG (by lia),MG (by exact ao KC [] [_,_,_] e2 hj)];simp only[NH,Mw];rw[MG (by lia),MG (by exact ao KC [] [_,_,_] e2 hj)];rfl
 ·rw[if_neg hj,MZ (by exact ao Lr [] [_,_,_] e1 hj)];rfl
end
section
variable{st:List Md}{k:T}
theorem x8(len:Nat):M8 len (OC 1024 0)=WZ len (λa=>1024):=oW NW λk hk=>by rw[QP,if_pos hk]
theorem vg{f:Nat->Int->Int}(L:aM J a (aU B f))(hb:∀j,(WL B).getD j 0<=100000)(q:∀x J',J x=Mq->Sub J J'->aM J' x (aU B λc c=>1024)->X Z n Q K J' ρ (.ref x::st) k):X Z n Q K J ρ (.ref a::st) (.Xn Mg Jq (.cst (.int 1024 0)<|.W9 1<|.ld Jq<|.len<|.bin .mul<|.yld) k):=by
 refine ae L λbs z7=>?_;have hb2:=z7.2.1;rw[bp] at hb2;refine fc (xs:=bs.map MJ) (λj ws J'=>j<=18/\Sub J J'/\∃as:List Mk,ws=as.map MJ/\as.length=j/\∀(i:Nat),i<j->∃b,as[i]?=Mc b/\J' b=Mc (.list (WZ ((WL B).getD i 0) λc=>1024))) ⟨Nb _,Sub.rfl,[],rfl,rfl,nofun⟩ (λj ws J' h=>h.2.1 _ _ z7.1) (by rw[Mt,hb2];decide) ?_ ?_
 ·intro j v ws J' Q' hv I0 hval _;refine ae I0.2.2 λas z6=>?_;obtain rfl:=z6.1;have hat:=z6.2.2;have hlt:j<18:=by have:=(MK.mp hv).1;rw[Mt,hb2] at this;exact this
  refine ae (z7.2.2 j _ (bR hlt)) λb z5=>?_;have e2:=z5.2;rw[ML,z5.1] at hv;obtain rfl:=MI hv;have hbj:=hb j;lk;intro y hy;have N1:=Wt hy (.list [.int 1024 0]);have y1:=aG N1;have e2:=N1 _ _ (I0.2.1 _ _ e2);have S1:=I0.2.1.trans N1;have dom:=N1.none (a:=y);have hat:∀(i:Nat),i<j->∃b,as[i]?=Mc b/\Internal.upd J' y (.list [.int 1024 0]) b=Mc (.list (WZ ((WL B).getD i 0) λc=>1024)):=λi hi=>by refine ae (hat i hi) λb z4=>?_;exact⟨b,z4.1,N1 _ _ z4.2⟩
  clear dom;generalize Internal.upd J' y _=J1 at*;lk;refine YG e2 (by rw[bO];exact db hbj rfl) ?_;rw[bO];refine j5 y1 (af K2 [] [_] hbj) λz hz=>?_;rw[MN,x8];have N2:=Wt hz (.list (WZ ((WL B).getD j 0) λc=>1024));lk;refine hval _ _ _ ⟨hlt,S1.trans N2,as++[z],by simp,by simp[z6.2.1],λi hi=>?_⟩;by_cases hij:i<j;·refine ae (hat i hij) λb z3=>?_;exact⟨b,by rw[M7 (by exact ao KC [] [_,_,_] z6.2.1 hij)];exact z3.1,N2 _ _ z3.2⟩
  ·obtain rfl:i=j:=ao Lc [] [_,_] hi hij;exact⟨z,by rw[MY (Oq z6.2.1),z6.2.1,Nq];rfl,aG N2⟩
 ·intro ws J' x I0 hx;refine ae I0.2.2 λas z2=>?_;rw[z2.1];have hal:=z2.2.1;have hat:=z2.2.2;rw[Mt,hb2] at hal hat;have N:=Wt hx (.list (as.map MJ));refine q x _ (I0.2.1.none hx) (I0.2.1.trans N) ⟨as,aa _ _ _,by rw[hal,bp],λj l hl=>?_⟩;have hlt:j<18:=by have:=(MK.mp hl).1;rw[bp] at this;exact this
  rw[bR hlt] at hl;rw[<-MI hl];refine ae (hat j hlt) λb z1=>?_;exact⟨b,z1.1,N _ _ z1.2⟩
theorem gW(h1:aM J x (aU B C))(h2:aM J y (aU B C)):ss J (.ref x) (.ref y) true:=.same (lJ h1 h2)
end
variable{pa:Mk}{data:Array UInt8}
theorem rB(B:MA)(h:j<18):1<=(WL B).getD j 0:=by
 have p1:1<=2^(B.lc+B.lp):=SR;have p2:1<=2^B.pb:=SR;unfold WL;generalize 2^(B.lc+B.lp)=x at*;generalize 2^B.pb=y at*;match j,h with
 |0,_=>exact MF rfl
 |1,_=>exact MF rfl
 |2,_=>exact MF rfl
 |3,_=>exact MF rfl
 |4,_=>exact MF rfl
 |5,_=>exact MF rfl
 |6,_=>exact MF rfl
 |7,_=>exact MF rfl
 |8,_=>exact MF rfl
 |9,_=>show 1<=768*x;exact af 0xc0140001ca0461f6000d902325 [] [_] p1
 |10,_=>exact MF rfl
 |11,_=>show 1<=8*y;exact af Lj [] [_] p2
 |12,_=>show 1<=8*y;exact af Lj [] [_] p2
 |13,_=>exact MF rfl
 |14,_=>exact MF rfl
 |15,_=>show 1<=8*y;exact af Lj [] [_] p2
 |16,_=>show 1<=8*y;exact af Lj [] [_] p2
 |17,_=>exact MF rfl
 |j+18,h=>exact Ce 0x218420001e90908269c24 [] [_] h
open Classical in
noncomputable def H1(A:Rows)(j:Nat)(J:Sg):Sg:=λa=>if a=A.ra j∨a=A.da j then Mq else J a
theorem H1.sub(A:Rows)(j:Nat)(J:Sg):Sub (H1 A j J) J:=λa c e=>by
 unfold H1 at e;split at e;·cases e
 ·exact e
theorem H1.at{c:Cell}(h:¬(a=A.ra j∨a=A.da j))(e:J a=Mc c):H1 A j J a=Mc c:=(if_neg h).trans e
theorem uy(len:Nat)(f:Int->Int)(h:1<=len):(WZ len f)[len-1]?=Mc (.int (f ((len:Int)-1)) 0):=by rw[vV (by exact af 0x2100009d44133e8e54140f [] [_,_] (Me h)),show((len-1:Nat):Int)=(len:Int)-1 by exact af 0x8420027080004ea2099f4722b8f6e2a22 [] [_,_] (Me h)]
theorem aM.aaJ(L:aM J x (aU B C)):∃as:List Mk,J x=Mc (.list (as.map MJ))/\as.length=18/\∀j,j<18->J (as.getD j 0)=Mc (.list (WZ ((WL B).getD j 0) (C j))):=by refine ae L λas z14=>?_;have h2:=z14.2.1;rw[bp] at h2;refine⟨as,z14.1,h2,λj hj=>?_⟩;refine ae (z14.2.2 j _ (bR hj)) λa z13=>?_;rw[Mw,z13.1];exact z13.2
theorem fi(A:Rows)(h:j<18):(bn A).getD j .none=.ref (A.ra j):=by rw[Mw,gJ A h];rfl
theorem oH(h:j<as.length):(as.map MJ).getD j .none=.ref (as.getD j 0):=by rw[Mw,ML,Mw,MG h];rfl
theorem iM(G:Good Z Kg)(hn:14<=n)(S:Sub H J)(off:Off H A)(hB:∀a,W6 B a->H a=Mq)(M:aj J A B)(ne:B.l1≠B.l2)(apt:A.Apt){C1:Nat->Int->Int}(e1:C1=(fq B tx (λd d=>1024) ps marked).2)(R:aD J A C1)(L:aM H pa (aU B C1))(hs:dO H sa ps)(HT:Z.kt 361=Mc (bt [1,1,1,1]))(hps:ps.length<=4)(osm:tx.size<=1000)(V:aX tx v0 ps)(fin:(f7 B tx (ES.init,λd d=>1024) v0 ps).2.pl=tx.size)(hd:data=(fq B tx (λd d=>1024) ps marked).1.WW.made.toArray):ac Z n (.ref 1184) [.ref B.m,.ref pa,.bytes data 0,.ref sa,.bytes tx 0,.bool marked] J (λu d=>u=.bool Mh):=by
 have hb:=i9 M;refine run G (lq hn rfl) ?_;lk;refine(cF (n:=n-1) G (lp hn rfl) M).Yd λJ1 ha hh0 S1 ha1=>?_;have M1:aj J1 A B:=M.Wq S1;have R1:aD J1 A C1:=λj hj=>(R j hj).sub S1;have Mm:=M1.1;lk;refine(rD (n:=n-1) G (lp hn rfl) (M1.mb ne)).Wr λJ2 r1=>?_;refine ae r1 λA' Rn=>?_;have nt:∀{a:Mk}{xs:List Md},J1 a=Mc (.list xs)->¬W6 B a:=by
  rintro a xs h (rfl|rfl|rfl);·rw[M1.1] at h;cases h
  ·rw[M1.3] at h;cases h
  ·rw[M1.4] at h;cases h
 have S2:Sub H J2:=Rn.5.sub (S.trans S1) hB;have ha2:=Rn.5.1 _ _ (nt ha1) ha1;have R2:aD J2 A C1:=tE M1 R1 Rn.5;have D:∀a,aE A a->¬aE A' a:=by intro a r2 r3;refine ae r2 λj z12=>?_;have hj:=z12.1;have h:=z12.2;refine ae r3 λi z11=>?_;have hi:=z11.1;have h':=z11.2;obtain z10:=bN (R1 j hj);have t1:=z10.1;have t2:=z10.2;obtain z9:=Rn.4 i hi;have z1:=z9.1;have z2:=z9.2;rcases h with rfl|rfl<;>rcases h' with h'|h'<;>(try rw[h'] at t1)<;>(try rw[h'] at t2)<;>first|exact t1 z1|exact t1 z2|exact t2 z1|exact t2 z2
 have hl2:=Rn.1.WL;have hl:=M.WL;lk;refine iR G (lp hn rfl) (B:=B) (C:=C1) ha2 hl hb R2 λx J3 hx S3 L3=>?_;have LH:∀{τ:Sg},Sub H τ->aM τ pa (aU B C1):=λT=>L.sub T;lk;refine kC (gW L3 (LH (S2.trans S3))) ?_;lk;refine(cO (n:=n-1) G (lp hn rfl) (Rn.1.Wq S3) (λj hj=>(Rn.2 j hj).sub S3)).Yd λJ4 y d S4 L4=>?_;have T4:=(S2.trans S3).trans S4;lk;refine vg (B:=B) (LH T4) hb λz J5 hz S5 L5=>?_;refine kC (gW (L4.sub S5) L5) ?_;have T25:=(S3.trans S4).trans S5;have T5:=T4.trans S5;have R5:aD J5 A' (λd d=>1024):=λj hj=>(Rn.2 j hj).sub T25;have M5:aj J5 A' B:=Rn.1.Wq T25;have newA:∀{a:Mk}{c:Cell},H a=Mc c->¬aE A' a:=λh=>qR Rn.4 ((S.trans S1) _ _ h);have hx5:∀{a:Mk}{c:Cell},H a=Mc c->Hx A' J5 a=Mc c:=λh=>Hx.at (newA h) (T5 _ _ h);lk;have hs5:dO (Hx A' J5) sa ps:=by refine ae hs λas z8=>?_;have q1:=z8.1;have q2:=z8.2.1;have q3:=z8.2.2;exact⟨as,hx5 q1,q2,λj p e=>by refine ae (q3 j p e) λa z7=>?_;have w1:=z7.1;have w2:=z7.2;exact⟨a,w1,hx5 w2⟩⟩
 refine(gQ (n:=n-1) G (lp hn rfl) (Hx.sub A' J5) R5 (Hx.off A' J5) Rn.3 (M5.hx R5) (λd d=>⟨by decide,by decide⟩) HT hps hs5 osm V fin).aaD λJ6 S6 R6 mok6=>?_;rw[<-e1] at R6 mok6;have T6:Sub H J6:=λa c h=>S6 _ _ (hx5 h);have ha6:J6 ha=Mc (.list (bn A)):=S6 _ _ (Hx.at (qR Rn.4 ha1) (T25 _ _ ha2));have RA6:aD J6 A C1:=tO S6 (λj hj=>(R2 j hj).sub T25) D;have M6:aj J6 A' B:=(M5.hx R5).Wq S6;lk;refine kC (by rw[hd];exact iN) ?_;lk;refine(cO (n:=n-1) G (lp hn rfl) M6 R6).Yd λJ7 y2 d S7 L7=>?_;lk;refine kC (gW L7 (LH (T6.trans S7))) ?_;lk;refine iR G (lp hn rfl) (B:=B) (C:=C1) (S7 _ _ ha6) hl hb (λj hj=>(RA6 j hj).sub S7) λx2 J8 hx2 S8 L8=>?_;have S78:=S7.trans S8;lk;refine kC (gW L8 (LH (T6.trans S78))) ?_;lk;refine(cF (n:=n-1) G (lp hn rfl) (M6.Wq S78)).Yd λJ9 hb9 hb9n S9 hb9e=>?_;have S69:=S78.trans S9;have T9:=T6.trans S69;have ha9:=S69 _ _ ha6;refine ae ((LH T9).aaJ) λbs z6=>?_;have pa1:=z6.1;have pa2:=z6.2.1;have pa3:=z6.2.2;have RA9:aD J9 A C1:=λj hj=>(RA6 j hj).sub S69;have RB9:aD J9 A' C1:=λj hj=>(R6 j hj).sub S69;have naH:∀{a:Mk}{c:Cell},H a=Mc c->¬aE A a:=by
  rintro a c h ⟨j,hj,rfl|rfl⟩;·rw[(off j hj).1] at h;cases h
  ·rw[(off j hj).2] at h;cases h
 refine ae (id L) λas' z5=>?_;have lq1:=z5.1;have lq2:=z5.2.1;have lq3:=z5.2.2;refine ae L.aaJ λbs0 z4=>?_;have pb1:=z4.1;have pb2:=z4.2.1;have pb3:=z4.2.2;have ebs:bs0=bs:=by
  have:=T9 _ _ pb1;rw[pa1] at this;injection MI this with this
  exact(List.map_inj_right (f:=MJ) (by intro a b h;exact Value.ref.inj h)).mp this.symm
 subst ebs;have nha:¬aE A ha:=lA R hh0;have nhb:¬aE A hb9:=lA (λj hj=>(RA6 j hj).sub S78) hb9n;have npa:¬aE A pa:=naH pb1;lk;have hlp:∀τ,Sub (Hx A J9) τ->τ ha=Mc (.list (bn A))/\τ hb9=Mc (.list (bn A'))/\τ pa=Mc (.list (bs0.map MJ)):=λτ T=>⟨T _ _ (Hx.at nha ha9),T _ _ (Hx.at nhb hb9e),T _ _ (Hx.at npa pa1)⟩;refine wY (as:=[ha,hb9,pa]) (st:=[]) (N:=18) (hd:=λj=>[(bn A).getD j .none,(bn A').getD j .none,(bs0.map MJ).getD j .none]) rfl (λj E J'=>E=[]/\Sub (Hx A J9) J'/\∀i,i<18->∃f,Row J' (A.ra i) (A.da i) (A.len i) f) ⟨_,⟨rfl,Hx.sub A J9,λi hi=>⟨_,RA9 i hi⟩⟩,rfl⟩ ?_ ?_ ?_;·intro j E J' r4;have T:=r4.2.1;obtain z3:=hlp J' T;have w1:=z3.1;have w2:=z3.2.1;have w3:=z3.2.2;exact A7 w1 w2 w3 (bc A) (bc A') (by rw[Mt];exact pa2) j
 ·intro j E J' Q' hj I0 hnext _;rw[I0.1];have T:=I0.2.1;have Rs:=I0.2.2;rw[fi A hj,fi A' hj,oH (by lia)];have hpos:=rB B hj;have hbj:=hb j;have due9:=pa3 j hj;have nd:¬aE A (bs0.getD j 0):=naH (pb3 j hj);have due:=T _ _ (Hx.at nd due9);refine ae (Rs j hj) λf Rj=>?_;have eA:=hl j hj;have eB:=hl2 j hj;generalize(WL B).getD j 0=len at*;lk;refine YG due (by rw[bO];exact db hbj rfl) ?_;rw[bO];lk;refine Rj.set G (lp hn rfl) (by lia) (by lia) (apt.4 j) (H1.sub A j J') (if_pos (.inl rfl)) (if_pos (.inr rfl)) λJ'' Rj' T'=>?_;have TT:Sub (Hx A J9) J'':=λa c e=>T' _ _ (H1.at (λz=>by have h:Hx A J9 a=none:=if_pos ⟨j,hj,z⟩;rw[h] at e;cases e) (T _ _ e));have due':=TT _ _ (Hx.at nd due9);have RBj:Row J'' (A'.ra j) (A'.da j) len (C1 j):=by rw[<-eB];exact(RB9 j hj).keep λa c h e=>TT _ _ (Hx.at (λz=>D a z ⟨j,hj,h⟩) e)
  have lenj:len<1000000:=kG hbj rfl;refine wu (λρ2 J2=>J2=J'') ?_ ?_;·intro Q' hQ _ _ _;lk;refine YG due' (by rw[bO];exact db hbj rfl) ?_;rw[bO];lk;refine RBj.idx G (lp hn rfl) (by lia) (by lia) lenj ?_;lk;refine k9 due' (by decide) (by decide) (by rw[bO];lia) (v:=.int (C1 j ((len:Int)-1)) 0) (by rw[bO,show((-1:Int)+(len:Int)).toNat=len-1 by lia];exact uy len (C1 j) hpos) ?_;refine aK (λd=>?_) (λz=>absurd rfl z);lk;exact hQ ⟨[],rfl,rfl⟩
  ·rintro ρ2 _ rfl;refine fu (hnext ⟨_,⟨rfl,TT,λi hi=>?_⟩,rfl⟩);by_cases hij:i=j;·subst hij;exact⟨_,Rj'⟩
   ·refine ae (Rs i hi) λf' Ri=>?_;refine⟨f',Ri.keep λa c h e=>T' _ _ (H1.at ?_ e)⟩;rintro(z|z)<;>rcases h with h|h
    ·exact apt.1 i j hi hj hij (h.symm.trans z)
    ·exact apt.2 j i hj hi (Qi hij) (z.symm.trans h)
    ·exact apt.2 i j hi hj hij (h.symm.trans z)
    ·exact apt.3 i j hi hj hij (h.symm.trans z)
 ·rintro ρ J' _;lk;exact rfl
structure cU(Z:Sys)(Kg:PO):Prop extends Good Z Kg where
 exc:cL Z Kg 100
 aav:Ct Z Kg 100 149 [JL,JM] eX
 aaC:Ct Z Kg 100 156 [JL,JM,JN] eX
 aaH:Au Z Kg 100 1174 Jq JA
 aar:AY Z Kg 1179 "row" [Kq,Ko,6709618] bK
theorem Good.Xm(G:Good Z Kg)(M:More Z Z'):Good Z' Kg where
 base:=G.base.Xm M
 lim h k:=G.lim h λa o e=>k a o (M.6 a o e)
 fn i f ns ds c e:=(G.fn i f ns ds c e).Xm M
theorem cU.Xm(G:cU Z Kg)(M:More Z Z'):cU Z' Kg where
 toGood:=G.toGood.Xm M
 exc:=⟨λh k=>G.exc.1 h λa o e=>k a o (M.6 a o e),by refine ga G.exc.2 λK P fI z6=>?_;exact⟨K,P,fI,M.frag z6.1,z6.2.1,z6.2.2.1,z6.2.2.2.1,z6.2.2.2.2.1,z6.2.2.2.2.2.1,⟨z6.2.2.2.2.2.2.1.elim λK q=>⟨K,M.frag q.1,q.2⟩⟩⟩⟩
 aav:=⟨G.aav.1.elim λK q=>⟨K,M.frag q.1,q.2⟩⟩
 aaC:=⟨G.aaC.1.elim λK q=>⟨K,M.frag q.1,q.2⟩⟩
 aaH:=⟨G.aaH.1.elim λK q=>⟨K,M.frag q.1,q.2⟩⟩
 aar:=⟨G.aar.1.elim λK q=>⟨K,M.frag q.1,q.2⟩⟩
theorem xF{d:Mk}{len i:Int}(hr:J r=Mc (.Wu 159 [(I8,.int len 0),(I9,.ref d)]))(ho:i<0∨len<=i){l:Loc}(h1:gf l JM=Mc (.int i 0))(h2:gf l JL=Mc (.ref r)):exec Z n eX [] l J (λa J'=>J'=J):=by
 refine(?_:X Z n (λa J'=>J'=J) [] J [(JM,.int i 0),(JL,.ref r)] [] eX) l (Wk.to (show[gf l _,gf l _]=[Mc _,Mc _] by rw[h1,h2]));unfold eX;lk;refine jL (λq=>?_) (λa=>?_)<;>lk;·refine bQ (λq'=>by lia) λa=>?_;exact λa a=>rfl
 ·exact λa a=>rfl
theorem gi(G:cU Z Kg)(hn:3<=n){d:Mk}{len i:Int}(hr:J r=Mc (.Wu 159 [(I8,.int len 0),(I9,.ref d)]))(ho:i<0∨len<=i){Q:Md->Sg->Prop}(hQ:Q (.bool Mh) J):ac Z n (.ref 1174) [.ref r,.int i 0] J Q:=by
 obtain⟨m,rfl⟩:∃m,n=m+2:=⟨n-2,af 0x8400027084004e8508d2a3b0a11c151d [] [_,_] (Me (af 0x4200013b02b10a02b10 [] [_] hn))⟩;exact aaV (n:=m+1) G.base G.exc (by decide) G.aaH hr cH cG
  (kD G.base G.exc G.aav rfl (xF hr ho rfl rfl)) (λv=>kD G.base G.exc G.aaC rfl (xF hr ho rfl rfl)) hQ
section
variable{st:List Md}{k body:T}{c:Nat}
theorem kF{v:Md}{cc:Nat}(h:Z.cv=[(cc,v)])(q:X Z n Q K J E (v::st) k):X Z n Q K J E st (.ldc cc k):=λρ hr=>⟨v,by rw[h];exact if_pos rfl,q ρ hr⟩
theorem uG{a b:Int}{t u:Nat}(F:Int->Md)(ha:-1000000<=a)(ha2:a<=1000000)(hb:-1000000<=b)(hb2:b<=1000000)(hl:(b-a).toNat<=100000)(step:∀i:Int,a<=i->i<b->∀Q':Out->Sg->Prop,(∀E',XV Q' J E' (F i))->X Z n Q' [] J [(c,.int i 0)] [] body)(q:∀x,J x=Mq->X Z n Q K (upd J x (.list ((aQ a b).map F))) E (.ref x::st) k):X Z n Q K J E (.int b t::.int a u::st) (.Xn Mh c body k):=λρ hr=>by
 have hlen:(cS (aQ a b)).length=(b-a).toNat:=by unfold cS aQ;rw[Mt,Mt,NJ]
 refine⟨st,AM (cS (aQ a b)),(cS (aQ a b)).length+1,by rw[hlen];exact kG hl rfl,⟨rfl,⟨ha,ha2,hb,hb2⟩,rfl⟩,eU (xs:=cS (aQ a b)) (λj ws J'=>J'=J/\ws=((aQ a b).take j).map F) (λj d d d=>rfl) (λj v ws J' Q' hv I0 h1 d=>?_) (λws J' I0 x hx=>?_) _ 0 [] J (Om _) (Nb _) ⟨rfl,rfl⟩⟩
 ·rw[I0.1];obtain rfl:=I0.2;unfold cS at hv;rw[ML] at hv;refine ae (MP.mp hv) λi z5=>?_;obtain⟨hi,rfl⟩:=z5;have hi2:a<=i/\i<b:=by refine ae (ND.mp (MO hi)) λj' z4=>?_;obtain⟨hj,rfl⟩:=z4;have:=List.mem_range.mp hj;constructor<;>lia
  exact step i hi2.1 hi2.2 Q' (λE' ρ' d=>h1 _ ρ' _ ⟨rfl,by rw[Vz,hi,Oc];rfl⟩) _ lu
 ·obtain rfl:=I0.1;rw[I0.2];have e:(cS (aQ a b)).length=(aQ a b).length:=by unfold cS;rw[Mt]
  rw[e,List.take_length];exact q x hx ρ hr
end
theorem yf{len:Nat}{b e:Nat}(hb:b<=len):((WZ len f).take e).drop b=(aQ b (if(len:Int)<e then(len:Int) else e)).map λi=>.int (f i) 0:=by
 refine Tg λk=>?_;unfold WZ aQ;rw[QD,QK,ML,ML,ML];by_cases h1:And (b+k<e) (b+k<len);·rw[if_pos h1.1,Nu h1.2,Nu (by split<;>lia)];simp only[Pb];rw[Ui]
 ·rw[MZ (l:=Oh (((if(len:Int)<e then(len:Int) else e):Int)-b).toNat) (by rw[NJ];split<;>lia)];by_cases h2:b+k<e;·rw[if_pos h2,MZ (by rw[NJ];lia)];rfl
  ·rw[if_neg h2];rfl
theorem Zx{l:List Md}(h1:J x=Mc (.list l))(h2:J y=Mc (.list l))(h:∀v∈l,∃i,v=.int i 0):ss J (.ref x) (.ref y) true:=
 .same (eT h1 h2 rfl λj v w e e'=>by rw[e] at e';cases e';refine ae (h v (MO e)) λi z3=>?_;rw[z3];exact .int)
theorem xq{x:Int}{t u:Nat}:ss J (.int x t) (.int x u) true:=by have:=ss.int (J:=J) (x:=x) (y:=x) (t:=t) (u:=u);rwa [decide_eq_true rfl] at this
theorem GB{e:T}(h:X Z n Q [] J E [] e):exec Z n e [] E J Q:=h E lu
variable{far:Int}
theorem j8(G:cU Z Kg)(hn:8<=n){d:Mk}{len:Nat}{b:Int}(hr:J r=Mc (.Wu 159 [(I8,.int len 0),(I9,.ref d)]))(R:Row J r d len f)(hlen:len<=100000)(hp:J p=Mc (.list (WZ len f)))(h0:0<=b)(h1:b<len)(hf:0<=far):ac Z n (.ref 1179) [.ref r,.ref p,.int b 0,.int far 0] J (λu J'=>u=.bool Mh/\Sub J J'):=by
 obtain⟨m,rfl⟩:∃m,n=m+1:=⟨n-1,af Kx [] [_,_] (Me (af 0x8400027401d8950230f [] [_] hn))⟩;refine aaA G.lim G.base G.aar rfl λZ' M hcv=>?_;have G':=G.Xm M;have hcv':Z'.cv=[(Jq,.ref r)]:=hcv;obtain⟨md,hmd,D⟩:∃m,J d=Mc (.W8 m)/\fj m len f:=by
  rcases R with⟨_,xs,e,_⟩|⟨_,m,e,D⟩;·rw[hr] at e;cases e
  ·exact⟨m,e,D⟩
 refine GB (?_:X Z' m _ [] J [(Kq,.ref p),(Ko,.int b 0),(6709618,.int far 0)] [] _);lk;refine kF hcv' ?_;lk;refine .dict hmd (by have:=D.le;exact ao 0x843080007aa0987e1a80508c87d090041322 [] [_,_] hlen this) ?_;lk;refine kF hcv' ?_;lk;refine R.len G'.toGood (af Mu [] [_] hn) (kG hlen rfl) ?_;lk;refine uG (λi=>.int (f i) 0) (r9 h0 rfl) (ao 0x108610000f5e090fc35008263fe848020821 [_] [_] hlen h1) (by split<;>lia) (by split<;>lia) (by split<;>lia) (λi q1 q2 Q' hq=>?_) λx hx=>?_;·refine kF hcv' ?_;lk;refine R.idx G'.toGood (af Mu [] [_] hn) (OU h0 q1) (by split at q2<;>lia) (kG hlen rfl) ?_;lk;exact hq _
 have hxp:p≠x:=yx hp hx;lk;refine iA (xs:=WZ len f) (i:=b.toNat) (j:=(b+8).toNat) ((ag _ _ hxp).trans hp) ?_ (by rw[bO];exact db hlen rfl) λy hy=>?_;·exact zB h0 (aS 0x108e10c2000298000000000000000122250bc121f86a0104c7e6090e [_,_] [_] hlen h1 ej) (CM h0 rfl) (aS 0x108e10c2000298000000000000000122250bc121f86a0104c7e60416891e [_,_] [_] hlen h1 ej)
 have hyx:y≠x:=λz=>by rw[z,aa] at hy;cases hy
 have hyσ:J y=none:=by rw[ag _ _ hyx] at hy;exact hy
 have ecut:((WZ len f).take (b+8).toNat).drop b.toNat=(aQ b (if(len:Int)<b+8 then(len:Int) else b+8)).map λi=>.int (f i) 0:=by rw[yf (by exact ao 0x108610000f6e2a0faf0488d4130f [_] [_,_] h1 (ME h0))];have e1:((b+8).toNat:Int)=b+8:=af 0x8420027080004e04177150fc082ee2a1f [_] [_] (ME (af 0x1080004e0405c082c081b [_] [] h0));have e2:(b.toNat:Int)=b:=af 0x8420027080004f71507ee2a0f [_] [_] (ME h0);rw[e1,e2]
 rw[ecut];have S2:Sub J (upd (upd J x (.list ((aQ b (if(len:Int)<b+8 then(len:Int) else b+8)).map λi=>.int (f i) 0))) y (.list ((aQ b (if(len:Int)<b+8 then(len:Int) else b+8)).map λi=>.int (f i) 0))):=
  (Sub.rfl.upd hx _).upd hyσ _
 refine kC (Zx (l:=(aQ b (if(len:Int)<b+8 then(len:Int) else b+8)).map λi=>.int (f i) 0) ((ag _ _ hyx.symm).trans (aa _ _ _)) (aa _ _ _) λv hv=>?_) ?_;·refine ae (ND.mp hv) λi z2=>?_;obtain⟨_,rfl⟩:=z2;exact⟨_,rfl⟩
 generalize upd (upd J x _) y _=J2 at*;have hr2:=S2 _ _ hr;have hp2:=S2 _ _ hp;have hd2:=S2 _ _ hmd;have R2:=R.sub S2;lk;refine kF hcv' ?_;lk;refine gi G' (af Mo [] [_] hn) hr2 (by lia) ?_;lk;refine kF hcv' ?_;refine kF hcv' ?_;lk;refine R2.len G'.toGood (af Mu [] [_] hn) (kG hlen rfl) ?_;lk;refine gi G' (af Mo [] [_] hn) hr2 (by lia) ?_;lk;refine kF hcv' ?_;lk;refine .dict hd2 (by have:=D.le;exact ao 0x843080007aa0987e1a80508c87d090041322 [] [_,_] hlen this) ?_;lk;refine iu (r:=Mh) xq rfl ?_
 ·lk;refine kF hcv' ?_;lk;refine(gq (n:=m) G'.toGood (af Mo [] [_] hn) R2 hlen).Yd λJ3 z hz S3 hz3=>?_;lk;refine iu (r:=Mh) (Zx hz3 (S3 _ _ hp2) λv hv=>?_) rfl ?_;·unfold WZ at hv;refine ae (ND.mp hv) λi z1=>?_;obtain⟨_,rfl⟩:=z1;exact⟨_,rfl⟩
  ·lk;exact⟨rfl,S2.trans S3⟩
theorem uo{B':MA}(h:B.pb=B'.pb):B.cell=B'.cell:=by funext a b;unfold MA.cell;rw[h]
theorem xt{B':MA}(h1:B.lc=B'.lc)(h2:B.lp=B'.lp):B.lit=B'.lit:=by funext a b;unfold MA.lit;rw[h1,h2]
theorem oS{B':MA}(h1:B.lc=B'.lc)(h2:B.lp=B'.lp)(h3:B.pb=B'.pb):WL B=WL B':=by unfold WL;rw[h1,h2,h3]
theorem vi{B':MA}(h1:B.lc=B'.lc)(h2:B.lp=B'.lp)(h3:B.pb=B'.pb)(tx:Array UInt8)(v:LS)(p:Option aH):gV B tx v p=gV B' tx v p:=by
 have c:=uo h3;have l:=xt h1 h2;induction p with
 |none=>show B.WV _ _ _ _=B'.WV _ _ _ _;unfold MA.WV;rw[c,h3]
 |some p=>
  induction p with
  |lit=>show B.Xo _ _ _ _ _=B'.Xo _ _ _ _ _;unfold MA.Xo;rw[c,l]
  |mat d sz=>show B.WV _ _ _ _=B'.WV _ _ _ _;unfold MA.WV;rw[c,h3]
  |rep i sz=>show B.XY _ _ _ _=B'.XY _ _ _ _;unfold MA.XY MA.Xf;rw[c,h3]
  |short=>show B.Xs _ _=B'.Xs _ _;unfold MA.Xs;rw[c]
theorem rl{B B':MA}(h1:B.lc=B'.lc)(h2:B.lp=B'.lp)(h3:B.pb=B'.pb)(tx:Array UInt8):∀(ps:List (Option aH))(v:LS),aC B tx v ps=aC B' tx v ps
 |[],_=>rfl
 |p::r,v=>by show gV B tx v p++_=gV B' tx v p++_;rw[vi h1 h2 h3,rl h1 h2 h3 tx r]
theorem eI{B':MA}(h1:B.lc=B'.lc)(h2:B.lp=B'.lp)(h3:B.pb=B'.pb)(tx:Array UInt8)(C:Nat->Int->Int)(ps:List aH)(m:Bool):fq B tx C ps m=fq B' tx C ps m:=by simp only[mS,rl h1 h2 h3]
theorem mJ{B':MA}(h1:B.lc=B'.lc)(h2:B.lp=B'.lp)(h3:B.pb=B'.pb)(C:Nat->Int->Int):aU B C=aU B' C:=by unfold aU;simp only[oS h1 h2 h3]
inductive mZ(A:Nat->Rows)(B:Nat->MA)(ja:Mk):Prop where
 |mk (lc:∀i,i<4->(B i).lc=(B 0).lc)
  (lp:∀i,i<4->(B i).lp=(B 0).lp)
  (pb:∀i,i<4->(B i).pb=(B 0).pb)
  (apt:∀i,i<4->(A i).Apt)
  (ne:∀i,i<4->(B i).l1≠(B i).l2)
  (disj:∀i j,i<4->j<4->i≠j->∀a,aE (A i) a->¬aE (A j) a)
  (jar:∀i,i<4->¬aE (A i) ja)
noncomputable def Mv(A:Nat->Rows)(B:Nat->MA)(ja:Mk)(a:Mk):Prop:=a=ja∨∃i,i<4/\(aE (A i) a∨W6 (B i) a)
inductive Wl(A:Nat->Rows)(B:Nat->MA)(ja:Mk)(C0 C1:Nat->Int->Int)(m:Nat)(H:Sg)(k:Int)(J:Sg):Prop where
 |mk(sub:Sub H J)
  (off:∀a,Mv A B ja a->H a=Mq)
  (jar:nv J ja k)
  (mod:∀i,i<4->aj J (A i) (B i))
  (rows:∀i,i<4->aD J (A i) (if i<m then C1 else C0))
variable{A:Nat->Rows}{B:Nat->MA}
section
variable{C0 C1:Nat->Int->Int}{m:Nat}
theorem Wl.XA(W:Wl A B ja C0 C1 m H k J)(S:Sub J J'):Wl A B ja C0 C1 m H k J':=
 ⟨W.1.trans S,W.2,W.3.sub S,λi hi=>(W.4 i hi).Wq S,λi hi j hj=>(W.5 i hi j hj).sub S⟩
theorem ce(Lz:nv J ja k):∃xs,J ja=Mc (.list xs):=by refine ga Lz λg m t z4=>?_;exact⟨_,z4.1⟩
theorem Wl.Z9(F:mZ A B ja)(W:Wl A B ja C0 C1 m H k J)(Lz:nv J' ja (k+1))(c:Ch (λa=>a=ja) J J'):Wl A B ja C0 C1 m H (k+1) J':=by refine ae (ce W.3) λxs hj=>?_;have ni:∀{a:Mk}{cl:Nat}{fs:Loc},J a=Mc (.Wu cl fs)->J' a=Mc (.Wu cl fs):=λ{a cl fs} h=>c.1 _ _ (mf h hj rfl) h;refine⟨c.sub W.1 λa e=>by rw[e];exact W.2 ja (.inl rfl),W.2,Lz,λi hi=>?_,λi hi j hj=>(W.5 i hi j hj).keep λa d h e=>c.1 a d (λz=>F.7 i hi ⟨j,hj,by rw[<-z];exact h⟩) e⟩;have M:=W.4 i hi;exact⟨ni M.1,ni M.2,ni M.3,ni M.4,M.5,M.6,M.7,M.8⟩
theorem Wl.hx(W:Wl A B ja C0 C1 m H k J)(hi:i<4){c:Cell}(h:H a=Mc c):Hx (A i) J a=Mc c:=
 Hx.at (λz=>by rw[W.2 a (.inr ⟨i,hi,.inl z⟩)] at h;cases h) (W.1 _ _ h)
theorem Wl.step(F:mZ A B ja)(W:Wl A B ja C0 C1 m H k J)(hm:m<4)(S:Sub (Hx (A m) J) J')(R:aD J' (A m) C1):Wl A B ja C0 C1 (m+1) H k J':=by
 refine⟨λa c h=>S _ _ (W.hx hm h),W.2,?_,λi hi=>?_,λi hi=>?_⟩;·refine ga W.3 λg q t z3=>?_;have e:=z3.1;have r:=z3.2;exact⟨g,q,t,S _ _ (Hx.at (F.7 m hm) e),r⟩
 ·have Rm:=W.5 m hm;have M:=W.4 i hi;exact⟨S _ _ (Hx.at (cK Rm M.1 (by decide)) M.1),S _ _ (Hx.at (cK Rm M.2 (by decide)) M.2),S _ _ (Hx.at (cK Rm M.3 (by decide)) M.3),S _ _ (Hx.at (cK Rm M.4 (by decide)) M.4),M.5,M.6,M.7,M.8⟩
 ·by_cases e:i=m;·rw[e];rw[if_pos (by exact MC _)];exact R
  ·have:=tO S (W.5 i hi) (F.6 i m hi hm e);rw[show(if i<m+1 then C1 else C0)=(if i<m then C1 else C0) from by by_cases q:i<m;rw[if_pos q,if_pos (NY q)];rw[if_neg q,if_neg (by lia)]];exact this
open Classical in
noncomputable def Hb(A:Nat->Rows)(B:Nat->MA)(ja:Mk)(J:Sg):Sg:=λa=>if Mv A B ja a then Mq else J a
theorem Hb.at{c:Cell}(h:¬Mv A B ja a)(e:J a=Mc c):Hb A B ja J a=Mc c:=(if_neg h).trans e
theorem Wl.re(W:Wl A B ja C0 C1 m H k J):Wl A B ja C0 C1 m (Hb A B ja J) k J:=⟨λa c e=>by
  unfold Hb at e;split at e;·cases e
  ·exact e,λa h=>if_pos h,W.3,W.4,W.5⟩
theorem Wl.old(W:Wl A B ja C0 C1 m H k J){c:Cell}(h:H a=Mc c):Hb A B ja J' a=J' a:=if_neg λz=>by rw[W.2 a z] at h;cases h
theorem Wl.new(W:Wl A B ja C0 C1 m H k J)(h:J a=Mq):¬Mv A B ja a:=by
 rintro(rfl|⟨i,hi,q|rfl|rfl|rfl⟩);·refine ae (ce W.3) λxs hj=>?_;rw[hj] at h;cases h
 ·exact lA (W.5 i hi) h q
 ·rw[(W.4 i hi).1] at h;cases h
 ·rw[(W.4 i hi).3] at h;cases h
 ·rw[(W.4 i hi).4] at h;cases h
theorem yk(W:Wl A B ja C0 C1 m H k J)(hi:i<4)(hs:dO H sa ps):dO (Hx (A i) J) sa ps:=by refine ae hs λas z2=>?_;exact⟨as,W.hx hi z2.1,z2.2.1,λj p e=>by refine ae (z2.2.2 j p e) λa z1=>?_;exact⟨a,z1.1,W.hx hi z1.2⟩⟩
end
theorem td:∀(l:List Ev)(s:CS)(k:Nat)(T:Int),Enc s.1 k T->Wide s.1->oJ s.2->bM λN Tf=>Enc (ah s l).1 N Tf/\N<=k+l.length
 |[],s,k,T,E,_,_=>⟨k,T,E,MC _⟩
 |v::l,s,k,T,E,W,M=>by obtain z2:=jl (v:=v) E W M;have H:=z2.2.2;rw[aA];rcases H with⟨_,h2,_⟩|⟨_,h2,_⟩<;>obtain⟨N,Tf,a,b⟩:=td l _ _ _ h2 z2.1 z2.2.1<;>exact⟨N,Tf,a,by rw[MV];lia⟩
theorem xu(M:oJ C)(l:List Ev):(ah (ES.init,C) l).1.WW.made.length<=l.length+5:=by refine bI (td l (ES.init,C) 0 0 jh ⟨show(16777216:Int)<=ES.init.span by decide,show ES.init.span<4294967296 by decide⟩ M) λN Tf z1=>?_;rw[(rP z1.1).1];exact af 0x1080004e80b826334508e88268b2d [] [_,_] z1.2
theorem eH(j:Nat)(s:Int):∀(c:Nat)(n v:Int),(az j s c n v).length=c
 |0,_,_=>rfl
 |c+1,n,v=>congrArg (·+1) (eH j s c _ v)
theorem pJ(j:Nat)(s:Int):∀(c:Nat)(n v:Int),(dy j s c n v).length=c
 |0,_,_=>rfl
 |c+1,n,v=>congrArg (·+1) (pJ j s c _ _)
theorem tJ:∀(c:Nat)(v:Int),(dK c v).length=c
 |0,_=>rfl
 |c+1,v=>congrArg (·+1) (tJ c v)
theorem tu(s:Int):∀(c:Nat)(n o m:Int),(bU s c n o m).length=c
 |0,_,_,_=>rfl
 |c+1,n,o,m=>by
  rw[fA,MV];split;·rw[tu s c]
  ·rw[eH]
theorem tS(j:Nat)(r l:Int):(ct j r l).length<=10:=by
 unfold ct;split;·rw[MV,eH];decide
 ·split<;>rw[MV,MV,eH]<;>decide
theorem wy{l:Int}(h0:1<=d)(h1:d<=2^32):(bP d l).length<=50:=by
 have hs:(aR d).2.1<=32:=by
  cases dS h0 h1 with
  |small _ e=>rw[e];show(0:Int)<=32;decide
  |big g h g0 g1 hh q0 q1 e=>rw[e];show(g:Int)-1<=32;exact af 0x2100009fc413138045c5a9024 [] [_] g1
 unfold bP;rw[MH,eH];split;·decide
 ·split;·rw[pJ];lia
  ·rw[MH,tJ,pJ];lia
theorem oB(B:MA){a b l:Int}(h0:1<=d)(h1:d<=2^32):(B.WV a b d l).length<=62:=by have:=tS 10 (8*(b%2^B.pb)) l;have:=wy (l:=l) h0 h1;unfold MA.WV;rw[MV,MV,MH];lia
theorem vC(B:MA){p:Option aH}(V:iS tx v p):(gV B tx v p).length<=62:=by
 induction p with
 |none=>exact oB B (by decide) (by decide)
 |some p=>
  have f:=V.2;have sm:=V.1;induction p with
  |lit=>
   show(B.Xo _ _ _ _ _).length<=62;unfold MA.Xo;rw[MV];split;·rw[eH];decide
   ·rw[tu];decide
  |mat d sz=>have g:=V.6 (by nofun);have q:=V.3 d sz rfl;have g1:1<=d/\d<=v.pl:=g;have f1:v.pl+sz<=tx.size:=f;exact oB B g1.1 (Dx 0x42784b09210c20003f80000000091118de3915a60873046040772688888a2301427cdbe8104c626080e [_,_,_,_] [_] sm q g1 f1 vK)
  |rep i sz=>
   have:=tS 14 (8*(v.pl%2^B.pb)) sz;show(B.XY _ _ _ _).length<=62;unfold MA.XY MA.Xf;rw[MV,MV,MH];split;·show _+1+1<=62;simp only[MV,Pc];lia
   ·rw[MV];split<;>simp only[MV,Pc]<;>lia
  |short=>show(B.Xs _ _).length<=62;exact MF rfl
theorem tL(B:MA){tx:Array UInt8}:∀(ps:List (Option aH))(v:LS),oR tx v ps->(aC B tx v ps).length<=62*ps.length
 |[],_,_=>MC _
 |p::r,v,V=>by have a:=vC B V.1;have b:=tL B r _ V.2;show(gV B tx v p++aC B tx (bd v p) r).length<=_;rw[MH,MV];exact ao 0x210c20001e97c09942324f841314890afe04ca8267b3c [] [_,_,_] a b
theorem ya(ps:List aH)(m:Bool):(full ps m).length<=ps.length+1:=by unfold full;rw[MH,Mt];cases m<;>simp
noncomputable abbrev Cf:Nat->Int->Int:=λa a=>1024
section
variable{C1:Nat->Int->Int}{m:Nat}
theorem sD(B:MA)(P:PS tx.toList ps v):(f7 B tx (ES.init,Cf) v0 ps).2.pl=tx.size:=by
 rw[pe];have lr:∀(ps:List aH)(v:LS),bS v (ps.map Mc)=sX v ps:=λps=>by
  induction ps with
  |nil=>intro v;rfl
  |cons p r ih=>intro v;exact ih (p.next v)
 rw[lr,P.2,P.3,NB]
theorem sB(P:PS tx.toList ps v):aX tx v0 ps:=by have:=P.1;rwa [RM] at this
theorem pg(P:PS tx.toList ps v)(hps:ps.length<=4):tx.size<=100:=by have:=P.7;rw[NB] at this;exact ao 0x210e4a00022ac8224132082846279041315 [] [_,_] hps this
theorem lO(G:Good Z Kg)(hn:12<=n)(F:mZ A B ja)(W:Wl A B ja Cf C1 m H k J)(hm:m<4)(HT:Z.kt 361=Mc (bt [1,1,1,1]))(hs:dO H sa ps)(hps:ps.length<=4)(P:PS tx.toList ps v)(e1:C1=(fq (B 0) tx Cf ps marked).2)(hd:data=(fq (B 0) tx Cf ps marked).1.WW.made.toArray):ac Z n (.ref 1160) [.ref (B m).m,.ref sa,.bytes tx 0,.bool marked] J (λu J'=>u=.bytes data 0/\Wl A B ja Cf C1 (m+1) H k J'):=by have R:=W.5 m hm;rw[if_neg (Ry m)] at R;refine(gQ (n:=n) G hn (Hx.sub (A m) J) R (Hx.off (A m) J) (F.4 m hm) ((W.4 m hm).hx R) zJ HT hps (yk W hm hs) (by have:=pg P hps;exact db this rfl) (sB P) (sD (B m) P)).aaD λJ' S R' a=>?_;rw[eI (F.1 m hm) (F.2 m hm) (F.3 m hm)] at R' ⊢;rw[<-e1] at R';exact⟨by rw[hd],W.step F hm S R'⟩
theorem zK(G:Good Z Kg)(hn:12<=n)(F:mZ A B ja)(W:Wl A B ja Cf C1 m H k J)(hm:m<4)(HT:Z.kt 361=Mc (bt [1,1,1,1]))(hs:bL (Hx (A m) J) da (bu tx v0 (full ps marked)))(hps:ps.length<=4)(P:PS tx.toList ps v)(e1:C1=(fq (B 0) tx Cf ps marked).2)(hd:data=(fq (B 0) tx Cf ps marked).1.WW.made.toArray):ac Z n (.ref 1167) [.ref (B m).m,.bytes data 0,.bytes tx 0,.ref da] J (λu J'=>u=.bool Mh/\Wl A B ja Cf C1 (m+1) H k J'):=by
 have R:=W.5 m hm;rw[if_neg (Ry m)] at R;have V:=tz (marked:=marked) ps v0 (sB P);have hd':data=(ah (ES.init,Cf) (aC (B m) tx v0 (full ps marked))).1.WW.made.toArray:=by rw[hd,<-eI (F.1 m hm) (F.2 m hm) (F.3 m hm),mS]
 refine GU (rT zJ (xS (B m) _ v0 V).1 hd') λq1 q2 q3 q4 q5 q6 q7=>?_;have sz:data.size<=100000:=by have a:=xu (C:=Cf) zJ (aC (B m) tx v0 (full ps marked));have b:=tL (B m) _ v0 V;have c:=ya ps marked;rw[hd',Oi];exact iK 0x7c61c22843f180007d1423d0ac7f5f02648564b4485704c7e0a1189e1a804131f [] [_,_,_,_] hps a b c
 refine(jJ (n:=n) G hn (Hx.sub (A m) J) R (Hx.off (A m) J) (F.4 m hm) ((W.4 m hm).hx R) zJ HT hs (by have:=pg P hps;exact db this rfl) sz q1 q2 q3 V q4 q5 q6 (by rw[zp,<-pe (B m) tx ps (ES.init,Cf)];exact sD (B m) P)).aaD λJ' S R' d=>?_;rw[q7,<-mS,eI (F.1 m hm) (F.2 m hm) (F.3 m hm),<-e1] at R';exact⟨rfl,W.step F hm S R'⟩
end
noncomputable def we(J0 J:Sg)(x:Mk)(ls:List (List Md)):Prop:=∃as:List Mk,J x=Mc (.list (as.map MJ))/\as.length=ls.length/\∀(j:Nat)(l:List Md),ls[j]?=Mc l->∃a,as[j]?=Mc a/\J a=Mc (.list l)/\J0 a=Mq
section
variable{A:Rows}{B:MA}
theorem pn(G:Good Z Kg)(hn:5<=n)(M:aj J A B)(R:aD J A C):ac Z n (.ref 1153) [.ref B.m] J (λu J'=>∃x,u=.ref x/\J x=Mq/\Sub J J'/\we J J' x (aU B C)):=by
 refine run G (lq hn rfl) ?_;lk;refine(cF (n:=n-1) G (lp hn rfl) M).Wq (MC _) ?_;intro _ τ r1;refine ae r1 λa z6=>?_;rw[z6.1];have hlen:=M.WL;have hb:=i9 M;have Rτ:aD τ A C:=λj hj=>(R j hj).sub z6.2.2.1;refine fc (xs:=bn A) (λj ws J'=>j<=18/\Sub τ J'/\∃as:List Mk,ws=as.map MJ/\as.length=j/\∀(i:Nat),i<j->∃b,as[i]?=Mc b/\J' b=Mc (.list (WZ ((WL B).getD i 0) (C i)))/\τ b=Mq) ⟨Nb _,Sub.rfl,[],rfl,rfl,nofun⟩ (λj ws J' h=>h.2.1 _ _ z6.2.2.2) (by rw[bc];decide) ?_ ?_
 ·intro j v ws J' Q' hv I0 hval _;refine ae I0.2.2 λas z5=>?_;obtain rfl:=z5.1;have hlt:j<18:=by have:=(MK.mp hv).1;rw[bc] at this;exact this
  rw[gJ A hlt] at hv;obtain rfl:=MI hv;have Rj:=(Rτ j hlt).sub I0.2.1;rw[hlen j hlt] at Rj;lk;refine(gq (n:=n-1) G (lp hn rfl) Rj (hb j)).Wq (MC _) ?_;intro _ υ r2;refine ae r2 λx z4=>?_;rw[z4.1];lk;refine hval _ _ _ ⟨hlt,I0.2.1.trans z4.2.2.1,as++[x],by simp,by simp[z5.2.1],λi hi=>?_⟩;by_cases hij:i<j;·refine ae (z5.2.2 i hij) λb z3=>?_;exact⟨b,by rw[M7 (by exact ao KC [] [_,_,_] z5.2.1 hij)];exact z3.1,z4.2.2.1 _ _ z3.2.1,z3.2.2⟩
  ·obtain rfl:i=j:=ao Lc [] [_,_] hi hij;exact⟨x,by rw[MY (Oq z5.2.1),z5.2.1,Nq];rfl,z4.2.2.2,I0.2.1.none z4.2.1⟩
 ·intro ws J' x I0 hx;refine ae I0.2.2 λas z2=>?_;rw[z2.1];have hal:=z2.2.1;have hat:=z2.2.2;rw[bc] at hal hat;have N:=Wt hx (.list (as.map MJ));lk;refine⟨x,rfl,z6.2.2.1.none (I0.2.1.none hx),z6.2.2.1.trans (I0.2.1.trans N),as,aa _ _ _,by rw[hal,bp],λj l hl=>?_⟩;have hlt:j<18:=by have:=(MK.mp hl).1;rw[bp] at this;exact this
  rw[bR hlt] at hl;rw[<-MI hl];refine ae (hat j hlt) λb z1=>?_;exact⟨b,z1.1,N _ _ z1.2.1,z6.2.2.1.none z1.2.2⟩
end
open T in
noncomputable def BL:T:=cst (.ref 1184)<|ld Ks<|cst (.ref 1113)<|ld Kh<|cst (.int 2 0)<|call 2<|idx<|ld Kq<|ld JC<|ld Kb<|ld Km<|ld Jr<|call 6<|ret
open T in
noncomputable def xe:T:=st Js<|cst (.ref 1127)<|ld Js<|call 1<|ld Kq<|Wz (.zip 2) (st Jq<|st 1953459300<|seq (ld Jq<|isi (.ref 159)<|ite (cst (.ref 1179)<|ld Jq<|ld 1953459300<|cst (.ref 1113)<|ld Kh<|ld Jq<|len<|call 2<|ld 6709618<|call 4<|ite (Wy)<|cst (.bool Mg)<|ret)<|Wy)<|Wy)<|Wy
open T in
noncomputable def CQ:T:=ld Ks<|cst .none<|cst (.int 1 0)<|ld Kr<|Xq<|bin .add<|sli<|Wz .seq xe BL
inductive vt(Kt:Mk->Option (List Md))(B:Nat->MA)(H:Sg)(kl sa da:Mk)(ps:List aH)(tx data:Array UInt8)(marked:Bool)(v:LS)(C1:Nat->Int->Int):Prop where
 |mk (HT:Kt 361=Mc (bt [1,1,1,1]))
  (steps:dO H sa ps)
  (bu:bL H da (bu tx v0 (ps.map Mc)))
  (kl:H kl=Mc (.list [.ref (B 0).m,.ref (B 1).m,.ref (B 2).m,.ref (B 3).m]))
  (hps:ps.length<=4)
  (P:PS tx.toList ps v)
  (e1:C1=(fq (B 0) tx Cf ps marked).2)
  (hd:data=(fq (B 0) tx Cf ps marked).1.WW.made.toArray)
noncomputable abbrev EL(ja kl sa da:Mk)(tx:Array UInt8)(marked wide:Bool)(r:Loc):Loc:=(Kh,.ref ja)::(Kr,.bool wide)::(Jr,.bool marked)::(Kb,.ref sa)::(Km,.bytes tx 0)::(JY,.ref da)::(Ks,.ref kl)::r
noncomputable abbrev EF(ja kl sa da:Mk)(tx:Array UInt8)(marked wide:Bool)(pa:Mk)(data:Array UInt8)(far:Int):Loc:=EL ja kl sa da tx marked wide [(Kq,.ref pa),(JC,.bytes data 0),(6709618,.int far 0)]
variable{kl:Mk}
section
variable{C1:Nat->Int->Int}{m:Nat}{wide:Bool}
theorem vt.sub(Y:vt Z.kt B H kl sa da ps tx data marked v C1)(o:Sub H H'):vt Z.kt B H' kl sa da ps tx data marked v C1:=by refine⟨Y.1,?_,Y.3.keep λa c b e=>o a c e,o _ _ Y.4,Y.5,Y.6,Y.7,Y.8⟩;refine ae Y.2 λas z4=>?_;exact⟨as,o _ _ z4.1,z4.2.1,λj p e=>(z4.2.2 j p e).imp λa z2=>z2.imp id (o _ _)⟩
theorem vt.re(Y:vt Z.kt B H kl sa da ps tx data marked v C1)(W:Wl A B ja Cf C1 m H k J):vt Z.kt B (Hb A B ja J) kl sa da ps tx data marked v C1:=Y.sub λa c h=>(W.old h).trans (W.1 _ _ h)
theorem Fd(G:cU Z Kg)(hn:14<=n)(F:mZ A B ja)(W:Wl A B ja Cf C1 4 H k J)(k0:k<=90000)(Y:vt Z.kt B H kl sa da ps tx data marked v C1)(Lp:aM H pa (aU (B 0) C1)):X Z n (bY λu a=>u=.bool Mh) [] J (EL ja kl sa da tx marked wide [(Kq,.ref pa),(JC,.bytes data 0)]) [] BL:=by
 unfold BL;lk;refine(aF (n:=n) G.toGood (jR hn rfl) W.3 (oV k0 rfl) (by decide) (by decide +kernel)).X4 λJ1 r r0 r1 LV c1=>?_;have W1:=W.Z9 F LV c1;have hkl:=W1.1 _ _ Y.4;have fin:∀i,i<4->ac Z n (.ref 1184) [.ref (B i).m,.ref pa,.bytes data 0,.ref sa,.bytes tx 0,.bool marked] J1 (λu a=>u=.bool Mh):=λi hi=>by
  have R:=W1.5 i hi;rw[if_pos hi] at R;have hs:=Y.2;refine iM (n:=n) G.toGood hn W1.1 (λj hj=>⟨W1.2 _ (.inr ⟨i,hi,.inl ⟨j,hj,.inl rfl⟩⟩),W1.2 _ (.inr ⟨i,hi,.inl ⟨j,hj,.inr rfl⟩⟩)⟩) (λa ha=>W1.2 _ (.inr ⟨i,hi,.inr ha⟩)) (W1.4 i hi) (F.5 i hi) (F.4 i hi) ?_ R ?_ hs Y.1 Y.5 (by have:=pg Y.6 Y.5;exact db this rfl) (sB Y.6) (sD (B i) Y.6) ?_;·rw[eI (F.1 i hi) (F.2 i hi) (F.3 i hi)];exact Y.7
  ·rw[mJ (F.1 i hi) (F.2 i hi) (F.3 i hi)];exact Lp
  ·rw[eI (F.1 i hi) (F.2 i hi) (F.3 i hi)];exact Y.8
 lk;have hr:r=0∨r=1:=by lia
 rcases hr with rfl|rfl;·refine av hkl (by decide) (by decide) rfl ?_;lk;refine(fin 0 (by decide)).Wq (MC _) ?_;rintro _ J2 rfl;lk;rfl
 ·refine av hkl (by decide) (by decide) rfl ?_;lk;refine(fin 1 (by decide)).Wq (MC _) ?_;rintro _ J2 rfl;lk;rfl
end
section
variable{C1:Nat->Int->Int}{m:Nat}{wide:Bool}
theorem Bd(G:cU Z Kg)(hn:12<=n)(F:mZ A B ja)(W:Wl A B ja Cf C1 4 H k J)(k0:k<=80000)(hi:i<4)(Lp:aM H pa (aU (B 0) C1))(f0:0<=far)(q:∀J' k',k'<=k+18->Wl A B ja Cf C1 4 H k' J'->XN Q' J' (EF ja kl sa da tx marked wide pa data far)):X Z n Q' [] J (EF ja kl sa da tx marked wide pa data far) [.ref (B i).m] xe:=by
 have Mi:=W.4 i hi;unfold xe;lk;refine(cF (n:=n) G.toGood (jR hn rfl) Mi).Yd λJ1 x hx S1 hx1=>?_;have W1:=W.XA S1;have nx:¬Mv A B ja x:=W.new hx;lk;have hlen:=Mi.WL;have hb:=i9 Mi;refine ae Lp.aaJ λbs z2=>?_;have b1:=z2.1;have b2:=z2.2.1;have b3:=z2.2.2;have hsame:∀j,(WL (B 0)).getD j 0=(WL (B i)).getD j 0:=λj=>by rw[oS (F.1 i hi) (F.2 i hi) (F.3 i hi)]
 have nj:x≠ja:=λz=>nx (.inl z);refine wY (as:=[x,pa]) (st:=[]) (N:=18) (hd:=λj=>[(bn (A i)).getD j .none,(bs.map MJ).getD j .none]) rfl
  (λj E' J'=>E'=EF ja kl sa da tx marked wide pa data far/\J' x=Mc (.list (bn (A i)))/\Wl A B ja Cf C1 4 H (k+j) J')
  ⟨_,⟨rfl,hx1,by rw[show k+((0:Nat):Int)=k from PE k];exact W1⟩,rfl⟩ ?_ ?_ ?_
 ·intro j E' J' r1;have w1:=r1.2.1;have w2:=r1.2.2;exact BY w1 (w2.1 _ _ b1) (bc (A i)) (by rw[Mt];exact b2) j
 ·intro j E' J' Q'' hj I0 hnext _;rw[I0.1];have w1:=I0.2.1;have w2:=I0.2.2;rw[fi (A i) hj,oH (by exact ao KR [] [_,_] b2 hj)];have Rj:=w2.5 i hi j hj;rw[if_pos hi,hlen j hj] at Rj;have bj:=w2.1 _ _ (b3 j hj);rw[hsame] at bj;have hp:=rB (B i) hj;have hbj:=hb j;generalize hle:(WL (B i)).getD j 0=len at*;lk;rcases Rj.isi with⟨hi1,he,mm,hm,D⟩|⟨hi1,_,_⟩
  ·refine ir (r:=Mh) ?_ hi1;lk;refine Rj.len G.toGood (jR hn rfl) (kG hbj rfl) ?_;lk;refine(aF (n:=n) G.toGood (jR hn rfl) w2.3 (ao 0x421840003d210504e71002081ec3500bc16782c [_] [_] k0 hj) (nA hp) ?_).Wq (MC _) ?_;·have:(len:Int).natAbs=len:=rfl;rw[this];exact QZ ((UK (λzz=>fb 0x845080007a81187c150b [] [_] zz hp)).mpr (show len<2^17 by exact kG hbj rfl)) (by decide)
   intro _ J2 I0;refine ae I0 λb z1=>?_;rw[z1.1];have p0:=z1.2.1;have p1:=z1.2.2.1;have LX:=z1.2.2.2.1;have c2:=z1.2.2.2.2;have W2:=w2.Z9 F LX c2;have Rj2:=W2.5 i hi j hj;rw[if_pos hi,hlen j hj,hle] at Rj2;have he2:=c2.1 _ _ (λz=>F.7 i hi ⟨j,hj,.inl z.symm⟩) he;have bj2:=W2.1 _ _ (b3 j hj);rw[hsame,hle] at bj2;have hx2:=c2.1 _ _ nj w1;lk;refine(j8 (n:=n) G (jR hn rfl) he2 Rj2 hbj bj2 p0 p1 f0).Wr λJ3 r2=>?_;have S3:=r2;lk;refine hnext ⟨_,⟨rfl,S3 _ _ hx2,?_⟩,rfl⟩;have:=W2.XA S3;rw[show k+((j+1:Nat):Int)=k+j+1 from ck 0x4031782cf7104fc16e241 [_] [_]];exact this
  ·refine ir (r:=Mg) ?_ hi1;lk;refine hnext ⟨_,⟨rfl,w1,?_⟩,rfl⟩;have Lz:=w2.3;exact⟨w2.1,w2.2,Lz.le (ck 0x18827e0bbc167834 [_] [_]),w2.4,w2.5⟩
 ·intro E' J' I0;rw[I0.1];have w1:=I0.2.1;have w2:=I0.2.2;exact q _ _ (QL _) w2
end
section
variable{C1:Nat->Int->Int}{m:Nat}{wide:Bool}
theorem xi(W:Wl A B ja Cf C1 m H k J)(L:aM H x ls):aM (Hb A B ja J) x ls:=by have o:∀{a:Mk}{c:Cell},H a=Mc c->Hb A B ja J a=Mc c:=λ{a c} h=>(W.old h).trans (W.1 _ _ h);refine ae L λas z4=>?_;exact⟨as,o z4.1,z4.2.1,λj l e=>by refine ae (z4.2.2 j l e) λy z3=>?_;exact⟨y,z3.1,o z3.2⟩⟩
theorem Dy(G:cU Z Kg)(hn:14<=n)(F:mZ A B ja)(W:Wl A B ja Cf C1 4 H k J)(k0:k<=70000)(Y:vt Z.kt B H kl sa da ps tx data marked v C1)(Lp:aM H pa (aU (B 0) C1))(f0:0<=far):X Z n (bY λu a=>u=.bool Mh) [] J (EF ja kl sa da tx marked wide pa data far) [] CQ:=by
 unfold CQ;lk;have hkl:=W.1 _ _ Y.4;have hw:(0:Int)<=1+(if wide=Mh then 1 else 0)/\1+(if wide=Mh then 1 else 0:Int)<=2:=by cases wide<;>decide
 generalize 1+(if wide=Mh then(1:Int) else 0)=w at*;refine iA (i:=0) (j:=w.toNat) hkl ?_ (MF rfl) λx hx=>?_;·exact sN hw.1 (ao 0x423842003d00000000000000002444a108220417c8e6090e [_,_] [] hw ej)
 have W1:=W.XA (Wt hx (.list (([MJ (B 0).m,.ref (B 1).m,.ref (B 2).m,.ref (B 3).m].take w.toNat).drop 0)));have nx:=W.new hx;have hx1:upd J x (.list (([MJ (B 0).m,.ref (B 1).m,.ref (B 2).m,.ref (B 3).m].take w.toNat).drop 0)) x=_:=aa _ _ _;generalize upd J x (.list (([MJ (B 0).m,.ref (B 1).m,.ref (B 2).m,.ref (B 3).m].take w.toNat).drop 0))=J1 at*;have W2:=W1.re;have X2:=Y.re W1;have Lp2:=xi W1 Lp;have hxH:=Hb.at nx hx1;generalize Hb A B ja J1=H2 at*;refine eS (λ(_:Int)(_ _:Unit)=>EF ja kl sa da tx marked wide pa data far) (λj k' a a J'=>k'<=k+18*j/\Wl A B ja Cf C1 4 H2 k' J')
  k () () ⟨ck 0x1f204482e0828 [_] [],W2⟩ rfl (λa a a a a z=>z.2.1 _ _ hxH) ?_ ?_
 ·intro j u k' _ _ J' Q' hu z2 hnext _;have hj:j<4/\u=.ref (B j).m:=by
   rw[SU,QK] at hu;split at hu;·exact Gk (n:=4) (λj=>MJ (B j).m) hu
   ·cases hu
  rw[hj.2];refine Bd G (lq hn rfl) F z2.2 (aS 0x2451421840005b041411bc81124470416c45c048808671002081e [_,_] [_] k0 z2.1 hj.1) hj.1 Lp2 f0 λJ2 k2 hk2 v1=>hnext k2 () () ⟨ao 0x108610000f48445704105e408922388a0c6209f9022488e083a [_,_,_] [_] z2.1 hk2,v1⟩ rfl
 ·intro k' _ _ J' z1;have:(([MJ (B 0).m,.ref (B 1).m,.ref (B 2).m,.ref (B 3).m].take w.toNat).drop 0).length<=4:=by rw[SU,OI];exact TU _ _
  exact fD (Fd G hn F z1.2 (aS 0x2451421840005b041311bc81124470416c45c0488086bf202081e [_,_] [_] k0 z1.1 this) X2 Lp2) rfl
end
open T in
noncomputable def CB:T:=cst (.ref 1153)<|ld Ks<|cst (.int 0 0)<|idx<|call 1<|st Kq<|seq (ld Ks<|cst (.int 1 0)<|cst .none<|sli<|Xn Mg Js (cst (.ref 1153)<|ld Js<|call 1<|yld)<|ld Kq<|W9 1<|cst (.int 3 0)<|bin .mul<|eqv Mh<|ite (cst (.bool Mg)<|ret)<|Wy)<|cst (.int 0 0)<|cst (.int 1 0)<|cst (.ref 1113)<|ld Kh<|cst (.int 10 0)<|cst (.int 20 0)<|bin .pow<|call 2<|W9 3<|cst (.ref 1113)<|ld Kh<|cst (.int 3 0)<|call 2<|idx<|st 6709618<|CQ
variable{P:List (List Md)}
section
variable{C1:Nat->Int->Int}{m:Nat}{wide:Bool}
noncomputable def Tl(J:Sg)(ws:List Md)(P:List (List Md)):Prop:=∀v,v∈ws->∃b,v=.ref b/\aM J b P
theorem Tl.sub(T:Tl J ws P)(S:Sub J J'):Tl J' ws P:=λv h=>(T v h).imp λa z=>z.imp id (·.sub S)
theorem Tl.Zb(T:Tl J ws P)(L:aM J b P):Tl J (ws++[.ref b]) P:=λv h=>(Oo.mp h).elim (T v) λh=>⟨b,MM.mp h,L⟩
theorem EC{e r:Int}(e0:0<=e)(e1:e<3)(r0:0<=r):∃f:Int,And (0<=f) ([OC 0 0,.int 1 0,.int r 0][e.toNat]?=Mc (.int f 0)):=by
 have he:e=0∨e=1∨e=2:=by lia
 rcases he with rfl|rfl|rfl;·exact⟨0,by decide,rfl⟩
 ·exact⟨1,by decide,rfl⟩
 ·exact⟨r,r0,rfl⟩
theorem EJ(G:cU Z Kg)(hn:14<=n)(F:mZ A B ja)(W:Wl A B ja Cf C1 4 H k J)(kk:0<=k)(k0:k<=60000)(Y:vt Z.kt B H kl sa da ps tx data marked v C1):X Z n (bY λu d=>u=.bool Mh) [] J (EL ja kl sa da tx marked wide [(JC,.bytes data 0)]) [] CB:=by
 unfold CB;lk;have hkl:=W.1 _ _ Y.4;refine av hkl (by decide) (by decide) rfl ?_;lk;have R0:=W.5 0 (by decide);rw[if_pos (by decide)] at R0;refine(pn (n:=n) G.toGood (jR hn rfl) (W.4 0 (by decide)) R0).Yd λJ1 pa hpa S1 N1=>?_;have W1:=W.XA S1;have nw:∀{a:Mk},J a=Mq->¬Mv A B ja a:=λh=>W.new h;have Lp:aM (Hb A B ja J1) pa (aU (B 0) C1):=by refine ae N1 λas zq5=>?_;have q1:=zq5.1;have q2:=zq5.2.1;have q3:=zq5.2.2;exact⟨as,Hb.at (nw hpa) q1,q2,λj l e=>by obtain⟨a,w1,w2,w3⟩:=q3 j l e;exact⟨a,w1,Hb.at (nw w3) w2⟩⟩
 have W2:=W1.re;have X2:=Y.re W1;generalize Hb A B ja J1=H2 at*;lk;have hkl:=W2.1 _ _ X2.4;refine iA (i:=1) (j:=4) hkl (by rfl) (MF rfl) λx hx=>?_;have W3:=W2.XA (Wt hx (.list (([MJ (B 0).m,.ref (B 1).m,.ref (B 2).m,.ref (B 3).m].take 4).drop 1)));have nx:=W2.new hx;have hx1:upd J1 x (.list (([MJ (B 0).m,.ref (B 1).m,.ref (B 2).m,.ref (B 3).m].take 4).drop 1)) x=_:=aa _ _ _;generalize upd J1 x (.list (([MJ (B 0).m,.ref (B 1).m,.ref (B 2).m,.ref (B 3).m].take 4).drop 1))=J2 at*;have W4:=W3.re;have hxH:=Hb.at nx hx1;have o2:Sub H2 (Hb A B ja J2):=λa c h=>(W3.old h).trans (W3.1 _ _ h);generalize Hb A B ja J2=H3 at*;refine fc (xs:=[MJ (B 1).m,.ref (B 2).m,.ref (B 3).m]) (λj ws J'=>Wl A B ja Cf C1 4 H3 k J'/\ws.length=j/\Tl J' ws (aU (B 0) C1)) ⟨W4,rfl,nofun⟩ (λj ws J' h=>h.1.1 _ _ hxH) (MF rfl) ?_ ?_;·intro j u ws J' Q' hu I0 hval _;have hj:=Gk (n:=3) (λj=>MJ (B (j+1)).m) hu;rw[hj.2];replace hj:=hj.1;have Rj:=I0.1.5 (j+1) (kG hj rfl);rw[if_pos (show j+1<4 from kG hj rfl)] at Rj;lk;refine(cO (n:=n) G.toGood (jR hn rfl) (I0.1.4 (j+1) (kG hj rfl)) Rj).Yd λJ3 b hb S3 L3=>?_;rw[mJ (F.1 (j+1) (kG hj rfl)) (F.2 (j+1) (kG hj rfl)) (F.3 (j+1) (kG hj rfl))] at L3;lk;exact hval _ _ _ ⟨I0.1.XA S3,MH.trans (congrArg (·+1) I0.2.1),(I0.2.2.sub S3).Zb L3⟩
 intro ws J3 y I0 hy;have N:=Wt hy (.list ws);have hy1:=aG N;have w2:=I0.1.XA N;generalize upd J3 y (.list ws)=J4 at*;lk;intro y2 hy2;have N2:=Wt hy2 (.list [MJ pa]);have hy2':=aG N2;have w3:=w2.XA N2;have hy1:=N2 _ _ hy1;generalize upd J4 y2 (.list [MJ pa])=J5 at*;lk;refine j5 hy2' (by decide) λz hz=>?_;have N3:=Wt hz (.list (M8 (3:Int).toNat (MJ pa)));have hz':=aG N3;have w4:=w3.XA N3;have hy1:=N3 _ _ hy1;have T:=I0.2.2.sub (N.trans (N2.trans N3));generalize upd J5 z (.list (M8 (3:Int).toNat (MJ pa)))=J6 at*;have Lp6:=Lp.sub (o2.trans w4.1);refine kC (.same (eT hy1 hz' (I0.2.1.trans NW.symm) λj u w e e'=>?_)) ?_;·rw[List.eq_of_mem_replicate (MO e')];refine ae (T u (MO e)) λb z=>?_;rw[z.1];exact lJ z.2 Lp6
 lk;refine(aF (n:=n) G.toGood (jR hn rfl) w4.3 (oV k0 rfl) (by decide) (by decide +kernel)).X4 λJ7 r r0 r1 Lx c7=>?_;have w7:=w4.Z9 F Lx c7;lk;intro y3 hy3;have N4:=Wt hy3 (.list [.int 0 0,.int 1 0,.int r 0]);have hy3':upd J7 y3 (.list [.int 0 0,.int 1 0,.int r 0]) y3=_:=aa _ _ _;have w8:=w7.XA N4;have nj3:y3≠ja:=λz=>w7.new hy3 (.inl z);generalize upd J7 y3 (.list [.int 0 0,.int 1 0,.int r 0])=J8 at*;lk;refine(aF (n:=n) G.toGood (jR hn rfl) w8.3 (ill k0 rfl) (by decide) (by decide +kernel)).X4 λJ9 e e0 e1 Lm c9=>?_;have w9:=w8.Z9 F Lm c9;have hy9:=c9.1 _ _ nj3 hy3';lk;refine ae (EC e0 e1 r0) λf z=>?_;refine av hy9 e0 (oV e1 rfl) z.2 ?_;exact eQ (fD (Dy (far:=f) G hn F w9 (af 0x8400027d4c02081d88b808882ce6d838 [_] [] k0) (X2.sub o2) (Lp.sub o2) z.1 (wide:=wide)) rfl)
end
open T in
noncomputable def xc:T:=st Js<|seq (cst (.ref 1167)<|ld Js<|ld JC<|ld Km<|ld JY<|cst (.str "end" 0)<|Xy 1<|W9 1<|ld Jr<|Xq<|bin .mul<|bin .add<|call 4<|ite (Wy)<|cst (.bool Mg)<|ret)<|Wy
open T in
noncomputable def Cs:T:=cst (.ref 1160)<|ld Ks<|cst (.int 0 0)<|idx<|ld Kb<|ld Km<|ld Jr<|call 4<|st JC<|seq (ld JC<|isn Mg<|ite (cst (.bool Mg)<|ret)<|cst (.ref 1160)<|ld Ks<|cst (.int 1 0)<|idx<|ld Kb<|ld Km<|ld Jr<|call 4<|ld JC<|eqv Mh<|ite (cst (.bool Mg)<|ret)<|Wy)<|ld Ks<|cst (.int 2 0)<|cst .none<|sli<|Wz .seq xc CB
section
variable{C1:Nat->Int->Int}{m:Nat}{wide:Bool}
theorem XN.wk{E':Loc}(q:XN Q J E')(h:Wk E E'):XN Q J E:=λρ r=>q ρ (h.up r)
theorem Be(G:cU Z Kg)(hn:12<=n)(F:mZ A B ja)(W:Wl A B ja Cf C1 m H k J)(hm:m<4)(Y:vt Z.kt B H kl sa da ps tx data marked v C1)(q:∀J',Wl A B ja Cf C1 (m+1) H k J'->XN Q' J' (EL ja kl sa da tx marked wide [(JC,.bytes data 0)])):X Z n Q' [] J (EL ja kl sa da tx marked wide [(JC,.bytes data 0)]) [.ref (B m).m] xc:=by
 unfold xc;lk;intro t ht;have N1:=Wt ht (.tup [.str "end" 0]);have ht1:upd J t (.tup [.str "end" 0]) t=_:=aa _ _ _;have W1:=W.XA N1;have nt:=W.new ht;generalize upd J t (.tup [.str "end" 0])=J1 at*;lk;intro l1 hl1;have N2:=Wt hl1 (.list [.ref t]);have hl1':upd J1 l1 (.list [.ref t]) l1=_:=aa _ _ _;have W2:=W1.XA N2;have ht2:=N2 _ _ ht1;generalize upd J1 l1 (.list [.ref t])=J2 at*;lk;refine j5 hl1' (by cases marked<;>decide) λl2 hl2=>?_;have N3:=Wt hl2 (.list (M8 (if marked=Mh then(1:Int) else 0).toNat (.ref t)));have hl2':upd J2 l2 (.list (M8 (if marked=Mh then(1:Int) else 0).toNat (.ref t))) l2=_:=aa _ _ _;have W3:=W2.XA N3;have ht3:=N3 _ _ ht2;generalize upd J2 l2 (.list (M8 (if marked=Mh then(1:Int) else 0).toNat (.ref t)))=J3 at*;refine ae Y.3 λds z2=>?_;have hds:=W3.1 _ _ z2.1;have hdl:ds.length<=4:=by rw[z2.2.1,jA,Mt];exact Y.5
 refine d5 hds hl2' (by rw[Mt,NW];cases marked<;>simp<;>exact db hdl rfl) λdd hdd=>?_;have N4:=Wt hdd (.list (ds.map MJ++M8 (if marked=Mh then(1:Int) else 0).toNat (.ref t)));have hdd':upd J3 dd (.list (ds.map MJ++M8 (if marked=Mh then(1:Int) else 0).toNat (.ref t))) dd=_:=aa _ _ _;have W4:=W3.XA N4;have nd:=W3.new hdd;have ht4:=N4 _ _ ht3;generalize upd J3 dd (.list (ds.map MJ++M8 (if marked=Mh then(1:Int) else 0).toNat (.ref t)))=J4 at*;have TD:bL (Hx (A m) J4) dd (bu tx v0 (full ps marked)):=by
  refine⟨ds++M8 (if marked=Mh then(1:Int) else 0).toNat t,Hx.at (λz=>nd (.inr ⟨m,hm,.inl z⟩)) (by rw[hdd',Oc,List.map_replicate]),?_,λj l e=>?_⟩;·rw[oK,MH,MH,z2.2.1,NW];cases marked<;>rfl
  ·rw[oK] at e;by_cases hj:j<ds.length;·rw[M7 (by rw[<-z2.2.1];exact hj)] at e;refine ae (z2.2.2 j l e) λa z1=>?_;exact⟨a,by rw[M7 hj];exact z1.1,W4.hx hm z1.2⟩
   ·rw[MY (by rw[<-z2.2.1];exact Rd hj),<-z2.2.1] at e;rw[MY (Rd hj)];refine⟨t,?_,?_⟩
    ·cases marked with
     |false=>cases e
     |true=>
      have:j-ds.length=0:=by have:=(MK.mp e).1;simp at this;exact this
      rw[this];rfl
    ·cases marked with
     |false=>cases e
     |true=>
      have:j-ds.length=0:=by have:=(MK.mp e).1;simp at this;exact this
      rw[this] at e;rw[<-MI e];exact Hx.at (λz=>nt (.inr ⟨m,hm,.inl z⟩)) ht4
 lk;refine(zK (n:=n) G.toGood hn F W4 hm Y.1 TD Y.5 Y.6 Y.7 Y.8).Wr λJ5 r1=>?_;have W5:=r1;lk;exact XN.wk (q _ W5) rfl
theorem EN(G:cU Z Kg)(hn:14<=n)(F:mZ A B ja)(W:Wl A B ja Cf C1 0 H k J)(kk:0<=k)(k0:k<=60000)(Y:vt Z.kt B H kl sa da ps tx data marked v C1):X Z n (bY λu a=>u=.bool Mh) [] J (EL ja kl sa da tx marked wide []) [] Cs:=by
 unfold Cs;lk;have hkl:=W.1 _ _ Y.4;refine av hkl (by decide) (by decide) rfl ?_;lk;refine(lO (n:=n) G.toGood (jR hn rfl) F W (by decide) Y.1 Y.2 Y.5 Y.6 Y.7 Y.8).Wr λJ1 W1=>?_;lk;have hkl:=W1.1 _ _ Y.4;refine av hkl (by decide) (by decide) rfl ?_;lk;refine(lO (n:=n) G.toGood (jR hn rfl) F W1 (by decide) Y.1 Y.2 Y.5 Y.6 Y.7 Y.8).Wr λJ2 W2=>?_;lk;refine kC iN ?_;lk;have hkl:=W2.1 _ _ Y.4;refine iA (i:=2) (j:=4) hkl (by rfl) (MF rfl) λx hx=>?_;have W3:=W2.XA (Wt hx (.list (([MJ (B 0).m,.ref (B 1).m,.ref (B 2).m,.ref (B 3).m].take 4).drop 2)));have nx:=W2.new hx;have hx1:upd J2 x (.list (([MJ (B 0).m,.ref (B 1).m,.ref (B 2).m,.ref (B 3).m].take 4).drop 2)) x=_:=aa _ _ _;generalize upd J2 x (.list (([MJ (B 0).m,.ref (B 1).m,.ref (B 2).m,.ref (B 3).m].take 4).drop 2))=J3 at*;have W4:=W3.re;have X2:=Y.re W3;have hxH:=Hb.at nx hx1;generalize Hb A B ja J3=H2 at*;refine eS (xs:=[MJ (B 2).m,.ref (B 3).m]) (λ(_ _ _:Unit)=>EL ja kl sa da tx marked wide [(JC,.bytes data 0)]) (λj a a a J'=>Wl A B ja Cf C1 (2+j) H2 k J') () () () W4 rfl (λa a a a a z=>z.1 _ _ hxH) ?_ ?_;·intro j u _ _ _ J' Q' hu I0 hnext _;have hj:=Gk (n:=2) (λj=>MJ (B (2+j)).m) hu;rw[hj.2];exact Be G (lq hn rfl) F I0 (af 0x2100009c20a08414056841f [] [_] hj.1) X2 λJ4 v1=>hnext () () () v1 rfl
 ·intro _ _ _ J' w1;exact EJ G hn F w1 kk k0 X2
end
open T in
noncomputable def zI:T:=cst (.ref 349)<|ld Jm<|call 1<|cst (.ref 1141)<|cst (.ref 349)<|ld Jm<|call 1<|call 1<|cst (.ref 349)<|ld Jm<|call 1<|cst (.ref 1141)<|cst (.ref 349)<|ld Jm<|call 1<|call 1<|W9 4<|st Ks<|Cs
noncomputable def bV(a b c d:α):Nat->α
 |0=>a
 |1=>b
 |2=>c
 |_=>d
theorem GJ(D:∀j,j<4->∀i,i<j->∀a,aE (A i) a->¬aE (A j) a):∀i j,i<4->j<4->i≠j->∀a,aE (A i) a->¬aE (A j) a:=λi j hi hj ne=>
 (SS ne).elim (λh=>D j hj i h) λh a x y=>D i hi j h a y x
section
variable{wide:Bool}{lp:Nat}
theorem iC{A:Rows}(R:aD J A C)(h:aE A a):J a≠none:=λz=>lA R z h
theorem EX(G:cU Z Kg)(hn:14<=n)(hc:lc<=1)(hp:lp<=1)(hb:pb<=4)(Pp:J p=Mc (yP lc lp pb))(Lz:nv J ja k)(kk:0<=k)(k0:k<=50000)(HT:Z.kt 361=Mc (bt [1,1,1,1]))(Sa:bL J sa (ps.map aH.vals))(Da:bL J da (bu tx v0 (ps.map Mc)))(na:sa≠ja)(nd:da≠ja)(hps:ps.length<=4)(P:PS tx.toList ps v):X Z n (bY λu b=>u=.bool Mh) [] J [(Kh,.ref ja),(Kr,.bool wide),(Jr,.bool marked),(Kb,.ref sa),(Km,.bytes tx 0),(JY,.ref da),(Jm,.ref p)] [] zI:=by
 unfold zI;lk;refine(cE (n:=n) G.toGood (jR hn rfl) hc hp hb Pp).aab λJa A0 B0 D0=>?_;have Sa0:=D0.3;lk;refine(cE (n:=n) G.toGood (jR hn rfl) hc hp hb (Sa0 _ _ Pp)).aab λJb A1' B1 D1=>?_;lk;refine(je (n:=n) G.toGood (jR hn rfl) D1.4 D1.2 D1.5).Wr λJc r3=>?_;refine ae r3 λA1 E1=>?_;have Sac:Sub Ja Jc:=E1.5.sub D1.3 D1.8;lk;refine(cE (n:=n) G.toGood (jR hn rfl) hc hp hb (Sac _ _ (Sa0 _ _ Pp))).aab λJd A2 B2 D2=>?_;have Scd:=D2.3;lk;refine(cE (n:=n) G.toGood (jR hn rfl) hc hp hb (Scd _ _ (Sac _ _ (Sa0 _ _ Pp)))).aab λJe A3' B3 D3=>?_;lk;refine(je (n:=n) G.toGood (jR hn rfl) D3.4 D3.2 D3.5).Wr λJf r4=>?_;refine ae r4 λA3 E3=>?_;have Sdf:Sub Jd Jf:=E3.5.sub D3.3 D3.8;lk;intro kl hkl;have Sfg:=Wt hkl (.list [.ref B0.m,.ref B1.m,.ref B2.m,.ref B3.m]);have hkl1:upd Jf kl (.list [.ref B0.m,.ref B1.m,.ref B2.m,.ref B3.m]) kl=_:=aa _ _ _;generalize upd Jf kl (.list [.ref B0.m,.ref B1.m,.ref B2.m,.ref B3.m])=Jg at*;have Sag:=Sac.trans (Scd.trans (Sdf.trans Sfg));have Scg:=Scd.trans (Sdf.trans Sfg);have Sdg:=Sdf.trans Sfg;have Ssg:=Sa0.trans Sag;have nn:∀{A:Rows}{τ:Sg},(∀j,j<18->τ (A.ra j)=Mq/\τ (A.da j)=Mq)->∀a,aE A a->τ a=none:=by
  rintro A τ N a ⟨j,hj,rfl|rfl⟩;·exact(N j hj).1
  ·exact(N j hj).2
 have n0:=nn D0.7;have n1:∀a,aE A1 a->Ja a=none:=λa h=>D1.3.none (nn E1.4 a h);have n2:=nn D2.7;have n3:∀a,aE A3 a->Jd a=none:=λa h=>D3.3.none (nn E3.4 a h);have r0:∀a,aE A0 a->Ja a≠none:=λa h=>iC D0.5 h;have r1:∀a,aE A1 a->Jc a≠none:=λa h=>iC E1.2 h;have r2:∀a,aE A2 a->Jd a≠none:=λa h=>iC D2.5 h;have low:∀i,i<4->∀a,aE (bV A0 A1 A2 A3 i) a∨W6 (bV B0 B1 B2 B3 i) a->J a=none:=by
  refine iL ?_ ?_ ?_ ?_
  ·rintro a (h|h);·exact n0 a h
   ·exact D0.8 a h
  ·rintro a (h|h);·exact Sa0.none (n1 a h)
   ·exact Sa0.none (D1.8 a h)
  ·rintro a (h|h);·exact Sa0.none (Sac.none (n2 a h))
   ·exact Sa0.none (Sac.none (D2.8 a h))
  ·rintro a (h|h);·exact Sa0.none (Sac.none (Scd.none (n3 a h)))
   ·exact Sa0.none (Sac.none (Scd.none (D3.8 a h)))
 refine ae (ce Lz) λxj hj=>?_;have F:mZ (bV A0 A1 A2 A3) (bV B0 B1 B2 B3) ja:=by
  refine⟨?_,?_,?_,?_,?_,?_,?_⟩;·exact iL rfl (D1.1.2.1.trans D0.1.2.1.symm) (D2.1.2.1.trans D0.1.2.1.symm) (D3.1.2.1.trans D0.1.2.1.symm)
  ·exact iL rfl (D1.1.2.2.1.trans D0.1.2.2.1.symm) (D2.1.2.2.1.trans D0.1.2.2.1.symm) (D3.1.2.2.1.trans D0.1.2.2.1.symm)
  ·exact iL rfl (D1.1.2.2.2.trans D0.1.2.2.2.symm) (D2.1.2.2.2.trans D0.1.2.2.2.symm) (D3.1.2.2.2.trans D0.1.2.2.2.symm)
  ·exact iL D0.6 E1.3 D2.6 E3.3
  ·exact iL D0.2 D1.2 D2.2 D3.2
  ·have d01:∀a,aE A0 a->¬aE A1 a:=λa h h'=>r0 a h (n1 a h');have d02:∀a,aE A0 a->¬aE A2 a:=λa h h'=>r0 a h (Sac.none (n2 a h'));have d03:∀a,aE A0 a->¬aE A3 a:=λa h h'=>r0 a h (Sac.none (Scd.none (n3 a h')));have d12:∀a,aE A1 a->¬aE A2 a:=λa h h'=>r1 a h (n2 a h');have d13:∀a,aE A1 a->¬aE A3 a:=λa h h'=>r1 a h (Scd.none (n3 a h'));have d23:∀a,aE A2 a->¬aE A3 a:=λa h h'=>r2 a h (n3 a h');exact GJ (A:=bV A0 A1 A2 A3) (iL (p:=λj=>∀i,i<j->∀a,aE (bV A0 A1 A2 A3 i) a->¬aE (bV A0 A1 A2 A3 j) a) uQ (cm uQ d01) (cm (cm uQ d02) d12) (cm (cm (cm uQ d03) d13) d23))
  ·intro i hi h;have:=low i hi ja (.inl h);rw[hj] at this;cases this
 have nmv:∀{a:Mk}{c:Cell},J a=Mc c->a≠ja->¬Mv (bV A0 A1 A2 A3) (bV B0 B1 B2 B3) ja a:=by
  rintro a c h hne (z|⟨i,hi,z⟩);·exact hne z
  ·rw[low i hi a z] at h;cases h
 have W:Wl (bV A0 A1 A2 A3) (bV B0 B1 B2 B3) ja Cf (fq B0 tx Cf ps marked).2 0 (λb=>Mq) k Jg:=by
  refine⟨λa c h=>(by cases h),λb b=>rfl,Lz.sub Ssg,?_,?_⟩;·exact iL (D0.4.Wq Sag) (E1.1.Wq Scg) (D2.4.Wq Sdg) (E3.1.Wq Sfg)
  ·refine iL ?_ ?_ ?_ ?_;·exact λj hj=>(D0.5 j hj).sub Sag
   ·exact λj hj=>(E1.2 j hj).sub Scg
   ·exact λj hj=>(D2.5 j hj).sub Sdg
   ·exact λj hj=>(E3.2 j hj).sub Sfg
 have W2:=W.re;have o:∀{a:Mk}{c:Cell},J a=Mc c->a≠ja->Hb (bV A0 A1 A2 A3) (bV B0 B1 B2 B3) ja Jg a=Mc c:=λh hne=>Hb.at (nmv h hne) (Ssg _ _ h);have tne:∀{a:Mk}{xs:List Md},J a=Mc (.tup xs)->a≠ja:=λ{a xs} h z=>by rw[z,hj] at h;cases h
 have nkl:¬Mv (bV A0 A1 A2 A3) (bV B0 B1 B2 B3) ja kl:=by
  have W':Wl (bV A0 A1 A2 A3) (bV B0 B1 B2 B3) ja Cf (fq B0 tx Cf ps marked).2 0 (λb=>Mq) k Jf:=by
   refine⟨λa c h=>(by cases h),λb b=>rfl,Lz.sub (Sa0.trans (Sac.trans (Scd.trans Sdf))),?_,?_⟩;·exact iL (D0.4.Wq (Sac.trans (Scd.trans Sdf))) (E1.1.Wq (Scd.trans Sdf)) (D2.4.Wq Sdf) E3.1
   ·refine iL ?_ ?_ ?_ ?_;·exact λj hj=>(D0.5 j hj).sub (Sac.trans (Scd.trans Sdf))
    ·exact λj hj=>(E1.2 j hj).sub (Scd.trans Sdf)
    ·exact λj hj=>(D2.5 j hj).sub Sdf
    ·exact E3.2
  exact W'.new hkl
 have Y:vt Z.kt (bV B0 B1 B2 B3) (Hb (bV A0 A1 A2 A3) (bV B0 B1 B2 B3) ja Jg) kl sa da ps tx (fq B0 tx Cf ps marked).1.WW.made.toArray marked v (fq B0 tx Cf ps marked).2:=by
  refine ae Sa λas z4=>?_;refine ae Da λbs z3=>?_;refine⟨HT,⟨as,o z4.1 na,by rw[z4.2.1,Mt],λj q e=>?_⟩,⟨bs,o z3.1 nd,z3.2.1,λj q e=>?_⟩,Hb.at nkl hkl1,hps,P,rfl,rfl⟩;·refine ae (z4.2.2 j q.vals (by rw[ML,e];rfl)) λa z2=>?_;exact⟨a,z2.1,o z2.2 (tne z2.2)⟩
  ·refine ae (z3.2.2 j q e) λa z1=>?_;exact⟨a,z1.1,o z1.2 (tne z1.2)⟩
 exact eQ (fD (EN (wide:=wide) G hn F W2 kk (oV k0 rfl) Y) rfl)
end
open T in
noncomputable def yE:T:=cst (.ref 1120)<|ld Kh<|blk (ld Kr<|ite (cst (.int 1 0)<|cst (.ref 1113)<|ld Kh<|cst (.int 4 0)<|call 2<|bin .add<|yld)<|cst (.int 1 0)<|yld)<|call 2<|unp 3<|st Kb<|st Km<|st JY<|zI
open T in
noncomputable def Bg:T:=cst (.ref 209)<|ld 27747<|ld 27760<|cst (.ref 1113)<|ld Kh<|cst (.int 5 0)<|call 2<|call 3<|st Jm<|blk (ld Kr<|dup<|ite (pop<|cst (.ref 1113)<|ld Kh<|cst (.int 2 0)<|call 2<|cst (.int 1 0)<|eqv Mg<|yld)<|yld)<|st Jr<|yE
open T in
section
variable{wide:Bool}{lp:Nat}
theorem AO{st:List Md}{e:T}{m:Nat}(q:FL xs st λst=>X Z n Q K J E st e)(h:J a=Mc (.tup xs))(hl:xs.length=m):X Z n Q K J E (.ref a::st) (.unp m e):=λρ hr=>⟨_,h,hl,sk q ρ hr⟩
theorem Fj(G:cU Z Kg)(hn:14<=n)(hc:lc<=1)(hp:lp<=1)(hb:pb<=4)(Pp:J p=Mc (yP lc lp pb))(Lz:nv J ja k)(kk:0<=k)(k0:k<=400)(HT:Z.kt 361=Mc (bt [1,1,1,1])):X Z n (bY λu b=>u=.bool Mh) [] J [(Kh,.ref ja),(Kr,.bool wide),(Jr,.bool marked),(Jm,.ref p)] [] yE:=by
 have tail:∀(many:Nat)(k':Int)(J':Sg),many<=4->0<=k'->k'<=401->nv J' ja k'->J' p=Mc (yP lc lp pb)->
   ac Z n (.ref 1120) [.ref ja,.int many 0] J' (λu τ=>X Z n (bY λu b=>u=.bool Mh) [] τ [(Kh,.ref ja),(Kr,.bool wide),(Jr,.bool marked),(Jm,.ref p)] [u] (.unp 3 (.st Kb (.st Km (.st JY zI))))):=by
  intro many k' J' hm q0 q1 LU Pp'
  refine(pY (n:=n) G.toGood (jR hn rfl) LU q0 (oV q1 rfl) hm).Wq (MC _) ?_
  intro _ τ I0
  cases I0 with
  |mk t sa da w ps v e ht hs hd T T' P l LV C=>
  rw[e]
  refine ae (ce LU) λxj hj=>?_
  have ne:∀{a:Mk}{cl:Cell},J' a=Mc cl->(∀xs,cl≠.list xs)->τ a=Mc cl:=λ{a cl} h hx=>C.1 _ _ (λz=>by rw[z,hj] at h;cases h;exact hx _ rfl) h
  have nja:∀{a:Mk},J' a=Mq->a≠ja:=λh z=>by rw[z,hj] at h;cases h
  have P':PS w.toArray.toList ps v:=by simpa using P
  refine AO ?_ ht rfl
  refine(?_:X _ _ _ _ _ _ _ _)
  exact eQ (eQ (eQ (fD (EX (wide:=wide) (marked:=marked) G hn hc hp hb (ne Pp' (by nofun)) LV (CM q0 rfl) (af 0x4200013c888205b0d4050416902e [_] [] q1) HT T T' (nja hs) (nja hd) (Nj (Oq l) hm) P') rfl)))
 unfold yE;lk;induction wide with
 |true=>lk;refine(aF (n:=n) G.toGood (jR hn rfl) Lz (oV k0 rfl) (by decide) (by decide +kernel)).X4 λJ1 r r0 r1 LV c1=>?_;refine ae (ce Lz) λxj hj=>?_;have ne:∀{a:Mk}{cl:Cell},J a=Mc cl->(∀xs,cl≠.list xs)->J1 a=Mc cl:=λ{a cl} h hx=>c1.1 _ _ (λz=>by rw[z,hj] at h;cases h;exact hx _ rfl) h;obtain⟨q,rfl⟩:∃q:Nat,r=q:=⟨r.toNat,af LZ [_] [_] (ME r0)⟩;lk;rw[show(1:Int)+(q:Int)=((1+q:Nat):Int) from rfl];exact tail (1+q) _ J1 (af 0x1080004e0b8a4520a0467b1e [] [_] r1) (CM kk rfl) (ill k0 rfl) LV (ne Pp (by nofun))
 |false=>lk;exact tail 1 _ J (Mr _ _) kk (oV k0 rfl) Lz Pp
end
section
variable{wide:Bool}{lp:Nat}
theorem DA(G:cU Z Kg)(hn:14<=n)(hc:lc<=1)(hp:lp<=1)(Lz:nv J ja k)(kk:0<=k)(k0:k<=300)(HT:Z.kt 361=Mc (bt [1,1,1,1])):X Z n (bY λu b=>u=.bool Mh) [] J [(Kh,.ref ja),(Kr,.bool wide),(27747,.int lc 0),(27760,.int lp 0)] [] Bg:=by
 unfold Bg;lk;refine(aF (n:=n) G.toGood (jR hn rfl) Lz (oV k0 rfl) (by decide) (by decide +kernel)).X4 λJ1 r r0 r1 LV c1=>?_;refine ae (ce Lz) λxj hj=>?_;obtain⟨pb,rfl⟩:∃q:Nat,r=q:=⟨r.toNat,af LZ [_] [_] (ME r0)⟩;lk;refine(pV (n:=n) G.toGood (jR hn rfl) hc hp (af 0x840002745c5229041311 [] [_] r1)).Yd λJ2 p hpn S2 Pp=>?_;have LX:=LV.sub S2;have fin:∀(mk:Bool)(k':Int)(J':Sg),0<=k'->k'<=400->nv J' ja k'->J' p=Mc (yP lc lp pb)->
   X Z n (bY λu b=>u=.bool Mh) [] J' [(Kh,.ref ja),(Kr,.bool wide),(27747,.int lc 0),(27760,.int lp 0),(Jm,.ref p)] [.bool mk] (.st Jr yE):=
  λmk k' J' q0 q1 LU Pp'=>eQ (fD (Fj (wide:=wide) (marked:=mk) G hn hc hp (af 0x840002745c5229041311 [] [_] r1) Pp' LU q0 q1 HT) rfl)
 lk;induction wide with
 |true=>lk;refine(aF (n:=n) G.toGood (jR hn rfl) LX (ill k0 rfl) (by decide) (by decide +kernel)).X4 λJ3 r r0 r1 Ls c3=>?_;refine ae (ce LX) λxj hj=>?_;have ne:∀{a:Mk}{cl:Cell},J2 a=Mc cl->(∀xs,cl≠.list xs)->J3 a=Mc cl:=λ{a cl} h hx=>c3.1 _ _ (λz=>by rw[z,hj] at h;cases h;exact hx _ rfl) h;lk;exact iu .int rfl (s9 (fin _ _ _ (af 0x42000138101711059cc0825 [_] [] kk) (af 0x1080004e5820816c808882ce6d830 [_] [] k0) Ls (ne Pp (by nofun))))
 |false=>exact iD (s9 (fin _ _ _ (CM kk rfl) (ill k0 rfl) LX Pp))
theorem Dg(G:cU Z Kg)(hn:15<=n)(hl:l.length<=1000)(hs:Z.kl sc=Mc (bt l))(HT:Z.kt 361=Mc (bt [1,1,1,1])):ac Z n (.ref 1189) [.ref sc] J (λu b=>u=.bool Mh):=by
 have hll:(bt l).length=l.length:=by unfold bt;rw[Mt]
 refine run G.toGood (jR hn rfl) ?_;lk;refine(sV (n:=n-1) G.toGood (yw hn rfl) (db hl rfl) hs).Yd λJ1 ja hja S1 LV=>?_;lk;refine qS (xs:=bt l) hs (λj ws J'=>J'=J1) rfl (ug hll hl rfl) ?_ ?_
 ·rintro j u ws J' Q' hu rfl hval hnext;obtain⟨i,rfl⟩:∃i,u=.int i 0:=by have:=MO hu;unfold bt at this;refine ae (ND.mp this) λi z1=>?_;obtain⟨_,rfl⟩:=z1;exact⟨i,rfl⟩
  lk;refine aK (λh=>?_) λh=>?_;·lk;exact hnext _ _ rfl
  ·lk;exact hval _ _ _ rfl
 rintro ws J' x rfl hx;have N1:=Wt hx (.list ws);have hx1:upd J' x (.list ws) x=_:=aa _ _ _;have S2:=S1.trans N1;have LX:=LV.sub N1;generalize upd J' x (.list ws)=J2 at*;lk;intro y hy;have N2:=Wt hy (.list []);have hy1:upd J2 y (.list []) y=_:=aa _ _ _;have S3:=S2.trans N2;have Ls:=LX.sub N2;have hx2:=N2 _ _ hx1;generalize upd J2 y (.list [])=J3 at*;have hr:∃r,ss J3 (.ref x) (.ref y) r:=by
  induction ws with
  |nil=>exact⟨Mh,.same (.list hx2 hy1 rfl λp hp=>by cases hp)⟩
  |cons w ws=>exact⟨Mg,.odd hx2 hy1 (by simp)⟩
 refine ae hr λr hr=>?_;refine iu hr rfl ?_;generalize(if Mh=Mh then !r else r)=wide;lk;intro t ht;have N3:=Wt ht (.tup [.ref ja,.bool wide]);have ht1:upd J3 t (.tup [.ref ja,.bool wide]) t=_:=aa _ _ _;have S4:=S3.trans N3;have LM:=Ls.sub N3;generalize upd J3 t (.tup [.ref ja,.bool wide])=J4 at*;refine dQ ?_ ht1 rfl;lk;intro t1 h1;have N5:=Wt h1 (.tup [.int 0 0,.int 0 0]);have e1:upd J4 t1 (.tup [.int 0 0,.int 0 0]) t1=_:=aa _ _ _;have S5:=S4.trans N5;have LD:=LM.sub N5;generalize upd J4 t1 (.tup [.int 0 0,.int 0 0])=J5 at*;lk;intro t2 h2;have N6:=Wt h2 (.tup [.int 1 0,.int 0 0]);have e2:upd J5 t2 (.tup [.int 1 0,.int 0 0]) t2=_:=aa _ _ _;have S6:=S5.trans N6;have Ma:=LD.sub N6;have e1:=N6 _ _ e1;generalize upd J5 t2 (.tup [.int 1 0,.int 0 0])=J6 at*;lk;intro t3 h3;have N7:=Wt h3 (.tup [.int 0 0,.int 1 0]);have e3:upd J6 t3 (.tup [.int 0 0,.int 1 0]) t3=_:=aa _ _ _;have S7:=S6.trans N7;have Lx:=Ma.sub N7;have e1:=N7 _ _ e1;have e2:=N7 _ _ e2;generalize upd J6 t3 (.tup [.int 0 0,.int 1 0])=J7 at*;lk;intro t4 h4;have N8:=Wt h4 (.list [.ref t1,.ref t2,.ref t3]);have e4:upd J7 t4 (.list [.ref t1,.ref t2,.ref t3]) t4=_:=aa _ _ _;have S8:=S7.trans N8;have LF:=Lx.sub N8;have e1:=N8 _ _ e1;have e2:=N8 _ _ e2;have e3:=N8 _ _ e3;have n4:t4≠ja:=λz=>by refine ae (ce Lx) λxj hj=>?_;rw[z,hj] at h4;cases h4
 generalize upd J7 t4 (.list [.ref t1,.ref t2,.ref t3])=J8 at*;lk;refine(aF (n:=n-1) G.toGood (yw hn rfl) LF (Ms _) (by decide) (by decide +kernel)).X4 λJ9 e p0 p1 Lm c9=>?_;refine ae (ce LF) λxj hj=>?_;have ne:∀{a:Mk}{cl:Cell},J8 a=Mc cl->(∀xs,cl≠.list xs)->J9 a=Mc cl:=λ{a cl} h hx=>c9.1 _ _ (λz=>by rw[z,hj] at h;cases h;exact hx _ rfl) h;have e4:=c9.1 _ _ n4 e4;have e1:=ne e1 (by nofun);have e2:=ne e2 (by nofun);have e3:=ne e3 (by nofun);have fin:∀(lc lp:Nat)(u:Mk),lc<=1->lp<=1->J9 u=Mc (.tup [.int lc 0,.int lp 0])->X Z (n-1) (bY λu b=>u=.bool Mh) [] J9 [(Ke,.ref sc),(Kh,.ref ja),(Kr,.bool wide)] [.ref u] (.unp 2 (.st 27747 (.st 27760 Bg))):=
  by
  intro lc lp u q0 q1 hu
  refine AO ?_ hu rfl
  refine(?_:X _ _ _ _ _ _ _ _)
  exact eQ (eQ (fD (DA (wide:=wide) (lc:=lc) (lp:=lp) G (Ov hn) q0 q1 Lm (Ms _) (Ms _) HT) rfl))
 lk;have he:e=0∨e=1∨e=2:=by lia
 rcases he with rfl|rfl|rfl;·refine av e4 (by decide) (by decide) rfl ?_;exact fin 0 0 t1 (by decide) (by decide) e1
 ·refine av e4 (by decide) (by decide) rfl ?_;exact fin 1 0 t2 (by decide) (by decide) e2
 ·refine av e4 (by decide) (by decide) rfl ?_;exact fin 0 1 t3 (by decide) (by decide) e3
end
variable{w:O6}{s:Ml}
theorem px{t:RV Fin}{R:Ph->Ml->Prop}(hreg:s.asleep)(h:Wc.Wi (Mj prog w) UT t (λfin s'=>∃f,fin=.done f/\(R (.ok f) s'/\RU s'.gens=Mg)) (λe s'=>R (.error e) s'/\RU s'.gens=Mg) s):yq λn r s' s''=>runN (VJ TA) prog w n s ⟨t,.builtin "claim.caller" {},UU,[]⟩=.halted (VK r) s'/\ schedN (VJ TA) prog w n (.single s ⟨t,.builtin "claim.caller" {},UU,[]⟩)=.halted (VK r) s'/\s'.forget=s''.forget/\R r s'':=by
 have hw:Sem.wp (Mj prog w) ⟨.builtin "claim.caller" {},Mq,Mq,[],Mq⟩ t (Sem.finPost (Mj prog w) ⟨.builtin "claim.caller" {},Mq,Mq,[],Mq⟩ λr s'=>And (R r s') (RU s'.gens=Mg))
   (λe a s'=>And (R (.error e) s') (RU s'.gens=Mg)) UU s:=by
  refine RC (Mj prog w) _ t (λfin p' s' h'=>?_) (λa a a h'=>h'.and) UU s (h _ UU caller_in (by decide +kernel) λc hc=>by cases hc)
  refine ae h' λf z11=>?_
  rw[z11.1]
  exact z11.2.and
 refine ae (wp_halts_full (M:=Mj prog w) (R:=R) hreg hw) λn z7=>?_;refine ae z7 λr z8=>?_;refine ae z8 λs₁ z9=>?_;refine ae z9 λs₂ z10=>?_;exact⟨n,r,s₂,s₁,z10.2.1,z10.1,z10.2.2.1,z10.2.2.2⟩
theorem Fi{γ δ ε:Type}{P:α->β->Prop}{F:α->β->γ->δ->ε->Prop}{a:α}{b:β}{c:γ}{d:δ}{e:ε}(p:P a b)(h:F a b c d e):Exists λa=>Exists λb=>And (P a b) (Exists λc=>Exists λd=>Exists λe=>F a b c d e):=⟨a,b,p,c,d,e,h⟩
variable{tree:List Md->RV Fin}
theorem uM{c:ClaimW}{free:Mk->Prop}{gens:Prop}{kept:Ox->Prop}(hz:s.asleep)(hgens:s.gens=#[])(hspec:∀args,c.pre args=Mh->VL args=Mh->∀ord:List Q9->List Q9,(∀l,(ord l).Perm l)-> bM λvs s₁=>layAllW c.records (classAt s.heap) w.params ord args s=Mc (vs,s₁)/\ Wc.Wi (Mj c.prog w) UT (tree vs) (λfin s'=>∃f,fin=.done f/\(c.Ends s args vs s₁ (.ok f) s'/\s'.os=s.os/\AllBare s'.gens/\kept s'.heap)) (λe s'=>c.Ends s args vs s₁ (.error e) s'/\s'.os=s.os/\AllBare s'.gens/\kept s'.heap) s₁):c.CallFrom (λvs=>⟨tree vs,.builtin "claim.caller" {},UU,[]⟩) w free gens kept s:=by
 intro args hpre hlay ord hord;refine bI (hspec args hpre hlay ord hord) λvs s₁ z6=>?_;have hal:=layAllW_rest _ _ _ z6.1;refine Gy (px (prog:=c.prog) (w:=w) (t:=tree vs) (s:=s₁)
  (R:=λr s'=>c.Ends s args vs s₁ r s'/\s'.os=s.os/\kept s'.heap) (Shared.asleep_of_life hal.2.2.2 hz)
  (Wc.Wm z6.2 (by
   intro fin s' r1;refine ae r1 λf z5=>?_;have e:=z5.1;exact⟨f,e,⟨z5.2.1,z5.2.2.1,z5.2.2.2.2⟩,RO z5.2.2.2.1⟩) (by
   intro e s' r2;exact⟨⟨r2.1,r2.2.1,r2.2.2.2⟩,RO r2.2.2.1⟩))) λk r s' s'' hrun hsched hfo hcase hos hkp=>?_
 have eh:=(VM hfo).1;have eo:=(VM hfo).2.2.2.1;have hcase:=hcase.congr eh;have hkp:kept s'.heap:=by first|exact eh▸hkp|(rw[eh] at hkp;exact hkp)|(rw[<-eh] at hkp;exact hkp)
 rw[<-eo] at hos;have hlife:s'.heap.life=s.heap.life:=(runN_life _ _ _ hrun).trans hal.2.2.2;refine Fi z6.1 (c:=k) (e:=s') ⟨hsched,?_,(λa i x hx=>by rw[hgens] at hx;simp at hx),hkp,congrArg (·.seen) hlife,Shared.rest_eq hos⟩;exact hcase.imp (Vj λv=>And.imp (congrArg VK) (PX (PX (PX (And.imp_left λh b o y a=>h b o y)))))
  (Vj λe=>Vj λob=>Vj λcls=>And.imp (congrArg VK) (PX (PX (PX (PX λh b o y a=>h b o y)))))
variable{q:R8}{loose:List Nn}
theorem vn{r:RowW}{run:Md->List Md->RV Md}{defs kps:List Nn}{writes:Bool}{Xt:Ml->Bool}{XP:(Nn->Option Md)->Ox->Prop}{Yf:Ml->α}{Ya:O6->α}{YP:O6->Ox->Prop}(left:LeftO r.prog q loose Xt Yf Ya N)(hY:∀w s,Yf s=Ya w->YP w s.heap)(hYk:∀w h h',YP w h->(∀b o,h.get? b=Mc o->h'.get? b=Mc o)->YP w h')(hX:∀s,Xt s=Mh->XP (s.heap.nsMap Nw) s.heap)(hXk:∀mg h h',XP mg h->(∀b o,h.get? b=Mc o->h'.get? b=Mc o)->XP mg h')(hRf:∀s,Xt s=Mh->RecFacts r.records s.heap)(hwr:(!writes||r.records.isEmpty)=Mh)(ok:(chainsOk q&&opensWell r.prog&&(frees r&&r.within.isEmpty))=Mh)(hb:r.prog.bare)(hw:r.promised)(ht:∀vs (w:O6) (s:Ml) mg f (Q:Fin->Ml->Prop) (E:Md->Ml->Prop),s.heap.Ns Nw mg->mg r.name=Mc f->Wc.Wi (Mj r.prog w) UT (run f vs) (λv s'=>Q (.done (.ret v)) s') E s->Wc.Wi (Mj r.prog w) UT (tree vs) Q E s)(pin:∀w s,s.heap.isNs Nw=Mh->Ground q loose [] XP w s (s.heap.nsMap Nw) (s.heap.nsMap Qc) s.heap->∀n∈defs,isTheDefsW r.prog s.heap n)(call:∀(w:O6)(s₀ s₁:Ml)(mg mb:Nn->Option Md),Ground q loose r.records XP w s₀ mg mb s₁.heap->YP w s₁.heap->YP w s₀.heap->∀(args:List WData)(vs:List Md)(as:List Mk), r.claim.pre args=Mh->VL args=Mh->Laid r.records w s₀ s₁ args vs as->T8<s₀.heap.objs.size->∃f,mg r.name=Mc f/\ Wc.Wi (Mj r.prog w) UT (run f vs) (λv s'=>GoodWG r.claim (classAt s₀.heap) (ExcName.means s₀.heap) args s₁ (.ok (.ret v)) s') (λe s'=>GoodWG r.claim (classAt s₀.heap) (ExcName.means s₀.heap) args s₁ (.error e) s') s₁):r.claim.HoldsOpenBy (λvs=>⟨tree vs,.builtin "claim.caller" {},UU,[]⟩) defs kps writes:=by have q1:=MQ.mp ok;have q2:=MQ.mp q1.1;have hch:=q2.1;have o1:=q2.2;have q3:=MQ.mp q1.2;have k6:=q3.2;have q4:=frees_parts q3.1;have hsame:=q4.1;have hu:=q4.2.1;have ha:=q4.2.2.1;have hap:=q4.2.2.2.1;have hm:=q4.2.2.2.2;refine⟨⟨hb,o1,by show r.makers.map _=[];rw[hm];rfl⟩,hw.witness,λw=>⟨(left.behind hX hch w).1,λs' hs'=>?_⟩⟩;refine ae ((left.behind (XP:=λmg h=>XP mg h/\RecFacts r.records h) (λs hs=>⟨hX s hs,hRf s hs⟩) hch w).2 s' hs') λs₀ z4=>?_;refine ae z4.2.2 λs z5=>?_;have hT:=z5.1;have hz:=z5.2.1;have hgens:=z5.2.2.1;have hg:=z5.2.2.2.1;have G00:=z5.2.2.2.2.1;have G0:Ground q loose [] XP w s (s.heap.nsMap Nw) (s.heap.nsMap Qc) s.heap:=⟨G00.T,G00.B,G00.D,G00.TE,G00.TD,G00.W,G00.X.1,G00.cls,G00.has,G00.apart,G00.once,G00.K⟩;have RF:=G00.X.2;have hT':=hT;refine⟨s₀,z4.1,z4.2.1,s,hT,pin w s hg G0,RF.1,RF.2.1,?_⟩;have hgens:s.gens=#[]:=Rt (beq_iff_eq.mp hgens);have G:Ground q loose r.records XP w s _ _ s.heap:=RF.ground G0;refine uM (c:=r.claim) hz hgens λargs hpre hlay ord hord=>?_;refine ae (NS.mp (layAllW_isSome (P:=w.params) (ord:=ord) G.has args r.args s (pre_splitW hpre).1)) λz3 hlaid=>?_;obtain⟨vs,s₁⟩:=z3;have keeps:=layAllW_keeps _ _ _ hlaid;have hal:=layAllW_rest _ _ _ hlaid;refine ae (reads_layAllW hord _ _ _ hlaid hlay s₁.heap (λa a e=>e)) λas z2=>?_;have L:Laid r.records w s s₁ args vs as:=⟨⟨ord,hord,hlaid⟩,z2.1,z2.2.1,z2.2.2,keeps,hal.1.trans hgens,hal.2.2.1⟩;have G₁:=G.keeps hXk keeps;refine ae (call w s s₁ _ _ G₁ (hYk _ _ _ (hY w s z5.2.2.2.2.2) keeps) (hY w s z5.2.2.2.2.2) args vs as hpre hlay L G.low) λf z1=>?_;have hi:=ident_freeW hu ha hap;have hwi:r.claim.within=[]:=Qm.mp k6;exact⟨vs,s₁,hlaid,ht vs w s₁ _ f _ _ G₁.T.g z1.1 (Wc.Wm z1.2 (λv s' g=>⟨_,rfl,have z:=g.laid (c:=r.claim) hsame hwi hi L;⟨z.1,z.2.1,z.2.2,λq=>⟨namesKept_of hT' hg kps keeps g.2.1.old,noTable hwr q⟩⟩⟩) λe s' g=>have z:=g.laid (c:=r.claim) hsame hwi hi L;⟨z.1,z.2.1,z.2.2,λq=>⟨namesKept_of hT' hg kps keeps g.2.1.old,noTable hwr q⟩⟩)⟩
noncomputable def Fw(prog:R8)(w:O6)(s:Ml)(sc:Mk)(l:List Int):Sys:=⟨prog,w,λa=>s.heap.get? a,s.os,[],λa=>if a=sc then Mc (bt l) else Mq,λa=>if a=361 then Mc (bt [1,1,1,1]) else Mq⟩
theorem o6{o:Option α}{p:α->Bool}{x:α}(h:o.all p=Mh)(e:o=Mc x):p x=true:=by subst e;exact h
variable{P:Pk}
theorem ym{o:Option (O1×List ON)}(h:∀sc b,o=Mc (sc,b)->AL b)(c:o.bind (CG P)=Mc eX)(g:o.all (λx=>sA ⟨t7 P,x.1⟩ "BadArgument" (.ref 100))=Mh){sc:O1}{b:List ON}(e:o=Mc (sc,b)):BW ⟨t7 P,sc⟩ 100 b eX:=by
 have g:=o6 g e;have zqi:_:=h _ _ e;induction zqi with
 |mk=>
 rw[e] at c;refine ae (MP.mp c) λz5 z6=>?_;have c1:=z5.1;have ok:=z5.2;have e1:=z6.2;exact FX (pz g) (e1▸ok)
section
variable{mg mb:Nn->Option Md}
theorem ET(h:AT (P [361])=Mh)(X:∀as,(P as).In s.heap)(e:(if a=361 then Mc (bt [1,1,1,1]) else Mq)=Mc xs):bM λys n=>s.heap.get? a=Mc (⟨.type "tuple",Mq,.seq ys n,#[]⟩:P8)/\ys.toList.map er=xs:=by
 by_cases q:a=361;·subst q;rw[if_pos rfl] at e;obtain rfl:=MI e;refine ae (Qw h) λo z1=>?_;refine ae (Qw z1.2) λv z2=>?_;have z3:=MQ.mp z2.2;have e:=tw z2.1;rw[Rt (beq_iff_eq.mp z3.1)] at e;exact⟨v.1,v.2,X _ _ _ (e▸z1.1),beq_iff_eq.mp z3.2⟩
 ·rw[if_neg q] at e;cases e
theorem zv(F:ZF P){f:Mk}{ds:List Md}{c:T}(e:iX[i]?=Mc (f,ns,ds,c)):dl (t7 P) (iv P f) f=Mc c:=by have h:=congrArg (λl=>l[i]?) F.2;unfold Xc at h;simp only[ML,e,Pb] at h;exact MI h
theorem zA(F:ZF P)(X:∀as,(P as).In s.heap)(hg:s.heap.Ns Nw mg)(hb:s.heap.Ns Qc mb)(hlim:s.heap.NoLimit)(hboot:∀x:Nn,x≠"__name__"->mb x=Sj x)(hsc:bM λys n=>s.heap.get? sc=Mc (⟨.type "list",Mq,.seq ys n,#[]⟩:P8)/\ys.toList.map er=bt l):cU (Fw prog w s sc l) (t7 P):=by
 have hP:∀as,bF (P as) (Fw prog w s sc l).base:=λas a o e=>X as a o e;have hF:∀f,bF (iv P f) (Fw prog w s sc l).base:=λf=>by
  unfold iv;cases (P [f]).head?.bind λp=>Z3 p.2.data with
  |some fd=>exact hP _
  |none=>intro a o e;cases e
 have lim:∀h':Ox,(∀a o,(Fw prog w s sc l).base a=Mc o->h'.get? a=Mc o)->h'.NoLimit:=λh' k=>hlim.keeps k;have h:=F.4;have c3:=F.5;refine⟨⟨⟨hP _,⟨mg,mb,λh' k=>⟨hg.keeps k,hb.keeps k,hlim.keeps k⟩,hboot⟩,λC hC=>?_,?_,λa ha=>⟨P [a],hP _,NT.mp h.1 a (by simpa[Zo] using ha)⟩,λa xs e=>?_,λa xs e=>ET h.2.2.2.2.2.2.2.2.2.2.2.2.2.2.2.2.2.1 X e⟩,lim,λi f ns ds c e=>⟨iv P f,hF f,NT.mp F.1 (f,ns,ds,c) (MO e),zv F e⟩⟩,
  ⟨lim,Dm P,39,36,hP _,zN h.2.2.1,Ec h.2.2.2.1,Fl h.2.2.2.2.1,A4 h.2.2.2.2.2.1,h.2.2.2.2.2.2.1,⟨iv P 36,hF _,h.2.2.2.2.2.2.2.1,λsc b e=>?_⟩⟩,
  ⟨_,hF _,h.2.2.2.2.2.2.2.2.2.1,λsc b e=>ym F.6.2 (congrArg RB c3) h.2.2.2.2.2.2.2.2.2.2.2.2.2.1 e⟩,⟨_,hF _,h.2.2.2.2.2.2.2.2.2.2.1,λsc b e=>ym F.6.3 (congrArg (λx=>x.2.1) c3) h.2.2.2.2.2.2.2.2.2.2.2.2.2.2.1 e⟩,
  ⟨_,hF _,h.2.2.2.2.2.2.2.2.2.2.2.1,λsc b e=>?_⟩,⟨_,hF _,h.2.2.2.2.2.2.2.2.2.2.2.2.2.2.2.2.1,congrArg (λx=>x.2.2) c3⟩⟩
 ·unfold X9 at hC;refine ae (NS.mp hC) λv hv=>?_;exact⟨Hk P C,hP _,NT.mp F.3 (C,v) (Xh hv)⟩
 ·refine ae (NS.mp h.2.1) λo ho=>?_;exact⟨o,hP _ _ _ ho⟩
 ·have e:(if a=sc then Mc (bt l) else Mq)=Mc xs:=e;by_cases q:a=sc;·subst q;rw[if_pos rfl] at e;rw[<-MI e];exact hsc
  ·rw[if_neg q] at e;cases e
 ·have z:=o6 h.2.2.2.2.2.2.2.2.1 e;obtain⟨c,c3⟩:=MQ.mp z;obtain⟨c1,c2⟩:=MQ.mp c;have zqi:_:=F.6.1 _ _ e;induction zqi with
  |mk el=>exact .mk (pz c1) (beq_iff_eq.mp c2) (beq_iff_eq.mp c3) el
 ·have z:=o6 h.2.2.2.2.2.2.2.2.2.2.2.2.1 e;obtain⟨z1,z2⟩:=MQ.mp z;have c1:=of_decide_eq_true z1;have c2:=of_decide_eq_true z2;have z3:=o6 h.2.2.2.2.2.2.2.2.2.2.2.2.2.2.2.1 e;have c3:=pz z3;have zqi:_:=F.6.4 _ _ e;induction zqi with
  |mk=>exact .mk c1 c2 c1 c2 c3 c3
end
theorem wI{mg mb:Nn->Option Md}(F:ZF P)(X:∀as,(P as).In s.heap)(hg:s.heap.Ns Nw mg)(hb:s.heap.Ns Qc mb)(hlim:s.heap.NoLimit)(hboot:∀x:Nn,x≠"__name__"->mb x=Sj x)(hsc:bM λys n=>s.heap.get? sc=Mc (⟨.type "list",Mq,.seq ys n,#[]⟩:P8)/\ys.toList.map er=bt l)(hl:l.length<=1000)(hgens:s.gens=#[]){Q:Md->Ml->Prop}{E:Md->Ml->Prop}(hQ:∀s',(∀a o,s.heap.get? a=Mc o->s'.heap.get? a=Mc o)->s'.gens=#[]->s'.os=s.os->Q (.bool Mh) s'):Wc.Wi (Mj prog w) UT (OG (.ref 1189) [.ref sc]) Q E s:=by
 have G:=zA (prog:=prog) (w:=w) (l:=l) F X hg hb hlim hboot hsc;have C:=Dg (n:=15) (J:=λd=>Mq) G (MC _) hl (if_pos rfl:(if sc=sc then Mc (bt l) else Mq)=Mc (bt l)) (if_pos rfl:(if(361:Nat)=361 then Mc (bt [1,1,1,1]) else Mq)=Mc (bt [1,1,1,1]));have I:Inv ⟨λa=>s.heap.get? a,λd=>False⟩ (λd=>Mq) (λa=>if(s.heap.get? a).isSome then .W0 else .free) s.heap:=by
  refine⟨λa o e=>⟨.of e,?_⟩,λd z=>z.elim,λa c e=>(by cases e),λb hb=>?_⟩;·have e:s.heap.get? a=Mc o:=e;show(if(s.heap.get? a).isSome=Mh then Own.W0 else .free)=_;rw[e];rfl
  ·cases q:s.heap.get? b with
   |some o=>exact⟨o,rfl⟩
   |none=>rw[q] at hb;exact absurd rfl hb
 refine Wc.WN (Wc.WO (C _ _ s UT [.ref sc] I (λa o e=>⟨e,λz=>z⟩) ?_ hgens rfl rfl) λr s' hR=>?_);·refine⟨by decide +kernel,by decide +kernel,rfl,[],rfl,λenv he=>by cases he⟩
 ·refine ga hR λv J' g' z4=>?_;rw[z4.1];have hg':=z4.2.2.1;have ho':=z4.2.2.2.1;have:=lm z4.2.2.2.2;rw[this];exact hQ s' (λa o e=>(z4.2.1.1 a o e).1.at λz=>z) hg' ho'
section
open PySem.Challenge
noncomputable def YP(h:Ox):Prop:=∃P:Pk,(∀as,(P as).In h)/\ZF P
theorem wU{p:R8}{lk:O6->P6->Bool}{d0 d1 d2 d3:Option (O1×List ON)}(hlk:∀w e,lk w e=(staticsOk (Qx p.main.body) (OO w.params) e.abs.heap&&namesBound p e.abs.heap&&gensDone e.abs&&laidKept (OO w.params) e.abs.heap))(H1:∀(w:O6)(os:O5),(jK (fX p w) (vq 11 ann) N (os0 w os) (Rz p)).map (λe=>(lk w e,openSeen q loose (Qx p.main.body) (λa=>Mh) Mh e.abs,sd (aI e),aac (aI e)))=Mc (Mh,openGood q loose,(Mc eX,Mc eX,Mc bK),d0,d1,d2,d3))(H2:∀(w:O6)(os:O5),(jK (fX p w) (vq 11 ann) N (os0 w os) (Rz p)).map (λe=>(cX (aI e) (iX.take 60)&&ZE (aI e),Xc (aI e) (iX.take 60)))=Mc (Mh,(iX.take 60).map λx=>Mc x.2.2.2))(H3:∀(w:O6)(os:O5),(jK (fX p w) (vq 11 ann) N (os0 w os) (Rz p)).map (λe=>(cX (aI e) (iX.drop 60)&&aaa (aI e),Xc (aI e) (iX.drop 60)))=Mc (Mh,(iX.drop 60).map λx=>Mc x.2.2.2))(hd0:∀sc b,d0=Mc (sc,b)->FA b)(hd1:∀sc b,d1=Mc (sc,b)->AL b)(hd2:∀sc b,d2=Mc (sc,b)->AL b)(hd3:∀sc b,d3=Mc (sc,b)->FI b)(Bf:∀w:O6,((OO w.params).isNs Nw=Mh/\(OO w.params).objs.size=11/\(OO w.params).nsMap Nw "__annotations__"=ann))(hb:∀w:O6,(fencedOpening Pu p w N).map (λs=>(s.heap,s.gens,s.drawn,s.toks))=Mc (OO w.params,Wf [],Rq,Sn)):LeftO p q loose (λa=>Mh) (λs=>YP s.heap) (λa=>True) N:=by
 intro w;refine ae (MP.mp (hb w)) λz9 z10=>?_;obtain⟨h,gs,d,k,os⟩:=z9;obtain⟨e,e'⟩:=z10;obtain⟨rfl,rfl,rfl,rfl⟩:And (h=OO w.params) (And (gs=Wf []) (And (d=Rq) (k=Sn))):=by simpa using e'
 refine ae (MP.mp (H1 w os)) λen z8=>?_;obtain⟨he,hx⟩:=z8;refine ae (MP.mp (H2 w os)) λen2 z7=>?_;obtain⟨he2,hx2⟩:=z7;refine ae (MP.mp (H3 w os)) λen3 z6=>?_;obtain⟨he3,hx3⟩:=z6;obtain rfl:=MI (he.symm.trans he2);obtain rfl:=MI (he.symm.trans he3);clear he2 he3;rw[<-xl,<-Cy] at he;have r:_:=vc N _ _ _ he;rw[yO] at r;obtain z4:=Bf w;have x1:lk w en=true:=congrArg RB hx;have x2:openSeen q loose (Qx p.main.body) (λa=>Mh) Mh en.abs=openGood q loose:=congrArg (λx=>x.2.1) hx;have zq224:=MQ.mp (congrArg RB hx2);have y1:=zq224.1;have y2:=zq224.2;have k1:=congrArg Vm hx2;have zq225:=MQ.mp (congrArg RB hx3);have y3:=zq225.1;have y4:=zq225.2;have k2:=congrArg Vm hx3;have k3:=congrArg (λx=>x.2.2.1) hx;have z0:aL (iv (aI en) 36) 36=d0:=congrArg (λx=>x.2.2.2.1) hx;have z1:aL (iv (aI en) 149) 149=d1:=congrArg (λx=>x.2.2.2.2.1) hx;have z2:aL (iv (aI en) 156) 156=d2:=congrArg (λx=>x.2.2.2.2.2.1) hx;have z3:aL (iv (aI en) 1174) 1174=d3:=congrArg (λx=>x.2.2.2.2.2.2) hx;have x3:YP en.abs.heap:=⟨aI en,vA,oA y1 y3,oQ k1 k2,y2,of_decide_eq_true y4,k3,⟨λsc b e=>hd0 sc b (z0.symm.trans e),λsc b e=>hd1 sc b (z1.symm.trans e),λsc b e=>hd2 sc b (z2.symm.trans e),λsc b e=>hd3 sc b (z3.symm.trans e)⟩⟩;rw[hlk] at x1;generalize OO w.params=bh at*;have t:topFrom Pu p w N ⟨bh,Wf [],Rq,Sn,os⟩=Mc en.abs:=by unfold topFrom;dsimp only;rw[z4.1,z4.2.1,z4.2.2];show(topRun Pu p w 11 ann N ⟨bh,#[],Rq,Sn,os⟩ (Rz p)).bind _=_;rw[r,NH];show(match staticsOk (Qx p.main.body) bh en.abs.heap&&namesBound p en.abs.heap&&gensDone en.abs&&laidKept bh en.abs.heap with|true=>Mc en.abs|false=>Mq)=_;rw[x1]
 unfold openEnds;rw[e];show(topFrom Pu p w N _).map _=_;rw[t];refine congrArg Mc (Wd x2 ?_);exact propext ⟨λa=>trivial,λa=>x3⟩
end
theorem mW{R:WRecords}:∀{xs:List WData},VW R xs .int=Mh->∃ns:List Int,xs=ns.map .int
 |[],_=>⟨[],rfl⟩
 |x::xs,h=>by have h:And (WShape.has R x .int=Mh) (VW R xs .int=Mh):=MQ.mp h;refine ae (hasW_int h.1) λi z9=>?_;rw[z9];refine ae (mW h.2) λns z8=>?_;rw[z8];exact⟨i::ns,rfl⟩
variable{l:OpenLaw}{args:List WData}
theorem xT(hm:l.most=Mc n)(h:l.row.toRowW.claim.pre args=Mh):∃ns:List Int,args=[.list (ns.map .int)]/\ns.length<=n:=by
 obtain⟨h1,h2⟩:=pre_splitW h;refine ae (hasAllW_cons (show WShape.hasAll [] args [.list .int]=Mh from h1)) λd z6=>?_;refine ae z6 λr z7=>?_;obtain⟨rfl,h3,h4⟩:=z7;obtain rfl:=hasAllW_nil h4;refine ae (hasW_list h3) λxs z5=>?_;obtain⟨rfl,h5⟩:=z5;refine ae (mW h5) λns z4=>?_;obtain rfl:=z4;refine⟨ns,rfl,?_⟩;have h2:VN [] l.pre {args:=[.list (ns.map .int)]}=true:=h2;unfold OpenLaw.pre at h2;rw[hm] at h2;have e1:(WTm.not (.lt (.lit (.int (n:Int))) (.len (.arg 0)))).value [] {args:=[.list (ns.map .int)]}=Mc (.bool (!M0 ((n:Int)<((ns.map WData.int).length:Int)))):=
  w_not (w_lt w_lit (w_len_list (w_arg rfl)))
 unfold VN at h2;rw[WTm.value,e1] at h2;by_cases q:(n:Int)<((ns.map WData.int).length:Int);·rw[decide_eq_true q] at h2;simp at h2
 ·rw[Mt] at q;exact af 0x2100009deb8e70c54130f [] [_,_] q
theorem rf{R:WRecords}{cl:Nn->Option Mk}{P:Params}{ord:List Q9->List Q9}:∀(ns:List Int)(s:Ml),∃t,layAllW R cl P ord (ns.map .int) s=Mc t/\t.1.map er=bt ns/\t.2.heap=s.heap
 |[],s=>⟨([],s),rfl,rfl,rfl⟩
 |n::ns,s=>by refine ae (rf (R:=R) (cl:=cl) (P:=P) (ord:=ord) ns {s with toks:=s.toks+1}) λt z3=>?_;refine⟨(.int n s.toks::t.1,t.2),by show(match layAllW R cl P ord (ns.map .int) {s with toks:=s.toks+1} with|some r=>Mc (OC n s.toks::r.1,r.2)|Option.none=>Mq)=_;rw[z3.1],?_,z3.2.2⟩;show er _::t.1.map er=_;rw[z3.2.1];rfl
theorem qH{R:WRecords}{ns:List Int}(L:Laid R w s₀ s₁ [.list (ns.map .int)] vs as):∃sc,vs=[.ref sc]/\bM λys n=>s₁.heap.get? sc=Mc (⟨.type "list",Mq,.seq ys n,#[]⟩:P8)/\ys.toList.map er=bt ns:=by refine ae L.laid λord z2=>?_;obtain⟨_,e⟩:=z2;refine ae (rf (R:=R) (cl:=classAt s₀.heap) (P:=w.params) (ord:=ord) ns s₀) λt z1=>?_;simp only[layAllW,layW,z1.1] at e;simp only[Option.some.injEq,Prod.mk.injEq] at e;obtain⟨rfl,rfl⟩:=e;refine⟨_,rfl,t.1.toArray,_,MR _ rfl,by simpa using z1.2.1⟩
theorem uZ{cl:Nn->Option Mk}{mean:ExcName->Option Md}{s':Ml}(k:∀a o,s₁.heap.get? a=Mc o->s'.heap.get? a=Mc o)(hg:s'.gens=#[])(ho:s'.os=s₁.os):GoodWG l.row.toRowW.claim cl mean args s₁ (.ok (.ret (.bool Mh))) s':=by refine⟨.inl ⟨.bool Mh,.bool Mh,[],rfl,λb=>rfl,.bool Mh,?_,λb=>⟨UA,λa h=>by cases h⟩⟩,.of_keep k,ho,.of_eq hg⟩;show(WShape.has [] (.bool Mh) .bool&&VN [] (.eq .res (.lit (.bool Mh))) {args:=args,res:=Mc (.bool Mh),after:=args})=Mh;refine MQ.mpr (And.intro rfl ?_);unfold VN;rw[w_eq (w_res rfl) w_lit,show same (.bool Mh) (.bool Mh)=Mh by simp[same]]
theorem vd{d:DefRec}{kwd:List (Nn×MX)}(ok:l.wellSaid=Mh)(left:LeftO l.prog q loose (λa=>Mh) (λs=>YP s.heap) (λa=>True) N)(hm:l.most=Mc 63)(hname:l.name=("law":Nn))(hdef:defOf q l.name=Mc (d,kwd))(hp:l.prog.theDef l.name=Mc (d.params,d.body,d.scope))(hk:kwWritten? d.params.kwonlyargs d.params.kw_defaults=Mc kwd)(hok:(chainsOk q&&opensWell l.prog&&(frees l.row.toRowW&&l.row.within.isEmpty))=Mh)(hb:l.prog.bare)(hw:l.row.toRowW.promised):l.Holds:=by
 refine holds_law ok λk1=>⟨k1,hw,vn (r:=l.row.toRowW) (run:=λf vs=>OG f vs) (tree:=λvs=>do match <-nsGet mainNs l.row.toRowW.name with
   |some f=>do ret (<-OG f vs)
   |none=>Uv "claim.caller:no-such-global") (XP:=λa a=>True) (YP:=λa h=>YP h) left (λw s e=>by rw[e];trivial) (λw h h' y k=>?_) (λa a=>trivial) (λa a a a a=>trivial)
  (λs a=>recFacts_of (by rfl)) (by show(!l.row.writes||true)=Mh;exact Q0 _) hok hb hw
  (λvs w s mg f Q E hg hf h=>Wc.Wh (Wc.of (PySem.wpAny_nsGet hg (by rw[hf];exact Wc.Wh (Wc.Wm h (λa a x=>Wc.wpAny_pure x) λa a x=>x)))))
  (λw s hg G n hn=>?_) λw s₀ s₁ mg mb G Y Y0 args vs as hpre hlay L low=>?_⟩
 ·refine ae y λP z4=>?_;exact⟨P,λas=>(z4.1 as).keeps k,z4.2⟩
 ·obtain rfl:n=l.row.toRowW.name:=by split at hn<;>simp_all
  exact pinned_of_view hg G hdef hp hk
 ·refine ae (xT hm hpre) λns z3=>?_;obtain rfl:=z3.1;refine ae (qH L) λsc z2=>?_;rw[z2.1];refine ae Y λP z1=>?_;have e:=A4 z1.2.4.2.2.2.2.2.2.2.2.2.2.2.2.2.2.2.2.2.2;have hf:=mg_of (z1.1 _) G.T.g e;refine⟨.ref 1189,by show mg l.name=_;rw[hname];exact hf,?_⟩;exact wI z1.2 z1.1 G.T.g G.T.b G.T.nolimit G.T.builtins z2.2 (db z3.2 rfl) L.gens λs' k g o=>uZ k g o
section
open PySem.Challenge
theorem Eg:∀w:O6,(fencedOpening Pu M4 w 9000).map (λs=>(s.heap,s.gens,s.drawn,s.toks))=Mc (OO w.params,Wf [],Rq,Sn):=boot_open Iw (by decide) CY
theorem EA:LeftO M4 qP s3 (λa=>Mh) (λs=>YP s.heap) (λa=>True) 9000:=
 wU (lk:=xO) (λw e=>rfl) Bv BX CZ Ha Eu Ee B5 It Eg
theorem abi:Od.Holds:=by obtain⟨d,kwd,h1,h2,h3⟩:=GD;exact vd (l:=Od) El EA rfl rfl h1 h2 h3 Il abh DK
end
end Internal
theorem PySem.Challenge.cw_tg0047_01_holds : PySem.Challenge.rw_tg0047_01.Holds := by
  exact Internal.abi
