import PyProof.Rows.All
import Wide.All
import OpenK.AllK
import Wide.FinOn
import Lean
import PySem.Challenge.RW_nz0128_01
set_option Elab.async false
set_option linter.all false
set_option maxRecDepth 100000
set_option tactic.hygienic false
open And renaming right→Ri
open Array renaming getD_eq_getD_getElem?→Uj,getElem?_eq_getElem→Xn,getElem?_eq_some_iff→WQ,getElem?_toList→Wi,isEmpty→qdI,length_toList→RT,replicate→qcS,size_map→qar,toList_push→qci
open Bool renaming and_eq_true→Tf,and_eq_true_iff→Sv,and_false→qax,and_self→qdO,and_true→YR,casesOn→QL,eq_iff_iff→Ud,false→QR,false_and→qdH,false_ne_true→UU,false_or→XA,noConfusion→qcR,not_eq_true'→qcF,not_false→qdG,or_eq_true→Vs,or_eq_true_iff→WJ,or_false→VO,or_true→Zy,true→QO,true_and→YQ,true_or→qdZ
open Classical renaming byContradiction→ZP,em→Wx
open Decidable renaming decide→Rc
open Exists renaming imp→SA
open ForInStep renaming yield→TK
open Inhabited renaming default→qcE
open Int renaming add_assoc→qdY,add_comm→qbw,add_le_add→qdN,add_sub_assoc→qcQ,add_sub_cancel→Zq,ediv_one→qel,fmod_lt_of_pos→Zp,fmod_nonneg_of_pos→Ym,le_of_lt→qek,le_trans→RN,lt_of_le_of_lt→Zo,lt_of_lt_of_le→Zn,lt_of_sub_pos→qcP,lt_trans→Yl,natCast_add→qdF,natCast_nonneg→Rx,not_lt→Xm,ofNat→qbg,ofNat_inj→qdX,ofNat_le→Sz,ofNat_lt→Ug,ofNat_sub→VQ,sub_eq_add_neg→qcD,sub_le_sub_right→WA,sub_pos_of_lt→qcO,toNat_of_nonneg→qch
open Int.ofNat renaming inj→Vk
open LawfulBEq renaming eq_of_beq→VC
open List renaming all_cons→Ww,all_eq_true→SX,any_cons→UO,any_eq_false→Zx,any_eq_true→UQ,append_assoc→Rq,append_nil→RD,casesOn→Rm,cons_append→XI,contains_iff_mem→qbv,dropLast_eq_take→Yr,drop_eq_getElem_cons→Xp,drop_eq_nil_of_le→XU,drop_left'→qdv,drop_length→ZO,eq_nil_of_length_eq_zero→TX,eraseIdxIfInBounds_toArray→ZJ,eraseIdx_eq_take_drop_succ→Wg,ext_getElem→qcN,ext_getElem?→qcC,filterMap→qaw,filterMap_cons→WI,filter_congr→qcB,filter_cons→TU,filter_eq_self→YM,filter_filter→qcf,filter_nil→Yk,find?_cons→TP,find?_map→qdE,find?_some→Yj,flatMap_cons→Zw,flatMap_singleton→Wa,flatten_cons→qcA,foldl_cons→qdu,getD_eq_getElem?_getD→WX,getElem?_append_left→Us,getElem?_append_right→TN,getElem?_concat_length→Ul,getElem?_eq_getElem→Rk,getElem?_eq_none→TZ,getElem?_eq_some_iff→Te,getElem?_inj→qcz,getElem?_map→Rn,getElem?_mapIdx→Vd,getElem?_set→Vx,getElem?_set_ne→qbD,getElem?_set_self→qbf,getElem?_toArray→Yq,getElem?_zipIdx→YA,getElem_cons_drop→qbe,getElem_map→qcM,getElem_mem→UP,getElem_of_mem→qbT,getElem_range→WW,isEmpty_iff→qcL,length→Wz,length_append→QW,length_cons→Se,length_drop→XH,length_eq_zero_iff→Ui,length_eraseIdx→VB,length_eraseIdx_le→qbb,length_filter_le→Uv,length_map→QP,length_mapIdx→Uy,length_nil→UJ,length_range→RC,length_replicate→UX,length_reverse→TC,length_set→Vc,length_singleton→TF,length_take→XG,length_take_le'→qbC,length_zip→qdt,length_zipIdx→qce,lookup→Wy,lookup_cons→Tn,map→Yz,map_append→Sg,map_congr_left→WH,map_cons→Tq,map_eq_nil_iff→qbS,map_fst_zip→ZN,map_map→UM,map_nil→Vm,map_reverse→ZM,map_set→WL,mem_append→qds,mem_append_left→TM,mem_append_right→SF,mem_cons→SI,mem_cons_of_mem→QV,mem_cons_self→QM,mem_filter→Uc,mem_filterMap→qcd,mem_flatMap→Wl,mem_iff_getElem?→Uu,mem_map→VZ,mem_map_of_mem→Up,mem_of_find?_eq_some→VJ,mem_of_getElem?→Rg,mem_of_mem_drop→qbB,mem_of_mem_eraseIdx→qaU,mem_or_eq_of_mem_set→Va,mem_range→Vh,mem_reverse→Vg,mem_singleton→Ti,nodup_append→VY,nodup_cons→SO,nodup_nil→UD,not_mem_nil→Rb,of_mem_zip→qag,pairwise_cons→WV,prefix_append→UT,prefix_rfl→UI,push_toArray→qcy,range→RE,range_succ→Yi,replicate→SQ,replicate_succ→qbR,reverse_cons→UH,reverse_reverse→qbA,size_toArray→RZ,take_add_one→Zv,take_append_drop→Vu,take_length→Wk,take_of_length_le→XT,toArray→VX,zipWith→Zu,zip_cons_cons→qcc,zip_eq_zipWith→qbQ
open List.Nodup renaming length_le_of_subset→YN
open List.Pairwise renaming and_mem→qej,map→qei,nil→qeh
open List.cons renaming inj→VE
open Nat renaming add_assoc→TQ,add_comm→UN,add_le_add→SR,add_le_add_left→Si,add_le_add_right→RR,add_lt_add_left→Vf,add_lt_of_lt_sub'→qbz,add_right_comm→RO,add_sub_cancel'→Uq,add_sub_cancel_left→qbd,add_zero→qbu,beq→SW,beq_eq→qaL,beq_refl→ZI,ble→Um,ble_eq→Wv,blt→Tv,blt_eq→Vq,casesAuxOn→Uo,div_le_self→qaq,eq_of_beq_eq_true→SN,eq_of_testBit_eq→qbP,eq_or_lt_of_le→qcx,le_add_left→Sq,le_add_right→Sh,le_antisymm→qdD,le_of_add_right_le→Vp,le_of_ble_eq_true→qby,le_of_eq→Sx,le_of_lt→Sm,le_of_lt_succ→SM,le_of_mul_le_mul_right→qaK,le_of_not_lt→qdr,le_of_succ_le→qcK,le_refl→Sd,le_sub_one_of_lt→qbO,le_succ→Uk,le_succ_of_le→Sw,le_total→qeg,le_trans→QK,lt_add_of_pos_right→Tc,lt_irrefl→Ts,lt_of_le_of_lt→Rp,lt_of_le_of_ne→Zm,lt_of_lt_of_eq→VT,lt_of_lt_of_le→Rj,lt_of_mul_lt_mul_right→qaJ,lt_of_succ_lt→SD,lt_of_succ_lt_succ→Yh,lt_or_eq_of_le→qcw,lt_succ_iff_lt_or_eq→qba,lt_succ_of_le→Xz,lt_succ_of_lt→VA,lt_succ_self→TB,lt_trans→Ue,min_eq_left→WG,min_eq_right→qdq,min_le_left→qdC,min_le_right→ZZ,mod_lt→qaI,mul_le_mul_left→Td,mul_le_mul_right→VD,mul_succ→qbt,ne_of_beq_eq_false→SV,ne_of_gt→UC,ne_of_lt→Tj,not_le→qcv,not_lt→TO,not_lt_zero→VS,not_succ_le_self→YK,or_lt_two_pow→qcJ,pos_of_ne_zero→Zl,sub_add_cancel→Xl,sub_le→Zk,sub_le_iff_le_add→qbx,sub_lt_left_of_lt_add→qaT,sub_pos_of_lt→ZH,sub_self→VI,sub_sub_self→qdp,sub_zero→qbs,succ_add→qbr,succ_add_eq_add_succ→qaZ,succ_le_succ→Tg,succ_lt_succ→ZY,succ_ne_self→Wu,succ_pos→Th,testBit_and→qdB,testBit_or→qaH,testBit_two_pow→qcb,testBit_xor→qdA,xor_assoc→qdW,zero_add→SG,zero_le→RQ,zero_testBit→Wt
open Nat.succ renaming inj→Ve
open Ne renaming symm→Vi
open Option renaming bind→QX,bind_assoc→YY,bind_eq_some_iff→UG,casesOn→QQ,isNone_iff_eq_none→WU,isSome_iff_exists→Tx,isSome_map→YX,map→QY,map_eq_some_iff→qaS,map_map→qaf,map_some→qcu,none→RM,none_or→qcI,some→QG
open Option.some renaming inj→QS,injEq→qaR
open Prod renaming ext→Yy,fst→qav
open Prod.mk renaming inj→Tw
open Pure renaming pure→UK
open PyProof.Rows renaming IsTup→qbq,exec_Assign→qdo,getMethod_list_of→qap,reads_list_at→qbN,reads_tuple_at→qbp,wpAny_operate'→VN,wpAny_release'→Ws
open PyProof.Rows.F renaming entry_set_update_loop→Xy,plain_set_update_loop→Vr
open PySem renaming Addr→RK,Around→SY,CmpOp→qaP,Comprehension→ZL,DictEntry→VP,Env→Wq,Expr→RX,FuncData→qbo,GenState→qdd,Heap→RI,IsPart→ZV,NameKind→WO,Operator→qbn,OsState→Vw,Params→SE,Pos→Xv,Program→RP,Scope→Xo,SetTable→UA,Setting→Ss,Shared→QZ,Stmt→Wo,Str→Ux,Value→QU,World→Sn,argsOk→qaD,arm_eval_Subscript→ZT,assign→XC,assignEach→Wc,assignInOrder→XY,backTo→Wn,binaryOp→TY,bindArgs→Sb,bindName→Yt,builtinLookup_eq_fast→To,builtinsNs→YE,call→Ur,callWith→Zj,call_meets→ZS,call_meetsIn→YD,cellsFrom→qbW,checkBuiltinCall→qec,codeAny→XQ,compPost→qbj,compareChain→qan,compareOp→TH,comprehension→qbH,concat_meets→qam,constantsAlone→qbi,entryFor→qbh,entryFor_of_tree→WE,eval→US,fillsNumberSlot_of→qdL,filterMap_getElem?_range→Zz,getAttr→qaC,getItem→Tz,getMethod→XF,getMethod_builtin→qal,hashInt→qak,holding→Xr,importBound→qaN,importedModules→WY,intKind→Ub,intKind_is→XB,isSubtype_type→VM,isTrue→YC,keeperOf→qcZ,letOwnedTupleGo→TV,mainGlobals→Un,markedEach→VL,meets_dict_pop_there→qcY,methodCall→qdK,model→Rf,newList→qdx,noFill_tuple_add→qaB,notedBy→Wm,pyIter→qcp,pyNext→ZR,relabel→qco,seq_tuple_add→qbG,setAttr→qaA,setItem→Xq,signature?_of→ZK,sizeLine→qcX,sizeLine_eq→WN,slot_list_setitem→qdQ,standAt→Zr,starEach→UR,subscripted→qcW,swappedStores→XX,swapsWithSole→qbF,testChain→qbV,treeTable→We,truthy→qcn,typeIs_int→qdJ,typeLookup_type→Uw,unpackItems→qaM,valueAt→qcm,wpAny→Rh,wpAny_askSetting→qaz,wpAny_binaryOp_same→qdw,wpAny_bind→QH,wpAny_call_entry→Vo,wpAny_execs_nil→qaW,wpAny_field→qcV,wpAny_forIn_array'→Vv,wpAny_forIn_list→qay,wpAny_getItem_list_slice→qbE,wpAny_getItem_of→qeb,wpAny_holding→RA,wpAny_isInstance→Vn,wpAny_ite_false→RL,wpAny_ite_true→Tt,wpAny_letTemporaryGo→WM,wpAny_list_append_plain→qbU,wpAny_mkInt→qcU,wpAny_mkText→qcl,wpAny_mono→SJ,wpAny_newObj_type→XO,wpAny_of_eq→YZ,wpAny_point→qcT,wpAny_pure→QT,wpAny_pyIter_enum→qdP,wpAny_pyIter_list→qai,wpAny_pyNext_list_end→qcG,wpAny_pyNext_list_item→qck,wpAny_rule→Wb,wpAny_specialOf→qaV,wpAny_standAt→Sj,wpAny_typeOf→qah
open PySem.Around renaming under_plainId→qbc
open PySem.AutoSeq1 renaming list_extend_list_list_0→qdV
open PySem.Builtin renaming bitAnd→ZX,bitOr→qad,bitXor→ZW,divisionGoesByPylong→ZG
open PySem.Builtin.Frozenset renaming baseOf→qdn,copyOf→qdm,differenceUpdate→qdl,hashOf→TL,isAnySet→VU,newFrom→qdk,quietEq→qdj,sizeOf→qdi,slot1→qdh,subsetOf→qdg,unchanged→qdf,updateFrom→qde
open PySem.Builtin.List renaming listFitsIndex→Wj,listSubscript?→qem,listTooLong→Zt
open PySem.Builtin.Range renaming rangeFitsLong→Wd,rangeSize→Ut,small→qae
open PySem.Builtin.Slice renaming sliceAdjust→Wr,slicePartIndex→YJ,slicePlaces→YW
open PySem.Calls renaming loadGlobal_global→qaQ,spliced_cons→qbM,spliced_nil→qca
open PySem.Code renaming cUnits→qef,weight→qee
open PySem.Const renaming casesOn→UB
open PySem.Data renaming casesOn→Yp
open PySem.Expr renaming Name→qaY,casesOn→SU
open PySem.Expr.Attribute renaming elim→Xx
open PySem.Expr.BinOp renaming elim→YV
open PySem.Expr.BoolOp renaming elim→YI
open PySem.Expr.Call renaming elim→ZF
open PySem.Expr.Compare renaming elim→Yo
open PySem.Expr.Constant renaming elim→XN
open PySem.Expr.Dict renaming elim→ZE
open PySem.Expr.DictComp renaming elim→XM
open PySem.Expr.IfExp renaming elim→YU
open PySem.Expr.List renaming elim→ZD
open PySem.Expr.ListComp renaming elim→XK
open PySem.Expr.Name renaming elim→ZC
open PySem.Expr.Slice renaming elim→YT
open PySem.Expr.Subscript renaming elim→Xw
open PySem.Expr.Tuple renaming elim→Wf
open PySem.Expr.UnaryOp renaming elim→Yn
open PySem.F renaming args_dict_pop_3→qau,args_tuple_add_2→Xk,entry_dict_get→qaG,entry_dict_pop→XE,entry_list_pop→qaF,entry_tuple_add→Xu,plainAttrs_dict→Xs,slot_dict_get→VW,slot_dict_pop→VV,slot_int_rmul→qdU,slot_list_extend→qao,slot_list_pop→XJ,slot_range_getitem→qaX,slot_tuple_add→XD,slot_tuple_getitem→XZ,type_dict_get→qaO
open PySem.FuncBody renaming casesOn→qdT
open PySem.Heap renaming ExtBut→qed,SameBut→Su,get?_push_of_some→Rw,get?_push_size→RY,get?_update_self→UW,lt_size→SS,size_push→Yx
open PySem.Heap.SameBut renaming refl→Uh,update→UZ
open PySem.Keeper renaming boundFrame→qbL,frame→qdz,machine→qcH
open PySem.MeetsSeq renaming list_pop_at→qdS,list_pop_last→qdR
open PySem.NameKind renaming casesOn→Tb,cell→VG,free→VF,globalImplicit→TG
open PySem.Obj renaming mapSeq→WZ
open PySem.PyData renaming canLayAll0→qbK,depthAll→qct,eqv→YL,eqvAll→qdc,keyHash→Vz,strOk→qdy
open PySem.SetTable renaming below→qbZ,bits→Vl,eraseAt→Vy,fill→WT,fits→WS,grown→Vt,insertAt→qbm,laid→qac,layClean→qbl,leap→qcs,road→qab,runEnd→Vj,sizeAbove→TJ,turns→XS
open PySem.SetTable.layClean renaming free→TA
open PySem.Stmt.Assign renaming elim→YH
open PySem.Stmt.Expr renaming elim→ZA
open PySem.Stmt.For renaming elim→qaa
open PySem.Stmt.If renaming elim→qaE
open PySem.Stmt.Return renaming elim→YG
open PySem.Stmt.While renaming elim→YS
open PySem.Str renaming empty→WR,ofString→QF
open PySem.Value renaming casesOn→YF,int→VR,isInt_shape→qbY,none→YO,type→qbJ
open PySem.Value.ref renaming inj→qbX
open PySem.Value.type renaming inj→Zs
open PySem.W renaming Frag→VH,behindTheImports→Yw,boot_heap→Yv,cellsFrom_some→qbk,dictOf→qcr,emptyDict→Yu,findIn→ZU,instObj→XR,kia_one→qcq,namesBound→qdM,peek→Uz,plainGet→qdb,topFrame→qda
open PySem.W.Fast renaming te14364793385576792824→WK,te3471404346716756564→qat,te5923862056798008813→qas
open PySem.W.OpenLaw renaming wellSaid→qbI
open PySem.pickOrder renaming go→qaj
open _root_ renaming Array→TS,Bool→RG,DecidableEq→Wh,Int→RW,LawfulBEq→qcg,List→QI,Nat→QN,Option→Rz,String→WD,True→YB,Unit→UE,absurd→Ro,beq_eq_false_iff_ne→Tp,beq_iff_eq→Sk,beq_self_eq_true→UY,bne_iff_ne→VK,bne_self_eq_false→UL,cond→Sr,cond_false→ZQ,cond_true→WC,congrArg→RH,decide_eq_decide→WB,decide_eq_false→RJ,decide_eq_true→Ry,decide_eq_true_eq→Ua,eq_comm→qcj,exists_eq_or_imp→qea,funext→XW,if_neg→SK,if_pos→SH,of_decide_eq_false→Vb,of_decide_eq_true→Rl,or_false→Ys,rfl→QJ,trivial→Tu
section
namespace Mine
theorem aD{P:Prop}(h:QR=QO):P:=qcR h
theorem aI{α:Type}{a:α}{P:Prop}(h:RM=QG a):P:=nomatch h
theorem fT{P:Prop}(h:QO=QR):P:=qcR h
theorem bV{α:Type}{a:α}{P:Prop}(h:QG a=RM):P:=nomatch h
theorem oO{a b G:Prop}(f:a→G)(g:b→G)(h:a∨b):G:=h.elim f g
@[elab_as_elim] theorem rC {p:QN→Prop} {i:QN} (h:i<2) (a:p 0) (b:p 1):p i:=(qcw (SM h)).elim (λh=>Nat.lt_one_iff.mp h▸a) λh=>h▸b
theorem uv{n k:QN}(h:k+1≤n):n-(k+1)+1=n-k:=by rw[Nat.sub_add_eq,Xl (ZH h)]
theorem uw{n k:QN}(h:k+1≤n):n-(k+1)<n:=Nat.sub_lt (Rj (Th k) h) (Th k)
theorem aT{a b:RG}(h:(a&&b)=QO):a=QO∧b=true:=Sv.mp h
theorem bS{α B:Type _}{o:Rz α}{f:α→Rz B}{b:B}(h:o.bind f=QG b):∃a,o=QG a∧f a=QG b:=UG.mp h
theorem mS{α B:Type _}{o:Rz α}{f:α→B}{b:B}(h:o.map f=QG b):∃a,o=QG a∧f a=b:=qaS.mp h
theorem mC{α:Type _}{a b:α}{l:QI α}(h:a∈b::l):a=b∨a∈l:=SI.mp h
theorem m1{α:Type _}{a b:α}(h:a∈[b]):a=b:=Ti.mp h
theorem mA{α:Type _}{a:α}{l m:QI α}(h:a∈l++m):a∈l∨a∈m:=qds.mp h
theorem mM{α B:Type _}{f:α→B}{b:B}{l:QI α}(h:b∈l.map f):∃a,a∈l∧f a=b:=VZ.mp h
theorem iE{α:Type _}{l:QI α}(h:l.isEmpty=QO):l=[]:=qcL.mp h
theorem lB{a b:QN}(h:Um a b=QO):a≤b:=qby h
theorem gL{α:Type _}{l:QI α}{i:QN}{a:α}(h:l[i]?=QG a):i<l.length:=(Te.mp h).1
theorem sP{α B:Type _}{a c:α}{b d:B}(h:QG (a,b)=QG (c,d)):a=c∧b=d:=Tw (QS h)
theorem oA{a b G:Prop}(k:a→b→G)(h:a∧b):G:=k h.1 h.2
theorem oE{α:Sort _}{p:α→Prop}{G:Prop}(k:∀x,p x→G)(h:∃x,p x):G:=h.elim k
theorem oP{α B:Type _}{p:α×B→Prop}{G:Prop}(k:∀x y,p (x,y)→G)(h:∃x,p x):G:=h.elim λz=>k z.1 z.2
theorem mT{p y b x m k:QN}(h:p+k*(y+1)≤m)(a:b≤k)(c:x≤p+b):x+k*y≤m:=QK (RR (QK c (Si a p)) (k*y)) (by rw[TQ,UN k];exact h)
theorem ux{p y b m k n:QN}(h:p+k*(y+1)≤m)(a:b≤k)(hm:m≤n):p+b≤n:=QK (Si (QK a (Nat.le_mul_of_pos_right k (Th y))) p) (QK h hm)
theorem AY{a d m:QN}(h:a+8*(d+1)≤m):a+1+8*d≤m:=QK (RR (Si (by decide:1≤8) a) _) (QK (Sx (by rw[qbt,TQ,UN 8])) h)
theorem AZ{a d m:QN}(h:a+(d+1)≤m):a+1+d≤m:=QK (Sx (RO a 1 d)) h
theorem uy{n k f x:QN}(h:n≤k+(f+1))(a:k<x):n≤x+f:=QK h (QK (Sx (RO k f 1)) (RR a f))
theorem AV{n:QN}(h:n≤10):n+(43-n+10+6)+1=60:=by rw[TQ (43-n) 10 6,←TQ n,Uq (QK h (by decide))]
theorem pX{j n:QN}(h:j<n):n-1+1=n:=Xl (Rp (RQ j) h)
set_option autoImplicit true
set_option relaxedAutoImplicit true
theorem bk{P Q R:Prop}{X:Prop}(k:P→Q→R→X):(P∧Q∧R)→X:=oA λh=>oA (k h)
theorem kX{P:Prop}{Q:α→Prop}{X:Prop}(k:P→∀x,Q x→X):(P∧∃x,Q x)→X:=oA λh=>oE (k h)
theorem ag{P Q:α→Prop}{X:Prop}(k:∀x,P x→Q x→X):(∃x,P x∧Q x)→X:=oE λx=>oA (k x)
theorem jx{P:α→B→Prop}{X:Prop}(k:∀x,∀y,P x y→X):(∃x,∃y,P x y)→X:=oE λx=>oE (k x)
theorem bQ{P Q:(α×B)→Prop}{X:Prop}(k:∀x y,P (x,y)→Q (x,y)→X):(∃x,P x∧Q x)→X:=oP λx y=>oA (k x y)
theorem cY{P Q R S:Prop}{X:Prop}(k:P→Q→R→S→X):(P∧Q∧R∧S)→X:=oA λh=>bk (k h)
theorem yb{P Q:Prop}{R:α→Prop}{X:Prop}(k:P→Q→∀x,R x→X):(P∧Q∧∃x,R x)→X:=oA λh=>kX (k h)
theorem cc{P:Prop}{Q R:α→Prop}{X:Prop}(k:P→∀x,Q x→R x→X):(P∧∃x,Q x∧R x)→X:=oA λh=>ag (k h)
theorem Im{P:Prop}{Q:α→B→Prop}{X:Prop}(k:P→∀x,∀y,Q x y→X):(P∧∃x,∃y,Q x y)→X:=oA λh=>jx (k h)
theorem du{P Q R:α→Prop}{X:Prop}(k:∀x,P x→Q x→R x→X):(∃x,P x∧Q x∧R x)→X:=oE λx=>bk (k x)
theorem rQ{P:α→Prop}{Q:α→B→Prop}{X:Prop}(k:∀x,P x→∀y,Q x y→X):(∃x,P x∧∃y,Q x y)→X:=oE λx=>kX (k x)
theorem bq{P Q:α→B→Prop}{X:Prop}(k:∀x,∀y,P x y→Q x y→X):(∃x,∃y,P x y∧Q x y)→X:=oE λx=>ag (k x)
theorem IF{P:α→B→C→Prop}{X:Prop}(k:∀x,∀y,∀z,P x y z→X):(∃x,∃y,∃z,P x y z)→X:=oE λx=>jx (k x)
theorem II{P Q R:(α×B)→Prop}{X:Prop}(k:∀x y,P (x,y)→Q (x,y)→R (x,y)→X):(∃x,P x∧Q x∧R x)→X:=oP λx y=>bk (k x y)
theorem eu{P Q R S T:Prop}{X:Prop}(k:P→Q→R→S→T→X):(P∧Q∧R∧S∧T)→X:=oA λh=>cY (k h)
theorem gM{P Q:Prop}{R S:α→Prop}{X:Prop}(k:P→Q→∀x,R x→S x→X):(P∧Q∧∃x,R x∧S x)→X:=oA λh=>cc (k h)
theorem cj{P:Prop}{Q R S:α→Prop}{X:Prop}(k:P→∀x,Q x→R x→S x→X):(P∧∃x,Q x∧R x∧S x)→X:=oA λh=>du (k h)
theorem iO{P:Prop}{Q R:α→B→Prop}{X:Prop}(k:P→∀x,∀y,Q x y→R x y→X):(P∧∃x,∃y,Q x y∧R x y)→X:=oA λh=>bq (k h)
theorem jv{P Q R S:α→Prop}{X:Prop}(k:∀x,P x→Q x→R x→S x→X):(∃x,P x∧Q x∧R x∧S x)→X:=oE λx=>cY (k x)
theorem ou{P Q:α→Prop}{R:α→B→Prop}{X:Prop}(k:∀x,P x→Q x→∀y,R x y→X):(∃x,P x∧Q x∧∃y,R x y)→X:=oE λx=>yb (k x)
theorem iP{P:α→Prop}{Q R:α→B→Prop}{X:Prop}(k:∀x,P x→∀y,Q x y→R x y→X):(∃x,P x∧∃y,Q x y∧R x y)→X:=oE λx=>cc (k x)
theorem cm{P Q R:α→B→Prop}{X:Prop}(k:∀x,∀y,P x y→Q x y→R x y→X):(∃x,∃y,P x y∧Q x y∧R x y)→X:=oE λx=>du (k x)
theorem bc{P Q:α→B→C→Prop}{X:Prop}(k:∀x,∀y,∀z,P x y z→Q x y z→X):(∃x,∃y,∃z,P x y z∧Q x y z)→X:=oE λx=>bq (k x)
theorem rM{P Q R S T H:Prop}{X:Prop}(k:P→Q→R→S→T→H→X):(P∧Q∧R∧S∧T∧H)→X:=oA λh=>eu (k h)
theorem rO{P Q:Prop}{R S T:α→Prop}{X:Prop}(k:P→Q→∀x,R x→S x→T x→X):(P∧Q∧∃x,R x∧S x∧T x)→X:=oA λh=>cj (k h)
theorem Ih{P Q:Prop}{R S:α→B→Prop}{X:Prop}(k:P→Q→∀x,∀y,R x y→S x y→X):(P∧Q∧∃x,∃y,R x y∧S x y)→X:=oA λh=>iO (k h)
theorem jY{P:Prop}{Q R S T:α→Prop}{X:Prop}(k:P→∀x,Q x→R x→S x→T x→X):(P∧∃x,Q x∧R x∧S x∧T x)→X:=oA λh=>jv (k h)
theorem yf{P:Prop}{Q:α→Prop}{R S:α→B→Prop}{X:Prop}(k:P→∀x,Q x→∀y,R x y→S x y→X):(P∧∃x,Q x∧∃y,R x y∧S x y)→X:=oA λh=>iP (k h)
theorem yh{P:Prop}{Q R S:α→B→Prop}{X:Prop}(k:P→∀x,∀y,Q x y→R x y→S x y→X):(P∧∃x,∃y,Q x y∧R x y∧S x y)→X:=oA λh=>cm (k h)
theorem Ip{P:Prop}{Q R:α→B→C→Prop}{X:Prop}(k:P→∀x,∀y,∀z,Q x y z→R x y z→X):(P∧∃x,∃y,∃z,Q x y z∧R x y z)→X:=oA λh=>bc (k h)
theorem jw{P Q R S T:α→Prop}{X:Prop}(k:∀x,P x→Q x→R x→S x→T x→X):(∃x,P x∧Q x∧R x∧S x∧T x)→X:=oE λx=>eu (k x)
theorem yl{P Q:α→Prop}{R S:α→B→Prop}{X:Prop}(k:∀x,P x→Q x→∀y,R x y→S x y→X):(∃x,P x∧Q x∧∃y,R x y∧S x y)→X:=oE λx=>gM (k x)
theorem ym{P:α→Prop}{Q R S:α→B→Prop}{X:Prop}(k:∀x,P x→∀y,Q x y→R x y→S x y→X):(∃x,P x∧∃y,Q x y∧R x y∧S x y)→X:=oE λx=>cj (k x)
theorem Iy{P:α→Prop}{Q R:α→B→C→Prop}{X:Prop}(k:∀x,P x→∀y,∀z,Q x y z→R x y z→X):(∃x,P x∧∃y,∃z,Q x y z∧R x y z)→X:=oE λx=>iO (k x)
theorem dw{P Q R S:α→B→Prop}{X:Prop}(k:∀x,∀y,P x y→Q x y→R x y→S x y→X):(∃x,∃y,P x y∧Q x y∧R x y∧S x y)→X:=oE λx=>jv (k x)
theorem IE{P Q:α→B→Prop}{R:α→B→C→Prop}{X:Prop}(k:∀x,∀y,P x y→Q x y→∀z,R x y z→X):(∃x,∃y,P x y∧Q x y∧∃z,R x y z)→X:=oE λx=>ou (k x)
theorem gO{P Q R:α→B→C→Prop}{X:Prop}(k:∀x,∀y,∀z,P x y z→Q x y z→R x y z→X):(∃x,∃y,∃z,P x y z∧Q x y z∧R x y z)→X:=oE λx=>cm (k x)
theorem cv{P Q:α→B→C→D→Prop}{X:Prop}(k:∀x,∀y,∀z,∀u,P x y z u→Q x y z u→X):(∃x,∃y,∃z,∃u,P x y z u∧Q x y z u)→X:=oE λx=>bc (k x)
theorem rN{P Q R S T H F:Prop}{X:Prop}(k:P→Q→R→S→T→H→F→X):(P∧Q∧R∧S∧T∧H∧F)→X:=oA λh=>rM (k h)
theorem Ie{P Q R:Prop}{S T H:α→Prop}{X:Prop}(k:P→Q→R→∀x,S x→T x→H x→X):(P∧Q∧R∧∃x,S x∧T x∧H x)→X:=oA λh=>rO (k h)
theorem Ig{P Q R:Prop}{S T:α→B→Prop}{X:Prop}(k:P→Q→R→∀x,∀y,S x y→T x y→X):(P∧Q∧R∧∃x,∃y,S x y∧T x y)→X:=oA λh=>Ih (k h)
theorem yc{P Q:Prop}{R S T H:α→Prop}{X:Prop}(k:P→Q→∀x,R x→S x→T x→H x→X):(P∧Q∧∃x,R x∧S x∧T x∧H x)→X:=oA λh=>jY (k h)
theorem Ik{P:Prop}{Q R S T H:α→Prop}{X:Prop}(k:P→∀x,Q x→R x→S x→T x→H x→X):(P∧∃x,Q x∧R x∧S x∧T x∧H x)→X:=oA λh=>jw (k h)
theorem jZ{P:Prop}{Q:α→Prop}{R S T:α→B→Prop}{X:Prop}(k:P→∀x,Q x→∀y,R x y→S x y→T x y→X):(P∧∃x,Q x∧∃y,R x y∧S x y∧T x y)→X:=oA λh=>ym (k h)
theorem Io{P:Prop}{Q R S T:α→B→Prop}{X:Prop}(k:P→∀x,∀y,Q x y→R x y→S x y→T x y→X):(P∧∃x,∃y,Q x y∧R x y∧S x y∧T x y)→X:=oA λh=>dw (k h)
theorem kY{P:Prop}{Q R S:α→B→C→Prop}{X:Prop}(k:P→∀x,∀y,∀z,Q x y z→R x y z→S x y z→X):(P∧∃x,∃y,∃z,Q x y z∧R x y z∧S x y z)→X:=oA λh=>gO (k h)
theorem Ir{P Q R S T H:α→Prop}{X:Prop}(k:∀x,P x→Q x→R x→S x→T x→H x→X):(∃x,P x∧Q x∧R x∧S x∧T x∧H x)→X:=oE λx=>rM (k x)
theorem IA{P:α→Prop}{Q R:α→B→C→D→Prop}{X:Prop}(k:∀x,P x→∀y,∀z,∀u,Q x y z u→R x y z u→X):(∃x,P x∧∃y,∃z,∃u,Q x y z u∧R x y z u)→X:=oE λx=>Ip (k x)
theorem ow{P Q R S T:α→B→Prop}{X:Prop}(k:∀x,∀y,P x y→Q x y→R x y→S x y→T x y→X):(∃x,∃y,P x y∧Q x y∧R x y∧S x y∧T x y)→X:=oE λx=>jw (k x)
theorem fg{P Q R S:α→B→C→Prop}{X:Prop}(k:∀x,∀y,∀z,P x y z→Q x y z→R x y z→S x y z→X):(∃x,∃y,∃z,P x y z∧Q x y z∧R x y z∧S x y z)→X:=oE λx=>dw (k x)
theorem IG{P Q R:α→B→C→D→Prop}{X:Prop}(k:∀x,∀y,∀z,∀u,P x y z u→Q x y z u→R x y z u→X):(∃x,∃y,∃z,∃u,P x y z u∧Q x y z u∧R x y z u)→X:=oE λx=>gO (k x)
theorem rT{P Q:α→B→C→D→a→Prop}{X:Prop}(k:∀x,∀y,∀z,∀u,∀v,P x y z u v→Q x y z u v→X):(∃x,∃y,∃z,∃u,∃v,P x y z u v∧Q x y z u v)→X:=oE λx=>cv (k x)
theorem HW{P Q R S T H F M:Prop}{X:Prop}(k:P→Q→R→S→T→H→F→M→X):(P∧Q∧R∧S∧T∧H∧F∧M)→X:=oA λh=>rN (k h)
theorem yd{P Q:Prop}{R:α→Prop}{S T H:α→B→Prop}{X:Prop}(k:P→Q→∀x,R x→∀y,S x y→T x y→H x y→X):(P∧Q∧∃x,R x∧∃y,S x y∧T x y∧H x y)→X:=oA λh=>jZ (k h)
theorem yi{P:Prop}{Q R S T H:α→B→Prop}{X:Prop}(k:P→∀x,∀y,Q x y→R x y→S x y→T x y→H x y→X):(P∧∃x,∃y,Q x y∧R x y∧S x y∧T x y∧H x y)→X:=oA λh=>ow (k h)
theorem rP{P:Prop}{Q R S T:α→B→C→Prop}{X:Prop}(k:P→∀x,∀y,∀z,Q x y z→R x y z→S x y z→T x y z→X):(P∧∃x,∃y,∃z,Q x y z∧R x y z∧S x y z∧T x y z)→X:=oA λh=>fg (k h)
theorem yk{P Q R S T H F:α→Prop}{X:Prop}(k:∀x,P x→Q x→R x→S x→T x→H x→F x→X):(∃x,P x∧Q x∧R x∧S x∧T x∧H x∧F x)→X:=oE λx=>rN (k x)
theorem Iu{P Q R:α→Prop}{S T H:α→B→Prop}{X:Prop}(k:∀x,P x→Q x→R x→∀y,S x y→T x y→H x y→X):(∃x,P x∧Q x∧R x∧∃y,S x y∧T x y∧H x y)→X:=oE λx=>Ie (k x)
theorem Iw{P:α→Prop}{Q R S T H:α→B→Prop}{X:Prop}(k:∀x,P x→∀y,Q x y→R x y→S x y→T x y→H x y→X):(∃x,P x∧∃y,Q x y∧R x y∧S x y∧T x y∧H x y)→X:=oE λx=>Ik (k x)
theorem yn{P:α→Prop}{Q R S T:α→B→C→Prop}{X:Prop}(k:∀x,P x→∀y,∀z,Q x y z→R x y z→S x y z→T x y z→X):(∃x,P x∧∃y,∃z,Q x y z∧R x y z∧S x y z∧T x y z)→X:=oE λx=>Io (k x)
theorem mq{P Q R S T H:α→B→Prop}{X:Prop}(k:∀x,∀y,P x y→Q x y→R x y→S x y→T x y→H x y→X):(∃x,∃y,P x y∧Q x y∧R x y∧S x y∧T x y∧H x y)→X:=oE λx=>Ir (k x)
theorem rR{P Q R S T:α→B→C→Prop}{X:Prop}(k:∀x,∀y,∀z,P x y z→Q x y z→R x y z→S x y z→T x y z→X):(∃x,∃y,∃z,P x y z∧Q x y z∧R x y z∧S x y z∧T x y z)→X:=oE λx=>ow (k x)
theorem IH{P Q R S:α→B→C→D→Prop}{X:Prop}(k:∀x,∀y,∀z,∀u,P x y z u→Q x y z u→R x y z u→S x y z u→X):(∃x,∃y,∃z,∃u,P x y z u∧Q x y z u∧R x y z u∧S x y z u)→X:=oE λx=>fg (k x)
theorem oy{P Q:α→B→C→D→a→b→Prop}{X:Prop}(k:∀x,∀y,∀z,∀u,∀v,∀w,P x y z u v w→Q x y z u v w→X):(∃x,∃y,∃z,∃u,∃v,∃w,P x y z u v w∧Q x y z u v w)→X:=oE λx=>rT (k x)
theorem HX{P Q R S T H F M N:Prop}{X:Prop}(k:P→Q→R→S→T→H→F→M→N→X):(P∧Q∧R∧S∧T∧H∧F∧M∧N)→X:=oA λh=>HW (k h)
theorem Il{P:Prop}{Q:α→Prop}{R S T H F:α→B→Prop}{X:Prop}(k:P→∀x,Q x→∀y,R x y→S x y→T x y→H x y→F x y→X):(P∧∃x,Q x∧∃y,R x y∧S x y∧T x y∧H x y∧F x y)→X:=oA λh=>Iw (k h)
theorem mn{P:Prop}{Q R S T H F:α→B→Prop}{X:Prop}(k:P→∀x,∀y,Q x y→R x y→S x y→T x y→H x y→F x y→X):(P∧∃x,∃y,Q x y∧R x y∧S x y∧T x y∧H x y∧F x y)→X:=oA λh=>mq (k h)
theorem Iq{P:Prop}{Q R S T:α→B→C→D→Prop}{X:Prop}(k:P→∀x,∀y,∀z,∀u,Q x y z u→R x y z u→S x y z u→T x y z u→X):(P∧∃x,∃y,∃z,∃u,Q x y z u∧R x y z u∧S x y z u∧T x y z u)→X:=oA λh=>IH (k h)
theorem Iz{P:α→Prop}{Q R S T H:α→B→C→Prop}{X:Prop}(k:∀x,P x→∀y,∀z,Q x y z→R x y z→S x y z→T x y z→H x y z→X):(∃x,P x∧∃y,∃z,Q x y z∧R x y z∧S x y z∧T x y z∧H x y z)→X:=oE λx=>yi (k x)
theorem IB{P Q R S T H F:α→B→Prop}{X:Prop}(k:∀x,∀y,P x y→Q x y→R x y→S x y→T x y→H x y→F x y→X):(∃x,∃y,P x y∧Q x y∧R x y∧S x y∧T x y∧H x y∧F x y)→X:=oE λx=>yk (k x)
theorem ID{P Q R:α→B→Prop}{S T H:α→B→C→Prop}{X:Prop}(k:∀x,∀y,P x y→Q x y→R x y→∀z,S x y z→T x y z→H x y z→X):(∃x,∃y,P x y∧Q x y∧R x y∧∃z,S x y z∧T x y z∧H x y z)→X:=oE λx=>Iu (k x)
theorem kZ{P Q R S T H:α→B→C→Prop}{X:Prop}(k:∀x,∀y,∀z,P x y z→Q x y z→R x y z→S x y z→T x y z→H x y z→X):(∃x,∃y,∃z,P x y z∧Q x y z∧R x y z∧S x y z∧T x y z∧H x y z)→X:=oE λx=>mq (k x)
theorem rS{P Q R S T:α→B→C→D→Prop}{X:Prop}(k:∀x,∀y,∀z,∀u,P x y z u→Q x y z u→R x y z u→S x y z u→T x y z u→X):(∃x,∃y,∃z,∃u,P x y z u∧Q x y z u∧R x y z u∧S x y z u∧T x y z u)→X:=oE λx=>rR (k x)
theorem rU{P Q:α→B→C→D→b→c→d→Prop}{X:Prop}(k:∀x,∀y,∀z,∀u,∀v,∀w,∀a,P x y z u v w a→Q x y z u v w a→X):(∃x,∃y,∃z,∃u,∃v,∃w,∃a,P x y z u v w a∧Q x y z u v w a)→X:=oE λx=>oy (k x)
theorem HY{P Q R S T H F M N B:Prop}{X:Prop}(k:P→Q→R→S→T→H→F→M→N→B→X):(P∧Q∧R∧S∧T∧H∧F∧M∧N∧B)→X:=oA λh=>HX (k h)
theorem ye{P Q:Prop}{R:α→Prop}{S T H F M:α→B→Prop}{X:Prop}(k:P→Q→∀x,R x→∀y,S x y→T x y→H x y→F x y→M x y→X):(P∧Q∧∃x,R x∧∃y,S x y∧T x y∧H x y∧F x y∧M x y)→X:=oA λh=>Il (k h)
theorem Ii{P Q:Prop}{R S T H F M:α→B→Prop}{X:Prop}(k:P→Q→∀x,∀y,R x y→S x y→T x y→H x y→F x y→M x y→X):(P∧Q∧∃x,∃y,R x y∧S x y∧T x y∧H x y∧F x y∧M x y)→X:=oA λh=>mn (k h)
theorem Ij{P Q:Prop}{R S T H:α→B→C→D→Prop}{X:Prop}(k:P→Q→∀x,∀y,∀z,∀u,R x y z u→S x y z u→T x y z u→H x y z u→X):(P∧Q∧∃x,∃y,∃z,∃u,R x y z u∧S x y z u∧T x y z u∧H x y z u)→X:=oA λh=>Iq (k h)
theorem yg{P:Prop}{Q:α→Prop}{R S T H F:α→B→C→Prop}{X:Prop}(k:P→∀x,Q x→∀y,∀z,R x y z→S x y z→T x y z→H x y z→F x y z→X):(P∧∃x,Q x∧∃y,∃z,R x y z∧S x y z∧T x y z∧H x y z∧F x y z)→X:=oA λh=>Iz (k h)
theorem yj{P:Prop}{Q R S T H F M:α→B→Prop}{X:Prop}(k:P→∀x,∀y,Q x y→R x y→S x y→T x y→H x y→F x y→M x y→X):(P∧∃x,∃y,Q x y∧R x y∧S x y∧T x y∧H x y∧F x y∧M x y)→X:=oA λh=>IB (k h)
theorem yo{P Q R:α→B→C→Prop}{S T H:α→B→C→D→Prop}{X:Prop}(k:∀x,∀y,∀z,P x y z→Q x y z→R x y z→∀u,S x y z u→T x y z u→H x y z u→X):(∃x,∃y,∃z,P x y z∧Q x y z∧R x y z∧∃u,S x y z u∧T x y z u∧H x y z u)→X:=oE λx=>ID (k x)
theorem yp{P Q R S T H:α→B→C→D→Prop}{X:Prop}(k:∀x,∀y,∀z,∀u,P x y z u→Q x y z u→R x y z u→S x y z u→T x y z u→H x y z u→X):(∃x,∃y,∃z,∃u,P x y z u∧Q x y z u∧R x y z u∧S x y z u∧T x y z u∧H x y z u)→X:=oE λx=>kZ (k x)
theorem HZ{P Q R S T H F M N B C:Prop}{X:Prop}(k:P→Q→R→S→T→H→F→M→N→B→C→X):(P∧Q∧R∧S∧T∧H∧F∧M∧N∧B∧C)→X:=oA λh=>HY (k h)
theorem ya{P Q R:Prop}{S T H F M N:α→B→Prop}{X:Prop}(k:P→Q→R→∀x,∀y,S x y→T x y→H x y→F x y→M x y→N x y→X):(P∧Q∧R∧∃x,∃y,S x y∧T x y∧H x y∧F x y∧M x y∧N x y)→X:=oA λh=>Ii (k h)
theorem gP{P Q R:α→B→C→D→Prop}{S T H:α→B→C→D→a→Prop}{X:Prop}(k:∀x,∀y,∀z,∀u,P x y z u→Q x y z u→R x y z u→∀v,S x y z u v→T x y z u v→H x y z u v→X):(∃x,∃y,∃z,∃u,P x y z u∧Q x y z u∧R x y z u∧∃v,S x y z u v∧T x y z u v∧H x y z u v)→X:=oE λx=>yo (k x)
theorem Ia{P Q R S T H F M N B C D:Prop}{X:Prop}(k:P→Q→R→S→T→H→F→M→N→B→C→D→X):(P∧Q∧R∧S∧T∧H∧F∧M∧N∧B∧C∧D)→X:=oA λh=>HZ (k h)
theorem Ib{P Q R S T H F M N B C D V:Prop}{X:Prop}(k:P→Q→R→S→T→H→F→M→N→B→C→D→V→X):(P∧Q∧R∧S∧T∧H∧F∧M∧N∧B∧C∧D∧V)→X:=oA λh=>Ia (k h)
theorem Ic{P Q R S T H F M N B C D V W:Prop}{X:Prop}(k:P→Q→R→S→T→H→F→M→N→B→C→D→V→W→X):(P∧Q∧R∧S∧T∧H∧F∧M∧N∧B∧C∧D∧V∧W)→X:=oA λh=>Ib (k h)
theorem aL{P Q R:Prop}(h:P)(a:Q)(b:R):P∧Q∧R:=⟨h,a,b⟩
theorem ai{P Q:α→Prop} x(h:P x)(a:Q x):∃x,P x∧Q x:=⟨x,h,a⟩
theorem kU{P:α→B→Prop} x y(h:P x y):∃x,∃y,P x y:=⟨x,y,h⟩
theorem cq{P Q R S:Prop}(h:P)(a:Q)(b:R)(c:S):P∧Q∧R∧S:=⟨h,a,b,c⟩
theorem cE{P:Prop}{Q R:α→Prop}(h:P)x(a:Q x)(b:R x):P∧∃x,Q x∧R x:=⟨h,x,a,b⟩
theorem bz{P Q R:α→Prop} x(h:P x)(a:Q x)(b:R x):∃x,P x∧Q x∧R x:=⟨x,h,a,b⟩
theorem fy{P Q:α→B→Prop} x y(h:P x y)(a:Q x y):∃x,∃y,P x y∧Q x y:=⟨x,y,h,a⟩
theorem qQ{P Q R S T:Prop}(h:P)(a:Q)(b:R)(c:S)(d:T):P∧Q∧R∧S∧T:=⟨h,a,b,c,d⟩
theorem jV{P Q:Prop}{R S:α→Prop}(h:P)(a:Q)x(b:R x)(c:S x):P∧Q∧∃x,R x∧S x:=⟨h,a,x,b,c⟩
theorem cW{P:Prop}{Q R S:α→Prop}(h:P)x(a:Q x)(b:R x)(c:S x):P∧∃x,Q x∧R x∧S x:=⟨h,x,a,b,c⟩
theorem fO{P Q R S:α→Prop} x(h:P x)(a:Q x)(b:R x)(c:S x):∃x,P x∧Q x∧R x∧S x:=⟨x,h,a,b,c⟩
theorem gF{P Q:α→Prop}{R:α→B→Prop} x(h:P x)(a:Q x)y(b:R x y):∃x,P x∧Q x∧∃y,R x y:=⟨x,h,a,y,b⟩
theorem cX{P Q R:α→B→Prop} x y(h:P x y)(a:Q x y)(b:R x y):∃x,∃y,P x y∧Q x y∧R x y:=⟨x,y,h,a,b⟩
theorem cy{P Q:α→B→C→Prop} x y z(h:P x y z)(a:Q x y z):∃x,∃y,∃z,P x y z∧Q x y z:=⟨x,y,z,h,a⟩
theorem gE{P:Prop}{Q R S T:α→Prop}(h:P)x(a:Q x)(b:R x)(c:S x)(d:T x):P∧∃x,Q x∧R x∧S x∧T x:=⟨h,x,a,b,c,d⟩
theorem iJ{P Q R S T:α→Prop} x(h:P x)(a:Q x)(b:R x)(c:S x)(d:T x):∃x,P x∧Q x∧R x∧S x∧T x:=⟨x,h,a,b,c,d⟩
theorem eF{P Q R S:α→B→Prop} x y(h:P x y)(a:Q x y)(b:R x y)(c:S x y):∃x,∃y,P x y∧Q x y∧R x y∧S x y:=⟨x,y,h,a,b,c⟩
theorem jm{P Q R:α→B→C→Prop} x y z(h:P x y z)(a:Q x y z)(b:R x y z):∃x,∃y,∃z,P x y z∧Q x y z∧R x y z:=⟨x,y,z,h,a,b⟩
theorem fP{P Q:α→B→C→D→Prop} x y z u(h:P x y z u)(a:Q x y z u):∃x,∃y,∃z,∃u,P x y z u∧Q x y z u:=⟨x,y,z,u,h,a⟩
theorem jk{P:Prop}{Q:α→Prop}{R S T:α→B→Prop}(h:P)x(a:Q x)y(b:R x y)(c:S x y)(d:T x y):P∧∃x,Q x∧∃y,R x y∧S x y∧T x y:=⟨h,x,a,y,b,c,d⟩
theorem jW{P Q R:α→Prop}{S T:α→B→Prop} x(h:P x)(a:Q x)(b:R x)y(c:S x y)(d:T x y):∃x,P x∧Q x∧R x∧∃y,S x y∧T x y:=⟨x,h,a,b,y,c,d⟩
theorem er{P Q R S:α→B→C→Prop} x y z(h:P x y z)(a:Q x y z)(b:R x y z)(c:S x y z):∃x,∃y,∃z,P x y z∧Q x y z∧R x y z∧S x y z:=⟨x,y,z,h,a,b,c⟩
theorem jl{P:Prop}{Q R S T H F:α→B→Prop}(h:P)x y(a:Q x y)(b:R x y)(c:S x y)(d:T x y)(e:H x y)(f:F x y):P∧∃x,∃y,Q x y∧R x y∧S x y∧T x y∧H x y∧F x y:=⟨h,x,y,a,b,c,d,e,f⟩
theorem fz{P Q R S T:α→B→C→D→Prop} x y z u(h:P x y z u)(a:Q x y z u)(b:R x y z u)(c:S x y z u)(d:T x y z u):∃x,∃y,∃z,∃u,P x y z u∧Q x y z u∧R x y z u∧S x y z u∧T x y z u:=⟨x,y,z,u,h,a,b,c,d⟩
theorem jn{P Q R S T H:α→B→C→D→Prop} x y z u(h:P x y z u)(a:Q x y z u)(b:R x y z u)(c:S x y z u)(d:T x y z u)(e:H x y z u):∃x,∃y,∃z,∃u,P x y z u∧Q x y z u∧R x y z u∧S x y z u∧T x y z u∧H x y z u:=⟨x,y,z,u,h,a,b,c,d,e⟩
end Mine
end
section
open PySem PySem.W PyProof.Rows
namespace Mine
abbrev pq:Program:=PySem.Challenge.rw_nz0128_01.row.toRowW.1
noncomputable def ju:Pos:={line:=0,col:=0,endLine:=0,endCol:=0}
noncomputable def qq:Pos:={line:=495,col:=0,endLine:=506,endCol:=31}
noncomputable def qr:Env:={scope:=pq.main.scope,locals:=mainNs,globals:=mainNs,cells:=[],code:=.ref 13,frame:=QG 14}
noncomputable def cT:Code:=.body (Yw pq) qr
noncomputable def Af:Thread:=piecesOf (Yw pq) qr cT ju [qda ju]
noncomputable def xW:Obj:={cls:=.type "tuple",data:=.seq #[]}
noncomputable def xX:Obj:={cls:=.none,data:=.fields #[]}
noncomputable def xY : Obj := { cls := .type "code", data := .fields #[.str (QF "<module>") 182, .str (QF "<module>") 183, .str (QF "/claim/cut.py") 184,
  .int 1 0, .int 0 0, .int 0 0, .int 0 0, .int 0 0, .ref 11, .bool QR, .int 181 0, .ref 12, .none, .none, .none, .none, .int 185 0, .int 1 0, .str (QF "/claim/cut.py") 186] }
noncomputable def xZ:Obj:={cls:=.type "frame",slots:=#[QG (.ref 13),QG (.ref 3),QG (.ref 3),RM,QG (.str (QF "__main__") 164),RM,QG (.ref 0)]}
noncomputable def wM(P:SE):Heap:=⟨⟨[boot_o_0 P,boot_o_1 P,boot_o_2 P,boot_o_3 P,boot_o_4 P,boot_o_5 P,boot_o_6 P,boot_o_7 P,boot_o_8 P,boot_o_9 P,boot_o_10 P,xW,xX,xY,xZ]⟩,{}⟩
noncomputable def Mc(P:SE):BT:=
 .node (boot_o_0 P)
  (.node (boot_o_1 P) (.node (boot_o_3 P) (.node (boot_o_7 P) .nil .nil) (.node xW .nil .nil)) (.node (boot_o_5 P) (.node (boot_o_9 P) .nil .nil) (.node xY .nil .nil)))
  (.node (boot_o_2 P) (.node (boot_o_4 P) (.node (boot_o_8 P) .nil .nil) (.node xX .nil .nil)) (.node (boot_o_6 P) (.node (boot_o_10 P) .nil .nil) (.node xZ .nil .nil)))
noncomputable def ph(w:Sn)(os:Vw):SharedT:={tree:=Mc w.params,n:=15,life:={},gens:=#[],drawn:={},toks:=187,os:=os}
noncomputable def zB(w:Sn)(os:Vw):Rz (Flow×SharedT×Code×Xv):=
 Fast.tw10110043849684766642 Fast.tw14364793385576792824 pq w 11 (QG (.ref 6)) 1 2700 (ph w os) Af
noncomputable def iS(w:Sn)(os:Vw):SharedT:=match zB w os with
 |some (Z,s,U,Y)=>s
 |none=>ph w os
theorem Kx(w:Sn)(os:Vw):zB w os=QG (.next,iS w os,cT,qq):=by kernel_rfl
theorem Kv(w:Sn)(os:Vw):segRunT We pq w 11 (QG (.ref 6)) 1 2700 (ph w os) Af=QG (.next,iS w os,cT,qq):=by
 rw[Fast.te10110043849684766642,WK];exact Kx w os
theorem KU:looksOpen PySem.Challenge.rw_nz0128_01.row.prog=true:=by
 rw[Fast.te12908688711261696721];kernel_rfl
theorem KV:PySem.Challenge.rw_nz0128_01.row.wellSaid=true:=by
 unfold OpenRow.wellSaid OpenRow.partSaid;rw[KU,YQ,Fast.te18344453789297297638,qat]
 kernel_rfl
theorem KS:qbI PySem.Challenge.rw_nz0128_01=true:=by
 unfold qbI
 rw[KV,YQ,Fast.te8326940854005059898,Fast.te17119622794617984870,Fast.te8179353310426384613,Fast.te9558739934217749035,Fast.te16286561074155671207,Fast.te10501279942588096481,Fast.te6984425678791042302,
  Fast.te10792542408131684335,Fast.te797321630700447069,Fast.te9572597257264208301,Fast.named_eq,qat,Fast.te12879404354523853263,Fast.te482687673346738481]
 kernel_rfl
theorem JB:opening pq=plainProg pq.main.scope.names:=QJ
theorem DR(s:QZ):fenceModules? pq s=QG s:=by
 rw[Fast.te14289696077712309145];kernel_rfl
theorem CV(w:Sn):((Yv w.params).isNs Un&&(Array.mk ([]:QI qdd)).size==0,(Yv w.params).objs.size,(Yv w.params).nsMap Un "__annotations__")=(QO,11,QG (.ref 6)):=by
 rw[Fast.te8920871248978507458];kernel_rfl
theorem Kt(w:Sn)(os:Vw)(s:QZ):topRun We pq w 11 (QG (.ref 6)) 2 s {cur:=doneF .next,code:=cT,pos:=qq,stack:=[qda ju]}=QG s:=by
 kernel_rfl
theorem Ku(w:Sn)(os:Vw):topGo We pq w 11 (QG (.ref 6)) 12 ⟨Yv w.params,#[],boot_drawn,boot_toks,os⟩ (topStub pq)=
  QG (⟨wM w.params,#[],{},187,os⟩,⟨denote We cT,cT,ju,[qda ju]⟩):=by
 rw[Fast.te15667345088766844465,WK,Fast.te11892475500146522536];kernel_rfl
theorem Ks(w:Sn)(os:Vw):segRun We pq w 11 (QG (.ref 6)) 1 1 ⟨wM w.params,#[],{},187,os⟩ (blockOf (Yw pq) qr cT ju [qda ju])=
  QG (.next,(ph w os).abs,cT,ju):=by
 rw[Fast.te14374325043358763698,WK];kernel_rfl
theorem Kw(w:Sn)(os:Vw):topRun We pq w 11 (QG (.ref 6)) (Nat.add 12 (Nat.add 1 (Nat.add 2700 2))) ⟨Yv w.params,#[],boot_drawn,boot_toks,os⟩ (topStub pq)=QG (iS w os).abs:=
 go_top (Ku w os) (piece_block (Ks w os) (piece_app (l:=Yw pq) (rest:=[]) (segRun_of (Kv w os)) (Kt w os _)))
end Mine
end
section
open PySem PySem.W PySem.Calls PyProof.Rows
namespace Mine
noncomputable def Gu:QI Nat:=[0,2,3,4,5,6,8,9,10,11,12,13,14,15,16,17,18,19,21,22,23,24,25,26,27,28,29,30,31,33,34,35,36,37,38,39,40,41,42,43,44,45,46,47,48,49,50,51,52]
noncomputable def qv:Program:={pq with main:={pq.main with body:=Gu.filterMap λi=>pq.main.body[i]?}}
noncomputable def bK(i:QN):Rz Stmt:=pq.main.body[i]?
noncomputable def eS(i j:QN):Rz Stmt:=match pq.main.body[i]? with
 |some (.ClassDef Z U Y b O a c d e f g)=>b[j]?
 |_=>RM
noncomputable def bo(t:Rz Wo)(q:WD)(v m:QU)(d:RK):Obj:=match t with
 |some (.FunctionDef name s y Z U Y e O a b)=>{cls:=.type "function",data:=.func {docDef name s y e m (.ref d) .none with qualname:=QF q,defaults:=v}}
 |_=>qcE
noncomputable def ke(P:SE)(k:WD)(t:Tok)(v:QU):DictEntry:={hash:=Vz P (QF k),key:=.str (QF k) t,val:=v}
noncomputable def aK(P:SE):Frag:=
 (nat_lit 2,{cls:=.none,data:=.dict #[]})::
 (nat_lit 3,{cls:=.type "dict",data:=.dict #[ke P "__name__" 165 (.str (QF "law_nz0128_01") 627),ke P "__doc__" 166 (.none),ke P "__package__" 167 (.none),ke P "__loader__" 168 (.builtin "__main__.__loader__#opaque"),ke P "__spec__" 169 (.none),ke P "__annotations__" 170 (.ref 6),ke P "__builtins__" 171 (.ref 4),ke P "__file__" 173 (.str (QF "/claim/cut.py") 172),ke P "__cached__" 174 (.none),ke P "_wall" 193 (.ref 21),ke P "Body" 281 (.ref 82),ke P "successors" 287 (.ref 91),ke P "copied" 293 (.ref 96),ke P "operands_of" 301 (.ref 103),ke P "with_operands" 310 (.ref 110),ke P "PLAIN_dead" 315 (.ref 111),ke P "is_plain" 321 (.ref 116),ke P "place_reads" 327 (.ref 121),ke P "whole_reads" 333 (.ref 126),ke P "operand_reads" 342 (.ref 133),ke P "rvalue_reads" 349 (.ref 140),ke P "terminator_reads" 357 (.ref 147),ke P "Uses" 443 (.ref 200),ke P "named_locals" 449 (.ref 209),ke P "put_places" 455 (.ref 214),ke P "without_dead" 461 (.ref 219),ke P "is_idle" 469 (.ref 226),ke P "PLAIN_copies" 474 (.ref 227),ke P "lent_or_other" 486 (.ref 234),ke P "read_operand" 494 (.ref 241),ke P "read_operands" 500 (.ref 246),ke P "read_rvalue" 508 (.ref 253),ke P "read_statement" 516 (.ref 260),ke P "read_terminator" 524 (.ref 267),ke P "forget" 530 (.ref 272),ke P "forget_moved" 539 (.ref 279),ke P "Copies" 611 (.ref 322),ke P "without_copies" 626 (.ref 333),ke P "_law_pool" 639 (.ref 340),ke P "_law_take" 648 (.ref 347),ke P "_law_one" 656 (.ref 354),ke P "_law_body" 662 (.ref 359),ke P "_law_begun" 675 (.ref 366),ke P "_law_operand" 686 (.ref 373),ke P "_law_truth" 696 (.ref 380),ke P "_law_statement" 711 (.ref 387),ke P "_law_end" 725 (.ref 394),ke P "_law_read" 735 (.ref 401),ke P "_law_worked" 746 (.ref 408),ke P "_law_made" 752 (.ref 413),ke P "_law_run" 758 (.ref 418),ke P "_law_next" 764 (.ref 423),ke P "_law_read_in" 773 (.ref 430),ke P "_law_goals" 779 (.ref 435),ke P "_law_is_read" 785 (.ref 440),ke P "_law_left" 791 (.ref 445),ke P "_law_changed_right" 804 (.ref 452),ke P "law" 810 (.ref 457)] 58})::
 (nat_lit 29,{cls:=.type "tuple",data:=.seq #[.none,.none]})::
 (nat_lit 35,{cls:=.type "code",data:=.fields #[.str (QF "__init__") 208,.str (QF "Body.__init__") 209,.str (QF "/claim/cut.py") 210,.int 7 0,.int 6 0,.int 0 0,.int 0 0,.int 3 0,.ref 30,.bool QO,.int 181 0,.ref 31,.none,.ref 32,.ref 33,.ref 34,.int 217 0,.int 7 0,.str (QF "/claim/cut.py") 218]})::
 (nat_lit 36,bo (eS 2 0) "Body.__init__" (.ref 29) (.str (QF "lendcore.mir") 194) 35)::
 (nat_lit 56,{cls:=.type "code",data:=.fields #[.str (QF "statements") 235,.str (QF "Body.statements") 236,.str (QF "/claim/cut.py") 237,.int 20 0,.int 2 0,.int 0 0,.int 0 0,.int 3 0,.ref 51,.bool QO,.int 181 0,.ref 52,.none,.ref 53,.ref 54,.ref 55,.int 240 0,.int 20 0,.str (QF "/claim/cut.py") 241]})::
 (nat_lit 57,bo (eS 2 3) "Body.statements" (.none) (.str (QF "lendcore.mir") 194) 56)::
 (nat_lit 63,{cls:=.type "code",data:=.fields #[.str (QF "terminator") 243,.str (QF "Body.terminator") 244,.str (QF "/claim/cut.py") 245,.int 23 0,.int 2 0,.int 0 0,.int 0 0,.int 3 0,.ref 58,.bool QO,.int 181 0,.ref 59,.none,.ref 60,.ref 61,.ref 62,.int 248 0,.int 23 0,.str (QF "/claim/cut.py") 249]})::
 (nat_lit 64,bo (eS 2 4) "Body.terminator" (.none) (.str (QF "lendcore.mir") 194) 63)::
 (nat_lit 70,{cls:=.type "code",data:=.fields #[.str (QF "spot") 251,.str (QF "Body.spot") 252,.str (QF "/claim/cut.py") 253,.int 26 0,.int 2 0,.int 0 0,.int 0 0,.int 3 0,.ref 65,.bool QO,.int 181 0,.ref 66,.none,.ref 67,.ref 68,.ref 69,.int 256 0,.int 26 0,.str (QF "/claim/cut.py") 257]})::
 (nat_lit 71,bo (eS 2 5) "Body.spot" (.none) (.str (QF "lendcore.mir") 194) 70)::
 (nat_lit 81,{cls:=.type "dict",data:=.dict #[ke P "__module__" 203 (.str (QF "lendcore.mir") 194),ke P "__firstlineno__" 207 (.int 5 206),ke P "__init__" 219 (.ref 36),ke P "type_of" 227 (.ref 43),ke P "args" 234 (.ref 50),ke P "statements" 242 (.ref 57),ke P "terminator" 250 (.ref 64),ke P "spot" 258 (.ref 71),ke P "new_local" 268 (.ref 79),ke P "__static_attributes__" 274 (.ref 80),ke P "__dict__" 276 (.ref 83),ke P "__weakref__" 278 (.ref 84),ke P "__doc__" 279 (.none)] 4})::
 (nat_lit 82,{cls:=.type "type",data:=.cls {name:=QF "Body",bases:=[.type "object"],mro:=[.ref 82,.type "object"],ns:=81,qualname:=QF "Body"},slots:=#[RM,RM,QG (.str (QF "Body") 196),QG (.str (QF "Body") 204),QG (.builtin "object.__new__"),QG (.bool QO)]})::
 (nat_lit 83,{cls:=.type "getset_descriptor",data:=.fields #[.str (QF "__dict__") 275,.ref 82,.builtin "function.__dict__",.builtin "function.__dict__#set"]})::
 (nat_lit 84,{cls:=.type "getset_descriptor",data:=.fields #[.str (QF "__weakref__") 277,.ref 82,.builtin "ExceptionGroup.__weakref__",.none]})::
 (nat_lit 90,{cls:=.type "code",data:=.fields #[.str (QF "successors") 282,.str (QF "successors") 283,.str (QF "/claim/cut.py") 284,.int 31 0,.int 1 0,.int 0 0,.int 0 0,.int 3 0,.ref 87,.bool QO,.int 181 0,.ref 88,.none,.none,.none,.ref 89,.int 285 0,.int 31 0,.str (QF "/claim/cut.py") 286]})::
 (nat_lit 91,bo (bK 3) "successors" (.none) (.str (QF "lendcore.mir") 194) 90)::
 (nat_lit 95,{cls:=.type "code",data:=.fields #[.str (QF "copied") 288,.str (QF "copied") 289,.str (QF "/claim/cut.py") 290,.int 50 0,.int 1 0,.int 0 0,.int 0 0,.int 3 0,.ref 92,.bool QO,.int 181 0,.ref 93,.none,.none,.none,.ref 94,.int 291 0,.int 50 0,.str (QF "/claim/cut.py") 292]})::
 (nat_lit 96,bo (bK 4) "copied" (.none) (.str (QF "lendcore.mir") 194) 95)::
 (nat_lit 102,{cls:=.type "code",data:=.fields #[.str (QF "operands_of") 294,.str (QF "operands_of") 295,.str (QF "/claim/cut.py") 296,.int 53 0,.int 1 0,.int 0 0,.int 0 0,.int 3 0,.ref 97,.bool QO,.int 181 0,.ref 98,.none,.ref 99,.ref 100,.ref 101,.int 299 0,.int 53 0,.str (QF "/claim/cut.py") 300]})::
 (nat_lit 103,bo (bK 5) "operands_of" (.none) (.str (QF "lendcore.mir") 194) 102)::
 (nat_lit 109,{cls:=.type "code",data:=.fields #[.str (QF "with_operands") 302,.str (QF "with_operands") 303,.str (QF "/claim/cut.py") 304,.int 66 0,.int 2 0,.int 0 0,.int 0 0,.int 3 0,.ref 104,.bool QO,.int 181 0,.ref 105,.none,.ref 106,.ref 107,.ref 108,.int 308 0,.int 66 0,.str (QF "/claim/cut.py") 309]})::
 (nat_lit 110,bo (bK 6) "with_operands" (.none) (.str (QF "lendcore.mir") 194) 109)::
 (nat_lit 111,{cls:=.type "tuple",data:=.seq #[.str (QF "int") 313,.str (QF "bool") 314]})::
 (nat_lit 115,{cls:=.type "code",data:=.fields #[.str (QF "is_plain") 316,.str (QF "is_plain") 317,.str (QF "/claim/cut.py") 318,.int 81 0,.int 1 0,.int 0 0,.int 0 0,.int 3 0,.ref 112,.bool QO,.int 181 0,.ref 113,.none,.none,.none,.ref 114,.int 319 0,.int 81 0,.str (QF "/claim/cut.py") 320]})::
 (nat_lit 116,bo (bK 9) "is_plain" (.none) (.str (QF "lendcore.dead") 311) 115)::
 (nat_lit 120,{cls:=.type "code",data:=.fields #[.str (QF "place_reads") 322,.str (QF "place_reads") 323,.str (QF "/claim/cut.py") 324,.int 85 0,.int 1 0,.int 0 0,.int 0 0,.int 3 0,.ref 117,.bool QO,.int 181 0,.ref 118,.none,.none,.none,.ref 119,.int 325 0,.int 85 0,.str (QF "/claim/cut.py") 326]})::
 (nat_lit 121,bo (bK 10) "place_reads" (.none) (.str (QF "lendcore.dead") 311) 120)::
 (nat_lit 125,{cls:=.type "code",data:=.fields #[.str (QF "whole_reads") 328,.str (QF "whole_reads") 329,.str (QF "/claim/cut.py") 330,.int 88 0,.int 1 0,.int 0 0,.int 0 0,.int 3 0,.ref 122,.bool QO,.int 181 0,.ref 123,.none,.none,.none,.ref 124,.int 331 0,.int 88 0,.str (QF "/claim/cut.py") 332]})::
 (nat_lit 126,bo (bK 11) "whole_reads" (.none) (.str (QF "lendcore.dead") 311) 125)::
 (nat_lit 132,{cls:=.type "code",data:=.fields #[.str (QF "operand_reads") 334,.str (QF "operand_reads") 335,.str (QF "/claim/cut.py") 336,.int 90 0,.int 1 0,.int 0 0,.int 0 0,.int 3 0,.ref 127,.bool QO,.int 181 0,.ref 128,.none,.ref 129,.ref 130,.ref 131,.int 340 0,.int 90 0,.str (QF "/claim/cut.py") 341]})::
 (nat_lit 133,bo (bK 12) "operand_reads" (.none) (.str (QF "lendcore.dead") 311) 132)::
 (nat_lit 139,{cls:=.type "code",data:=.fields #[.str (QF "rvalue_reads") 343,.str (QF "rvalue_reads") 344,.str (QF "/claim/cut.py") 345,.int 96 0,.int 1 0,.int 0 0,.int 0 0,.int 3 0,.ref 134,.bool QO,.int 181 0,.ref 135,.none,.ref 136,.ref 137,.ref 138,.int 347 0,.int 96 0,.str (QF "/claim/cut.py") 348]})::
 (nat_lit 140,bo (bK 13) "rvalue_reads" (.none) (.str (QF "lendcore.dead") 311) 139)::
 (nat_lit 146,{cls:=.type "code",data:=.fields #[.str (QF "terminator_reads") 350,.str (QF "terminator_reads") 351,.str (QF "/claim/cut.py") 352,.int 102 0,.int 1 0,.int 0 0,.int 0 0,.int 3 0,.ref 141,.bool QO,.int 181 0,.ref 142,.none,.ref 143,.ref 144,.ref 145,.int 355 0,.int 102 0,.str (QF "/claim/cut.py") 356]})::
 (nat_lit 147,bo (bK 14) "terminator_reads" (.none) (.str (QF "lendcore.dead") 311) 146)::
 (nat_lit 158,{cls:=.type "code",data:=.fields #[.str (QF "__init__") 370,.str (QF "Uses.__init__") 371,.str (QF "/claim/cut.py") 372,.int 113 0,.int 2 0,.int 0 0,.int 0 0,.int 3 0,.ref 155,.bool QO,.int 181 0,.ref 156,.none,.none,.none,.ref 157,.int 373 0,.int 113 0,.str (QF "/claim/cut.py") 374]})::
 (nat_lit 159,bo (eS 15 0) "Uses.__init__" (.none) (.str (QF "lendcore.dead") 311) 158)::
 (nat_lit 163,{cls:=.type "code",data:=.fields #[.str (QF "may_go") 376,.str (QF "Uses.may_go") 377,.str (QF "/claim/cut.py") 378,.int 122 0,.int 3 0,.int 0 0,.int 0 0,.int 3 0,.ref 160,.bool QO,.int 181 0,.ref 161,.none,.none,.none,.ref 162,.int 379 0,.int 122 0,.str (QF "/claim/cut.py") 380]})::
 (nat_lit 164,bo (eS 15 1) "Uses.may_go" (.none) (.str (QF "lendcore.dead") 311) 163)::
 (nat_lit 168,{cls:=.type "code",data:=.fields #[.str (QF "is_plain_place") 382,.str (QF "Uses.is_plain_place") 383,.str (QF "/claim/cut.py") 384,.int 132 0,.int 2 0,.int 0 0,.int 0 0,.int 3 0,.ref 165,.bool QO,.int 181 0,.ref 166,.none,.none,.none,.ref 167,.int 385 0,.int 132 0,.str (QF "/claim/cut.py") 386]})::
 (nat_lit 169,bo (eS 15 2) "Uses.is_plain_place" (.none) (.str (QF "lendcore.dead") 311) 168)::
 (nat_lit 175,{cls:=.type "code",data:=.fields #[.str (QF "step_back") 388,.str (QF "Uses.step_back") 389,.str (QF "/claim/cut.py") 390,.int 137 0,.int 3 0,.int 0 0,.int 0 0,.int 3 0,.ref 170,.bool QO,.int 181 0,.ref 171,.none,.ref 172,.ref 173,.ref 174,.int 396 0,.int 137 0,.str (QF "/claim/cut.py") 397]})::
 (nat_lit 176,bo (eS 15 3) "Uses.step_back" (.none) (.str (QF "lendcore.dead") 311) 175)::
 (nat_lit 182,{cls:=.type "code",data:=.fields #[.str (QF "at_end") 399,.str (QF "Uses.at_end") 400,.str (QF "/claim/cut.py") 401,.int 147 0,.int 2 0,.int 0 0,.int 0 0,.int 3 0,.ref 177,.bool QO,.int 181 0,.ref 178,.none,.ref 179,.ref 180,.ref 181,.int 407 0,.int 147 0,.str (QF "/claim/cut.py") 408]})::
 (nat_lit 183,bo (eS 15 4) "Uses.at_end" (.none) (.str (QF "lendcore.dead") 311) 182)::
 (nat_lit 189,{cls:=.type "code",data:=.fields #[.str (QF "follow") 410,.str (QF "Uses.follow") 411,.str (QF "/claim/cut.py") 412,.int 156 0,.int 1 0,.int 0 0,.int 0 0,.int 3 0,.ref 184,.bool QO,.int 181 0,.ref 185,.none,.ref 186,.ref 187,.ref 188,.int 418 0,.int 156 0,.str (QF "/claim/cut.py") 419]})::
 (nat_lit 190,bo (eS 15 5) "Uses.follow" (.none) (.str (QF "lendcore.dead") 311) 189)::
 (nat_lit 196,{cls:=.type "code",data:=.fields #[.str (QF "kept") 421,.str (QF "Uses.kept") 422,.str (QF "/claim/cut.py") 423,.int 168 0,.int 2 0,.int 0 0,.int 0 0,.int 3 0,.ref 191,.bool QO,.int 181 0,.ref 192,.none,.ref 193,.ref 194,.ref 195,.int 430 0,.int 168 0,.str (QF "/claim/cut.py") 431]})::
 (nat_lit 197,bo (eS 15 6) "Uses.kept" (.none) (.str (QF "lendcore.dead") 311) 196)::
 (nat_lit 199,{cls:=.type "dict",data:=.dict #[ke P "__module__" 365 (.str (QF "lendcore.dead") 311),ke P "__firstlineno__" 369 (.int 111 368),ke P "__init__" 375 (.ref 159),ke P "may_go" 381 (.ref 164),ke P "is_plain_place" 387 (.ref 169),ke P "step_back" 398 (.ref 176),ke P "at_end" 409 (.ref 183),ke P "follow" 420 (.ref 190),ke P "kept" 432 (.ref 197),ke P "__static_attributes__" 436 (.ref 198),ke P "__dict__" 438 (.ref 201),ke P "__weakref__" 440 (.ref 202),ke P "__doc__" 441 (.none)] 4})::
 (nat_lit 200,{cls:=.type "type",data:=.cls {name:=QF "Uses",bases:=[.type "object"],mro:=[.ref 200,.type "object"],ns:=199,qualname:=QF "Uses"},slots:=#[RM,RM,QG (.str (QF "Uses") 358),QG (.str (QF "Uses") 366),QG (.builtin "object.__new__"),QG (.bool QO)]})::
 (nat_lit 201,{cls:=.type "getset_descriptor",data:=.fields #[.str (QF "__dict__") 437,.ref 200,.builtin "function.__dict__",.builtin "function.__dict__#set"]})::
 (nat_lit 202,{cls:=.type "getset_descriptor",data:=.fields #[.str (QF "__weakref__") 439,.ref 200,.builtin "ExceptionGroup.__weakref__",.none]})::
 (nat_lit 208,{cls:=.type "code",data:=.fields #[.str (QF "named_locals") 444,.str (QF "named_locals") 445,.str (QF "/claim/cut.py") 446,.int 176 0,.int 1 0,.int 0 0,.int 0 0,.int 3 0,.ref 205,.bool QO,.int 181 0,.ref 206,.none,.none,.none,.ref 207,.int 447 0,.int 176 0,.str (QF "/claim/cut.py") 448]})::
 (nat_lit 209,bo (bK 16) "named_locals" (.none) (.str (QF "lendcore.dead") 311) 208)::
 (nat_lit 213,{cls:=.type "code",data:=.fields #[.str (QF "put_places") 450,.str (QF "put_places") 451,.str (QF "/claim/cut.py") 452,.int 190 0,.int 2 0,.int 0 0,.int 0 0,.int 3 0,.ref 210,.bool QO,.int 181 0,.ref 211,.none,.none,.none,.ref 212,.int 453 0,.int 190 0,.str (QF "/claim/cut.py") 454]})::
 (nat_lit 214,bo (bK 17) "put_places" (.none) (.str (QF "lendcore.dead") 311) 213)::
 (nat_lit 218,{cls:=.type "code",data:=.fields #[.str (QF "without_dead") 456,.str (QF "without_dead") 457,.str (QF "/claim/cut.py") 458,.int 200 0,.int 1 0,.int 0 0,.int 0 0,.int 3 0,.ref 215,.bool QO,.int 181 0,.ref 216,.none,.none,.none,.ref 217,.int 459 0,.int 200 0,.str (QF "/claim/cut.py") 460]})::
 (nat_lit 219,bo (bK 18) "without_dead" (.none) (.str (QF "lendcore.dead") 311) 218)::
 (nat_lit 225,{cls:=.type "code",data:=.fields #[.str (QF "is_idle") 462,.str (QF "is_idle") 463,.str (QF "/claim/cut.py") 464,.int 208 0,.int 2 0,.int 0 0,.int 0 0,.int 3 0,.ref 220,.bool QO,.int 181 0,.ref 221,.none,.ref 222,.ref 223,.ref 224,.int 467 0,.int 208 0,.str (QF "/claim/cut.py") 468]})::
 (nat_lit 226,bo (bK 19) "is_idle" (.none) (.str (QF "lendcore.dead") 311) 225)::
 (nat_lit 227,{cls:=.type "tuple",data:=.seq #[.str (QF "int") 472,.str (QF "bool") 473]})::
 (nat_lit 233,{cls:=.type "code",data:=.fields #[.str (QF "lent_or_other") 475,.str (QF "lent_or_other") 476,.str (QF "/claim/cut.py") 477,.int 212 0,.int 1 0,.int 0 0,.int 0 0,.int 3 0,.ref 228,.bool QO,.int 181 0,.ref 229,.none,.ref 230,.ref 231,.ref 232,.int 484 0,.int 212 0,.str (QF "/claim/cut.py") 485]})::
 (nat_lit 234,bo (bK 22) "lent_or_other" (.none) (.str (QF "lendcore.copies") 470) 233)::
 (nat_lit 240,{cls:=.type "code",data:=.fields #[.str (QF "read_operand") 487,.str (QF "read_operand") 488,.str (QF "/claim/cut.py") 489,.int 222 0,.int 2 0,.int 0 0,.int 0 0,.int 3 0,.ref 235,.bool QO,.int 181 0,.ref 236,.none,.ref 237,.ref 238,.ref 239,.int 492 0,.int 222 0,.str (QF "/claim/cut.py") 493]})::
 (nat_lit 241,bo (bK 23) "read_operand" (.none) (.str (QF "lendcore.copies") 470) 240)::
 (nat_lit 245,{cls:=.type "code",data:=.fields #[.str (QF "read_operands") 495,.str (QF "read_operands") 496,.str (QF "/claim/cut.py") 497,.int 226 0,.int 2 0,.int 0 0,.int 0 0,.int 3 0,.ref 242,.bool QO,.int 181 0,.ref 243,.none,.none,.none,.ref 244,.int 498 0,.int 226 0,.str (QF "/claim/cut.py") 499]})::
 (nat_lit 246,bo (bK 24) "read_operands" (.none) (.str (QF "lendcore.copies") 470) 245)::
 (nat_lit 252,{cls:=.type "code",data:=.fields #[.str (QF "read_rvalue") 501,.str (QF "read_rvalue") 502,.str (QF "/claim/cut.py") 503,.int 228 0,.int 2 0,.int 0 0,.int 0 0,.int 3 0,.ref 247,.bool QO,.int 181 0,.ref 248,.none,.ref 249,.ref 250,.ref 251,.int 506 0,.int 228 0,.str (QF "/claim/cut.py") 507]})::
 (nat_lit 253,bo (bK 25) "read_rvalue" (.none) (.str (QF "lendcore.copies") 470) 252)::
 (nat_lit 259,{cls:=.type "code",data:=.fields #[.str (QF "read_statement") 509,.str (QF "read_statement") 510,.str (QF "/claim/cut.py") 511,.int 230 0,.int 2 0,.int 0 0,.int 0 0,.int 3 0,.ref 254,.bool QO,.int 181 0,.ref 255,.none,.ref 256,.ref 257,.ref 258,.int 514 0,.int 230 0,.str (QF "/claim/cut.py") 515]})::
 (nat_lit 260,bo (bK 26) "read_statement" (.none) (.str (QF "lendcore.copies") 470) 259)::
 (nat_lit 266,{cls:=.type "code",data:=.fields #[.str (QF "read_terminator") 517,.str (QF "read_terminator") 518,.str (QF "/claim/cut.py") 519,.int 236 0,.int 2 0,.int 0 0,.int 0 0,.int 3 0,.ref 261,.bool QO,.int 181 0,.ref 262,.none,.ref 263,.ref 264,.ref 265,.int 522 0,.int 236 0,.str (QF "/claim/cut.py") 523]})::
 (nat_lit 267,bo (bK 27) "read_terminator" (.none) (.str (QF "lendcore.copies") 470) 266)::
 (nat_lit 271,{cls:=.type "code",data:=.fields #[.str (QF "forget") 525,.str (QF "forget") 526,.str (QF "/claim/cut.py") 527,.int 242 0,.int 2 0,.int 0 0,.int 0 0,.int 3 0,.ref 268,.bool QO,.int 181 0,.ref 269,.none,.none,.none,.ref 270,.int 528 0,.int 242 0,.str (QF "/claim/cut.py") 529]})::
 (nat_lit 272,bo (bK 28) "forget" (.none) (.str (QF "lendcore.copies") 470) 271)::
 (nat_lit 278,{cls:=.type "code",data:=.fields #[.str (QF "forget_moved") 531,.str (QF "forget_moved") 532,.str (QF "/claim/cut.py") 533,.int 246 0,.int 2 0,.int 0 0,.int 0 0,.int 3 0,.ref 273,.bool QO,.int 181 0,.ref 274,.none,.ref 275,.ref 276,.ref 277,.int 537 0,.int 246 0,.str (QF "/claim/cut.py") 538]})::
 (nat_lit 279,bo (bK 29) "forget_moved" (.none) (.str (QF "lendcore.copies") 470) 278)::
 (nat_lit 292,{cls:=.type "code",data:=.fields #[.str (QF "__init__") 552,.str (QF "Copies.__init__") 553,.str (QF "/claim/cut.py") 554,.int 252 0,.int 2 0,.int 0 0,.int 0 0,.int 3 0,.ref 287,.bool QO,.int 181 0,.ref 288,.none,.ref 289,.ref 290,.ref 291,.int 557 0,.int 252 0,.str (QF "/claim/cut.py") 558]})::
 (nat_lit 293,bo (eS 30 0) "Copies.__init__" (.none) (.str (QF "lendcore.copies") 470) 292)::
 (nat_lit 299,{cls:=.type "code",data:=.fields #[.str (QF "step") 560,.str (QF "Copies.step") 561,.str (QF "/claim/cut.py") 562,.int 257 0,.int 3 0,.int 0 0,.int 0 0,.int 3 0,.ref 294,.bool QO,.int 181 0,.ref 295,.none,.ref 296,.ref 297,.ref 298,.int 569 0,.int 257 0,.str (QF "/claim/cut.py") 570]})::
 (nat_lit 300,bo (eS 30 1) "Copies.step" (.none) (.str (QF "lendcore.copies") 470) 299)::
 (nat_lit 306,{cls:=.type "code",data:=.fields #[.str (QF "behind") 572,.str (QF "Copies.behind") 573,.str (QF "/claim/cut.py") 574,.int 274 0,.int 2 0,.int 0 0,.int 0 0,.int 3 0,.ref 301,.bool QO,.int 181 0,.ref 302,.none,.ref 303,.ref 304,.ref 305,.int 581 0,.int 274 0,.str (QF "/claim/cut.py") 582]})::
 (nat_lit 307,bo (eS 30 2) "Copies.behind" (.none) (.str (QF "lendcore.copies") 470) 306)::
 (nat_lit 311,{cls:=.type "code",data:=.fields #[.str (QF "meet") 584,.str (QF "Copies.meet") 585,.str (QF "/claim/cut.py") 586,.int 286 0,.int 3 0,.int 0 0,.int 0 0,.int 3 0,.ref 308,.bool QO,.int 181 0,.ref 309,.none,.none,.none,.ref 310,.int 587 0,.int 286 0,.str (QF "/claim/cut.py") 588]})::
 (nat_lit 312,bo (eS 30 3) "Copies.meet" (.none) (.str (QF "lendcore.copies") 470) 311)::
 (nat_lit 318,{cls:=.type "code",data:=.fields #[.str (QF "follow") 590,.str (QF "Copies.follow") 591,.str (QF "/claim/cut.py") 592,.int 295 0,.int 1 0,.int 0 0,.int 0 0,.int 3 0,.ref 313,.bool QO,.int 181 0,.ref 314,.none,.ref 315,.ref 316,.ref 317,.int 598 0,.int 295 0,.str (QF "/claim/cut.py") 599]})::
 (nat_lit 319,bo (eS 30 4) "Copies.follow" (.none) (.str (QF "lendcore.copies") 470) 318)::
 (nat_lit 321,{cls:=.type "dict",data:=.dict #[ke P "__module__" 547 (.str (QF "lendcore.copies") 470),ke P "__firstlineno__" 551 (.int 250 550),ke P "__init__" 559 (.ref 293),ke P "step" 571 (.ref 300),ke P "behind" 583 (.ref 307),ke P "meet" 589 (.ref 312),ke P "follow" 600 (.ref 319),ke P "__static_attributes__" 604 (.ref 320),ke P "__dict__" 606 (.ref 323),ke P "__weakref__" 608 (.ref 324),ke P "__doc__" 609 (.none)] 4})::
 (nat_lit 322,{cls:=.type "type",data:=.cls {name:=QF "Copies",bases:=[.type "object"],mro:=[.ref 322,.type "object"],ns:=321,qualname:=QF "Copies"},slots:=#[RM,RM,QG (.str (QF "Copies") 540),QG (.str (QF "Copies") 548),QG (.builtin "object.__new__"),QG (.bool QO)]})::
 (nat_lit 323,{cls:=.type "getset_descriptor",data:=.fields #[.str (QF "__dict__") 605,.ref 322,.builtin "function.__dict__",.builtin "function.__dict__#set"]})::
 (nat_lit 324,{cls:=.type "getset_descriptor",data:=.fields #[.str (QF "__weakref__") 607,.ref 322,.builtin "ExceptionGroup.__weakref__",.none]})::
 (nat_lit 332,{cls:=.type "code",data:=.fields #[.str (QF "without_copies") 612,.str (QF "without_copies") 613,.str (QF "/claim/cut.py") 614,.int 303 0,.int 1 0,.int 0 0,.int 0 0,.int 3 0,.ref 327,.bool QO,.int 181 0,.ref 328,.none,.ref 329,.ref 330,.ref 331,.int 624 0,.int 303 0,.str (QF "/claim/cut.py") 625]})::
 (nat_lit 333,bo (bK 31) "without_copies" (.none) (.str (QF "lendcore.copies") 470) 332)::
 (nat_lit 339,{cls:=.type "code",data:=.fields #[.str (QF "_law_pool") 629,.str (QF "_law_pool") 630,.str (QF "/claim/cut.py") 631,.int 316 0,.int 2 0,.int 0 0,.int 0 0,.int 3 0,.ref 334,.bool QO,.int 181 0,.ref 335,.none,.ref 336,.ref 337,.ref 338,.int 637 0,.int 316 0,.str (QF "/claim/cut.py") 638]})::
 (nat_lit 340,bo (bK 33) "_law_pool" (.none) (.str (QF "law_nz0128_01") 627) 339)::
 (nat_lit 346,{cls:=.type "code",data:=.fields #[.str (QF "_law_take") 640,.str (QF "_law_take") 641,.str (QF "/claim/cut.py") 642,.int 321 0,.int 2 0,.int 0 0,.int 0 0,.int 3 0,.ref 341,.bool QO,.int 181 0,.ref 342,.none,.ref 343,.ref 344,.ref 345,.int 646 0,.int 321 0,.str (QF "/claim/cut.py") 647]})::
 (nat_lit 347,bo (bK 34) "_law_take" (.none) (.str (QF "law_nz0128_01") 627) 346)::
 (nat_lit 353,{cls:=.type "code",data:=.fields #[.str (QF "_law_one") 649,.str (QF "_law_one") 650,.str (QF "/claim/cut.py") 651,.int 330 0,.int 2 0,.int 0 0,.int 0 0,.int 3 0,.ref 348,.bool QO,.int 181 0,.ref 349,.none,.ref 350,.ref 351,.ref 352,.int 654 0,.int 330 0,.str (QF "/claim/cut.py") 655]})::
 (nat_lit 354,bo (bK 35) "_law_one" (.none) (.str (QF "law_nz0128_01") 627) 353)::
 (nat_lit 358,{cls:=.type "code",data:=.fields #[.str (QF "_law_body") 657,.str (QF "_law_body") 658,.str (QF "/claim/cut.py") 659,.int 332 0,.int 2 0,.int 0 0,.int 0 0,.int 3 0,.ref 355,.bool QO,.int 181 0,.ref 356,.none,.none,.none,.ref 357,.int 660 0,.int 332 0,.str (QF "/claim/cut.py") 661]})::
 (nat_lit 359,bo (bK 36) "_law_body" (.none) (.str (QF "law_nz0128_01") 627) 358)::
 (nat_lit 365,{cls:=.type "code",data:=.fields #[.str (QF "_law_begun") 663,.str (QF "_law_begun") 664,.str (QF "/claim/cut.py") 665,.int 343 0,.int 2 0,.int 0 0,.int 0 0,.int 3 0,.ref 360,.bool QO,.int 181 0,.ref 361,.none,.ref 362,.ref 363,.ref 364,.int 673 0,.int 343 0,.str (QF "/claim/cut.py") 674]})::
 (nat_lit 366,bo (bK 37) "_law_begun" (.none) (.str (QF "law_nz0128_01") 627) 365)::
 (nat_lit 372,{cls:=.type "code",data:=.fields #[.str (QF "_law_operand") 676,.str (QF "_law_operand") 677,.str (QF "/claim/cut.py") 678,.int 351 0,.int 3 0,.int 0 0,.int 0 0,.int 3 0,.ref 367,.bool QO,.int 181 0,.ref 368,.none,.ref 369,.ref 370,.ref 371,.int 684 0,.int 351 0,.str (QF "/claim/cut.py") 685]})::
 (nat_lit 373,bo (bK 38) "_law_operand" (.none) (.str (QF "law_nz0128_01") 627) 372)::
 (nat_lit 379,{cls:=.type "code",data:=.fields #[.str (QF "_law_truth") 687,.str (QF "_law_truth") 688,.str (QF "/claim/cut.py") 689,.int 361 0,.int 2 0,.int 0 0,.int 0 0,.int 3 0,.ref 374,.bool QO,.int 181 0,.ref 375,.none,.ref 376,.ref 377,.ref 378,.int 694 0,.int 361 0,.str (QF "/claim/cut.py") 695]})::
 (nat_lit 380,bo (bK 39) "_law_truth" (.none) (.str (QF "law_nz0128_01") 627) 379)::
 (nat_lit 386,{cls:=.type "code",data:=.fields #[.str (QF "_law_statement") 697,.str (QF "_law_statement") 698,.str (QF "/claim/cut.py") 699,.int 365 0,.int 2 0,.int 0 0,.int 0 0,.int 3 0,.ref 381,.bool QO,.int 181 0,.ref 382,.none,.ref 383,.ref 384,.ref 385,.int 709 0,.int 365 0,.str (QF "/claim/cut.py") 710]})::
 (nat_lit 387,bo (bK 40) "_law_statement" (.none) (.str (QF "law_nz0128_01") 627) 386)::
 (nat_lit 393,{cls:=.type "code",data:=.fields #[.str (QF "_law_end") 712,.str (QF "_law_end") 713,.str (QF "/claim/cut.py") 714,.int 385 0,.int 4 0,.int 0 0,.int 0 0,.int 3 0,.ref 388,.bool QO,.int 181 0,.ref 389,.none,.ref 390,.ref 391,.ref 392,.int 723 0,.int 385 0,.str (QF "/claim/cut.py") 724]})::
 (nat_lit 394,bo (bK 41) "_law_end" (.none) (.str (QF "law_nz0128_01") 627) 393)::
 (nat_lit 400,{cls:=.type "code",data:=.fields #[.str (QF "_law_read") 726,.str (QF "_law_read") 727,.str (QF "/claim/cut.py") 728,.int 397 0,.int 2 0,.int 0 0,.int 0 0,.int 3 0,.ref 395,.bool QO,.int 181 0,.ref 396,.none,.ref 397,.ref 398,.ref 399,.int 733 0,.int 397 0,.str (QF "/claim/cut.py") 734]})::
 (nat_lit 401,bo (bK 42) "_law_read" (.none) (.str (QF "law_nz0128_01") 627) 400)::
 (nat_lit 407,{cls:=.type "code",data:=.fields #[.str (QF "_law_worked") 736,.str (QF "_law_worked") 737,.str (QF "/claim/cut.py") 738,.int 404 0,.int 3 0,.int 0 0,.int 0 0,.int 3 0,.ref 402,.bool QO,.int 181 0,.ref 403,.none,.ref 404,.ref 405,.ref 406,.int 744 0,.int 404 0,.str (QF "/claim/cut.py") 745]})::
 (nat_lit 408,bo (bK 43) "_law_worked" (.none) (.str (QF "law_nz0128_01") 627) 407)::
 (nat_lit 412,{cls:=.type "code",data:=.fields #[.str (QF "_law_made") 747,.str (QF "_law_made") 748,.str (QF "/claim/cut.py") 749,.int 410 0,.int 2 0,.int 0 0,.int 0 0,.int 3 0,.ref 409,.bool QO,.int 181 0,.ref 410,.none,.none,.none,.ref 411,.int 750 0,.int 410 0,.str (QF "/claim/cut.py") 751]})::
 (nat_lit 413,bo (bK 44) "_law_made" (.none) (.str (QF "law_nz0128_01") 627) 412)::
 (nat_lit 417,{cls:=.type "code",data:=.fields #[.str (QF "_law_run") 753,.str (QF "_law_run") 754,.str (QF "/claim/cut.py") 755,.int 425 0,.int 2 0,.int 0 0,.int 0 0,.int 3 0,.ref 414,.bool QO,.int 181 0,.ref 415,.none,.none,.none,.ref 416,.int 756 0,.int 425 0,.str (QF "/claim/cut.py") 757]})::
 (nat_lit 418,bo (bK 45) "_law_run" (.none) (.str (QF "law_nz0128_01") 627) 417)::
 (nat_lit 422,{cls:=.type "code",data:=.fields #[.str (QF "_law_next") 759,.str (QF "_law_next") 760,.str (QF "/claim/cut.py") 761,.int 440 0,.int 2 0,.int 0 0,.int 0 0,.int 3 0,.ref 419,.bool QO,.int 181 0,.ref 420,.none,.none,.none,.ref 421,.int 762 0,.int 440 0,.str (QF "/claim/cut.py") 763]})::
 (nat_lit 423,bo (bK 46) "_law_next" (.none) (.str (QF "law_nz0128_01") 627) 422)::
 (nat_lit 429,{cls:=.type "code",data:=.fields #[.str (QF "_law_read_in") 765,.str (QF "_law_read_in") 766,.str (QF "/claim/cut.py") 767,.int 448 0,.int 1 0,.int 0 0,.int 0 0,.int 3 0,.ref 424,.bool QO,.int 181 0,.ref 425,.none,.ref 426,.ref 427,.ref 428,.int 771 0,.int 448 0,.str (QF "/claim/cut.py") 772]})::
 (nat_lit 430,bo (bK 47) "_law_read_in" (.none) (.str (QF "law_nz0128_01") 627) 429)::
 (nat_lit 434,{cls:=.type "code",data:=.fields #[.str (QF "_law_goals") 774,.str (QF "_law_goals") 775,.str (QF "/claim/cut.py") 776,.int 456 0,.int 1 0,.int 0 0,.int 0 0,.int 3 0,.ref 431,.bool QO,.int 181 0,.ref 432,.none,.none,.none,.ref 433,.int 777 0,.int 456 0,.str (QF "/claim/cut.py") 778]})::
 (nat_lit 435,bo (bK 48) "_law_goals" (.none) (.str (QF "law_nz0128_01") 627) 434)::
 (nat_lit 439,{cls:=.type "code",data:=.fields #[.str (QF "_law_is_read") 780,.str (QF "_law_is_read") 781,.str (QF "/claim/cut.py") 782,.int 462 0,.int 4 0,.int 0 0,.int 0 0,.int 3 0,.ref 436,.bool QO,.int 181 0,.ref 437,.none,.none,.none,.ref 438,.int 783 0,.int 462 0,.str (QF "/claim/cut.py") 784]})::
 (nat_lit 440,bo (bK 49) "_law_is_read" (.none) (.str (QF "law_nz0128_01") 627) 439)::
 (nat_lit 444,{cls:=.type "code",data:=.fields #[.str (QF "_law_left") 786,.str (QF "_law_left") 787,.str (QF "/claim/cut.py") 788,.int 473 0,.int 1 0,.int 0 0,.int 0 0,.int 3 0,.ref 441,.bool QO,.int 181 0,.ref 442,.none,.none,.none,.ref 443,.int 789 0,.int 473 0,.str (QF "/claim/cut.py") 790]})::
 (nat_lit 445,bo (bK 50) "_law_left" (.none) (.str (QF "law_nz0128_01") 627) 444)::
 (nat_lit 451,{cls:=.type "code",data:=.fields #[.str (QF "_law_changed_right") 792,.str (QF "_law_changed_right") 793,.str (QF "/claim/cut.py") 794,.int 486 0,.int 0 0,.int 0 0,.int 0 0,.int 3 0,.ref 446,.bool QO,.int 181 0,.ref 447,.none,.ref 448,.ref 449,.ref 450,.int 802 0,.int 486 0,.str (QF "/claim/cut.py") 803]})::
 (nat_lit 452,bo (bK 51) "_law_changed_right" (.none) (.str (QF "law_nz0128_01") 627) 451)::
 (nat_lit 456,{cls:=.type "code",data:=.fields #[.str (QF "law") 805,.str (QF "law") 806,.str (QF "/claim/cut.py") 807,.int 495 0,.int 1 0,.int 0 0,.int 0 0,.int 3 0,.ref 453,.bool QO,.int 181 0,.ref 454,.none,.none,.none,.ref 455,.int 808 0,.int 495 0,.str (QF "/claim/cut.py") 809]})::
 (nat_lit 457,bo (bK 52) "law" (.none) (.str (QF "law_nz0128_01") 627) 456)::[]
noncomputable def uz:QI Nat:=[2,3,29,35,36,56,57,63,64,70,71,81,82,83,84,90,91,95,96,102,103,109,110,111,115,116,120,121,125,126,132,133,139,140,146,147,158,159,163,164,168,169,175,176,182,183,189,190,196,197,199,200,201,202,208,209,213,214,218,219,225,226,227,233,234,240,241,245,246,252,253,259,260,266,267,271,272,278,279,292,293,299,300,306,307,311,312,318,319,321,322,323,324,332,333,339,340,346,347,353,354,358,359,365,366,372,373,379,380,386,387,393,394,400,401,407,408,412,413,417,418,422,423,429,430,434,435,439,440,444,445,451,452,456,457]
theorem Bb(P:SE):uz=(aK P).map (·.1):=by kernel_rfl
noncomputable def hk:Hook:=kHook aK uz Bb
noncomputable def sT(s:QZ):Bool:=xlAt qv [] s&&recOk (RowW.records PySem.Challenge.rw_nz0128_01.row.toRowW) s
theorem GK{p q:RP}{loose:QI Ux}{Xt:QZ→RG}{α:Type}{Yf:QZ→α}{Ya:Sn→α}{N:QN}{f:RG}{H:SE→RI}{S:Sn→Vw→QZ}{g:TS qdd}{a:Drawn}{b:QN}{m:QN}{c:Rz QU}{M:QN}
  (n:∀w:Sn,(fencedOpening We p w N).map (λs=>(s.heap,s.gens,s.drawn,s.toks))=QG (H w.params,g,a,b))
  (z:∀w:Sn,((H w.params).isNs Un&&g.size==0,(H w.params).objs.size,(H w.params).nsMap Un "__annotations__")=(QO,m,c))
  (u:∀(w:Sn) (os:Vw),topRun We p w m c M ⟨H w.params,g,a,b,os⟩ (topStub p)=QG (S w os)) (le:Um M N=QO)
  (Z:∀(w:Sn) (os:Vw),(staticsOk (WY p.main.body) (H w.params) (S w os).heap&&qdM p (S w os).heap&&gensDone (S w os)&&laidKept (H w.params) (S w os).heap)=QO)
  (j:∀(w:Sn) (os:Vw),openSeen q loose (WY p.main.body) Xt f (S w os)=openGood q loose) (l:∀(w:Sn) (os:Vw),Yf (S w os)=Ya w):LeftO p q loose Xt Yf Ya N f:=λw=>by
 obtain⟨⟨h,i,d,k,os⟩,e,o⟩:=qaS.mp (n w);obtain⟨rfl,rfl,rfl,rfl⟩:h=H w.params∧i=g∧d=a∧k=b:=by simpa using o
 obtain⟨v,x,y⟩:_∧_∧_:=by simpa only[Prod.mk.injEq] using z w
 have r:=topRun_mono (N-M) _ _ _ _ (u w os);rw[show M+(N-M)=N from Uq (qby le)] at r
 have t:topFrom We p w N ⟨H w.params,i,d,k,os⟩=QG (S w os):=by
  unfold topFrom;dsimp only;rw[v,x,y,r];show(match staticsOk (WY p.main.body) (H w.params) (S w os).heap&&qdM p (S w os).heap&&gensDone (S w os)&&laidKept (H w.params) (S w os).heap with|true=>_|false=>_)=_;rw[Z w os]
 unfold openEnds;rw[e];show(topFrom We p w N _).map _=_;rw[t];exact RH QG (Yy (j w os) (l w os))
theorem GZ(w:Sn)(os:Vw):(staticsOk (WY pq.main.body) (Yv w.params) (iS w os).abs.heap&&qdM pq (iS w os).abs.heap&&gensDone (iS w os).abs&&laidKept (Yv w.params) (iS w os).abs.heap)=true:=by
 rw[qas];kernel_rfl
theorem Hm(w:Sn)(os:Vw):openSeen qv [] (WY pq.main.body) sT QO (iS w os).abs=openGood qv []:=by
 rw[Fast.te4187177175401517315,qas];kernel_rfl
theorem Hn(w:Sn)(os:Vw):hk.obs (iS w os).abs=hk.val w:=by kernel_rfl
theorem GH:LeftO pq qv [] sT hk.obs hk.val 5244:=
 GK (boot_open JB (by decide) DR) CV Kw (by decide) GZ Hm Hn
noncomputable def sU:QI Stmt:=match bK 52 with
 |some (.FunctionDef Z U (Y::b) O a c d e f g)=>b
 |_=>[]
noncomputable def iF:DefRec:=
  { name := QF "law"
    params := { posonlyargs := [], args := [{ arg := QF "script", annotation := RM, pos := { line := 495, col := 8, endLine := 495, endCol := 14 } }], vararg := RM, kwonlyargs := [], kw_defaults := [], kwarg := RM, defaults := [] }
    body := Stmt.Assign [qaY (QF "source") { line := 496, col := 4, endLine := 496, endCol := 10 }]
            ((qaY (QF "_law_pool") { line := 496, col := 13, endLine := 496, endCol := 22 }).Call
              [qaY (QF "script") { line := 496, col := 23, endLine := 496, endCol := 29 }, Expr.List [] { line := 496, col := 31, endLine := 496, endCol := 33 }]
              [] { line := 496, col := 13, endLine := 496, endCol := 34 })
            { line := 496, col := 4, endLine := 496, endCol := 34 } :: sU
    scope := { kind := ScopeKind.function, isGenerator := QR, isCoroutine := QR
               names := [(QF "script", NameKind.local), (QF "source", VG), (QF "arguments", NameKind.local), (QF "body", VG), (QF "some", NameKind.local), (QF "turn", NameKind.local),
                 (QF "told", VG), (QF "_law_pool", TG), (QF "_law_take", TG), (QF "_law_body", TG), (QF "without_copies", TG),
                 (QF "without_dead", TG), (QF "range", TG), (QF "_law_left", TG), (QF "_law_changed_right", TG)]
               more := ["script", "source", "arguments", "body", "some", "turn", "local", "told", "one", "statements", "terminator"].map λ x => (QF "fast", Const.str (QF x)) }
    pos := { line := 495, col := 0, endLine := 506, endCol := 31 } }
abbrev iR:OpenRow:=PySem.Challenge.rw_nz0128_01.row
theorem Gy:defOf qv iR.name=QG (iF,[]):=by kernel_rfl
theorem GC:iR.prog.theDef iR.name=QG (iF.params,iF.body,iF.scope):=by rw[Fast.te10235530238920679567];kernel_rfl
theorem GA:(chainsOk qv&&opensWell iR.prog&&(frees iR.toRowW&&iR.within.isEmpty))=true:=by kernel_rfl
theorem GB:iR.prog.tablesWhole=true:=by kernel_rfl
theorem GD:iR.toRowW.promised:=⟨[WData.list []],by decide+kernel,by decide+kernel⟩
theorem FO(l:WalkO qv [] (XL qv []) hk.says iR.toRowW iF [] λf vs=>Ur f vs):PySem.Challenge.rw_nz0128_01.Holds:=
 holds_law KS λi=>holds_open (q:=qv) (loose:=[]) (Xt:=sT) (XP:=XL qv []) (Yf:=hk.obs) (Ya:=hk.val) (YP:=hk.says) (d:=iF) (kwd:=[]) (N:=5244)
  GH hk.of hk.keeps (λs e=>xl_of s (Sv.mp e).1) XL.keeps Gy GC QJ (λs e=>recFacts_of (Sv.mp e).2) QJ i GA ⟨QJ,QJ,QJ,QJ,QJ,GB⟩ GD l
end Mine
end
section
set_option genSizeOf false
set_option genSizeOfSpec false
set_option compiler.extract_closed false
namespace Mine
inductive GV where
 |A (a:QN)|B (a:QN)
 |D|M|C|F|N|K|I|L|H|J|G
inductive PV where
 |G
 |D (b:RG)
 |A (i:RW)
 |C (c:QN)
 |F (l:QI PV)
 |H (m:QN)
 |I (a b c:RW)
 |B (n:QN)
 |J (g:GV)
inductive AO where
 |A (l:QI PV)
 |B (l:QI (RW×PV))
 |D (l:QI (QN×PV))
 |C (c:QN) (f:QI (QN×PV))
set_option genInjectivity false
inductive aF where
 |A|B|F|G|C|H|D|I
inductive aj where
 |A|C|G|J|H|K|F|I|B|D
inductive aO where
 |B|D|C|A
set_option genCtorIdx false
inductive PE where
 |B (v:PV)
 |A (n:QN)
 |D (n:QN)
 |qb (n:QN)
 |J (op:aF) (a b:PE)
 |W (a:PE)
 |T (a:PE)
 |M (a b:PE)
 |Q (a b:PE)
 |H (op:aj) (a b:PE)
 |qc (o₁ o₂:aj) (a b c:PE)
 |P (c a b:PE)
 |I (es:QI PE)
 |G (es:QI PE)
 |X
 |qd (ks:QI QN) (es:QI PE)
 |qf (k:RW) (e:PE)
 |N (ts:QI QN) (it:PE) (c:PE) (e:PE)
 |V (ts:QI QN) (en:RG) (it:PE) (c:PE) (k v:PE)
 |F (f:PE) (args:QI PE)
 |R (o:PE) (name:QN) (args:QI PE)
 |L (o:PE) (m:aO) (args:QI PE)
 |K (o:PE) (name:QN)
 |C (o i:PE)
 |S (o lo hi:PE)
 |qe (o:PE)
inductive PT where
 |A (n:QN)
 |B (ns:QI QN)
 |D (o:PE) (a:QN)
 |C (o i:PE)
inductive PS where
 |B (e:PE)
 |A (t:PT) (e:PE)
 |C (c:PE) (a b:QI PS)
 |G (c:PE) (b:QI PS)
 |D (ts:QI QN) (en:RG) (it:PE) (b:QI PS)
 |F (e:PE)
structure PF where
 Qt:QI QN
 Qv:QI PV
 Qu:QI PS
theorem nA{a b:AO}{P:Prop}(h:QG a=QG b)(k:SW a.ctorIdx b.ctorIdx=QR):P:=Ro (QS h▸QJ:a.ctorIdx=b.ctorIdx) (SV k)
end Mine
end
section
namespace Mine
noncomputable def tF:QI String:=["append","extend","pop","get","!","&","*","+","-","<","=",">","^","a","b","f","g","t","x","y","|","!=","<=","==",">=","at","op","u8","adt","bit","box","end","int","len","nop","one","ref","top","use","way","Body","Uses","anew","body","bool","byte","call","cast","copy","dead","dict","done","drop","goal","goto","here","kept","kind","left","lent","list","live","made","many","meet","more","move","name","part","read","rows","self","some","spot","step","told","turn","uses","word","array","block","const","drawn","field","first","found","index","known","later","local","named","other","panic","parts","place","print","range","spots","truth","tuple","unary","value","whole","Copies","assert","assign","at_end","begins","behind","binary","blocks","copied","copies","follow","forget","locals","may_go","number","places","prints","return","rvalue","script","sorted","source","switch","things","values","changed","checked","is_idle","is_open","is_read","numbers","operand","_law_end","_law_one","_law_run","is_plain","operands","_law_body","_law_left","_law_made","_law_next","_law_pool","_law_read","_law_take","arg_count","arguments","enumerate","frozenset","goes over","statement","step_back","PLAIN_dead","_law_begun","_law_goals","_law_truth","isinstance","projection","put_places","statements","successors","terminator","_law_worked","locals_told","operands_of","place_reads","read_rvalue","whole_reads","PLAIN_copies","_law_is_read","_law_operand","_law_read_in","discriminant","forget_moved","named_locals","read_operand","rvalue_reads","without_dead","lent_or_other","operand_reads","read_operands","with_operands","_law_statement","is_plain_place","read_statement","without_copies","read_terminator","terminator_reads","_law_changed_right"]
noncomputable def iT:QI Nat:=[388610526637668,393042999996004,24145776,23553396,289,294,298,299,301,316,317,318,350,353,354,358,359,372,376,377,380,74045,80957,81213,81469,90484,94064,95544,23159924,23226740,23228280,23424612,23686772,23881070,24014704,24079973,24274278,24407920,24474469,24600953,5409563769,5728593267,5929592183,5946434681,5946437484,5947094117,5962296428,5962298228,5963214969,5979332964,5979595636,5979991653,5980188528,6030319980,6030324847,6046446181,6096777332,6097038948,6113551988,6113554036,6113817460,6113818213,6130066533,6130069113,6130328948,6130987621,6130988645,6146846053,6180401780,6214213988,6214874995,6230994022,6231649637,6231715700,6231975280,6248426596,6248821358,6265464179,6298759780,1518043554169,1522237662059,1526582899572,1530927347566,1539366546532,1539367400308,1539468258916,1552335267192,1560925927278,1565003113842,1565236879724,1573592589668,1578205996402,1582182590819,1582182855795,1582366286693,1582467477108,1590772524901,1595319219315,1599648134248,1599698136165,1603874681465,1607952266597,1612364868709,355620883096947,388623461872244,388623462131566,388627421294180,389662642892403,389662659669604,389679939678841,389692841487219,390805255185764,390805255185779,394103723159415,394103823492468,400700641209459,401740392261487,402925602104690,405085769393523,405111674139763,407255047828078,407327742915941,408345935179892,408397475505508,408397525705573,408431684248424,409466770974579,411635780248947,100038384405669220,100038401401251172,101739320219823205,101739320321271150,101739320370880868,103148954138800755,103424897465806436,25322721970126941796,25322721970127597157,25322721970127795566,26045266006473009518,26476773751246447731,6482616824352446833785,6482616824352613951092,6482616824352630465637,6482616824352647510132,6482616824352681717612,6482616824352714613092,6482616824352747907941,6519944320543073070708,6519944344775110325363,6593447022513235260517,6612180322406821487988,6630408070955732985202,6852128163306360106612,6852129284782265820011,1588121795171260096143716,1659549907034226221872494,1659549907034247864085619,1659549907034303750304872,1706903273020983629210469,1739941822861195898089326,1739997520297295436014963,1754144809806428187292787,1754163395880641373368947,1758591698141368271794034,424844776200785045677106532,440575014267099620433685604,444206552207791922821951334,445396513694744335135892595,447781308838983157980886373,453840363869050639053055091,104079149968343700604564628851,108760262707397035360224895332,108760262707398720937319820900,108760262707399553250207164782,110304145614075814728280665716,110930364539123018192257443172,113389296007415317171454176371,114632015062778837438386237028,114652566950868672407018759283,116184365615068786843315429732,28870442672579315631099524703602,29111520605489851432150606374003,29345795856071382384226876679283,29743197597162028061902395827315,7127712576792156649431179052019316,7331090642594830757927841079321445,7512523739154347964445067699383924,7614258584949148014562463692973427,1923206077223517525786272271126785906,494999557277894620744739512598176818291,30613292412608930034167207063433126351431796]
noncomputable def lj : PF := {
  Qt := [71, 67, 147, 165, 110, 97]
  Qv := [.G, .G]
  Qu := [(.A (.D (.A 71) 67) (.A 67)), (.A (.D (.A 71) 147) (.A 147)), (.A (.D (.A 71) 115) (.F (.D 60) [(.A 165)])), (.A (.D (.A 71) 110) (.P (.H .F (.A 110) (.B .G)) (.I []) (.A 110))), (.A (.D (.A 71) 97) (.P (.H .F (.A 97) (.B .G)) .X (.A 97)))] }
noncomputable def mu : PF := {
  Qt := [163]
  Qv := []
  Qu := [(.A (.A 78) (.C (.A 163) (.B (.A 0)))), (.C (.H .A (.A 78) (.B (.C 54))) [(.A (.A 75) (.I [(.C (.A 163) (.B (.A 1)))]))] [(.C (.H .A (.A 78) (.B (.C 125))) [(.A (.A 75) (.J .A (.N [101, 80] (.C (.A 163) (.B (.A 2))) (.B (.D QO)) (.A 80)) (.I [(.C (.A 163) (.B (.A 3)))])))] [(.C (.H .A (.A 78) (.B (.C 46))) [(.A (.A 75) (.I [(.C (.A 163) (.B (.A 4)))]))] [(.C (.H .A (.A 78) (.B (.C 52))) [(.A (.A 75) (.I [(.C (.A 163) (.B (.A 2)))]))] [(.C (.H .A (.A 78) (.B (.C 104))) [(.A (.A 75) (.I [(.C (.A 163) (.B (.A 4)))]))] [(.A (.A 75) (.I []))])])])])]), (.A (.A 85) (.I [])), (.D [80] QR (.A 75) [(.C (.M (.H .I (.A 80) (.B .G)) (.H .D (.A 80) (.A 85))) [(.F (.L (.A 85) .B [(.A 80)]))] [])]), (.B (.A 85))] }
noncomputable def sF : PF := {
  Qt := [43]
  Qv := []
  Qu := [(.A (.A 110) (.N [161, 163] (.K (.A 43) 110) (.B (.D QO)) (.I [(.F (.D 60) [(.A 161)]), (.A 163)]))), (.B (.F (.D 40) [(.K (.A 43) 67), (.K (.A 43) 147), (.K (.A 43) 115), (.A 110), (.F (.D 50) [(.K (.A 43) 97)])]))] }
noncomputable def yV : PF := {
  Qt := [121]
  Qv := []
  Qu := [(.A (.A 78) (.C (.A 121) (.B (.A 0)))), (.C (.H .B (.A 78) (.G [(.B (.C 38)), (.B (.C 30))])) [(.B (.I [(.C (.A 121) (.B (.A 1)))]))] []), (.C (.H .B (.A 78) (.G [(.B (.C 109)), (.B (.C 129))])) [(.B (.I [(.C (.A 121) (.B (.A 2))), (.C (.A 121) (.B (.A 3)))]))] []), (.C (.H .A (.A 78) (.B (.C 100))) [(.B (.I [(.C (.A 121) (.B (.A 2)))]))] []), (.C (.H .A (.A 78) (.B (.C 47))) [(.B (.I [(.C (.A 121) (.B (.A 1)))]))] []), (.C (.H .B (.A 78) (.G [(.B (.C 99)), (.B (.C 79))])) [(.B (.F (.D 60) [(.C (.A 121) (.B (.A 1)))]))] []), (.B (.P (.H .A (.A 78) (.B (.C 28))) (.F (.D 60) [(.C (.A 121) (.B (.A 3)))]) (.I [])))] }
noncomputable def za : PF := {
  Qt := [121, 139]
  Qv := []
  Qu := [(.A (.A 78) (.C (.A 121) (.B (.A 0)))), (.C (.H .B (.A 78) (.G [(.B (.C 38)), (.B (.C 30))])) [(.B (.G [(.A 78), (.C (.A 139) (.B (.A 0)))]))] []), (.C (.H .B (.A 78) (.G [(.B (.C 109)), (.B (.C 129))])) [(.B (.G [(.A 78), (.C (.A 121) (.B (.A 1))), (.C (.A 139) (.B (.A 0))), (.C (.A 139) (.B (.A 1)))]))] []), (.C (.H .A (.A 78) (.B (.C 100))) [(.B (.G [(.A 78), (.C (.A 121) (.B (.A 1))), (.C (.A 139) (.B (.A 0)))]))] []), (.C (.H .A (.A 78) (.B (.C 47))) [(.B (.G [(.A 78), (.C (.A 139) (.B (.A 0))), (.C (.A 121) (.B (.A 2)))]))] []), (.C (.H .B (.A 78) (.G [(.B (.C 99)), (.B (.C 79))])) [(.B (.G [(.A 78), (.F (.D 99) [(.A 139)])]))] []), (.B (.P (.H .A (.A 78) (.B (.C 28))) (.J .A (.S (.A 121) (.B .G) (.B (.A 3))) (.G [(.F (.D 99) [(.A 139)])])) (.A 121)))] }
noncomputable def yU : PF := {
  Qt := [17]
  Qv := []
  Qu := [(.C (.H .A (.C (.A 17) (.B (.A 0))) (.B (.C 99))) [(.B (.H .A (.N [68] (.C (.A 17) (.B (.A 1))) (.H .D (.C (.A 68) (.B (.A 0))) (.qb 154)) (.A 68)) (.I [])))] []), (.B (.H .B (.C (.A 17) (.B (.A 0))) (.qb 154)))] }
noncomputable def yW : PF := {
  Qt := [94]
  Qv := []
  Qu := [(.A (.A 85) (.N [159] (.C (.A 94) (.B (.A 1))) (.H .A (.C (.A 159) (.B (.A 0))) (.B (.C 86))) (.C (.A 159) (.B (.A 1))))), (.B (.P (.H .C (.C (.A 94) (.B (.A 1))) (.G [])) (.J .A (.A 85) (.I [(.C (.A 94) (.B (.A 0)))])) (.A 85)))] }
noncomputable def yZ : PF := {
  Qt := [94]
  Qv := []
  Qu := [(.B (.J .A (.I [(.C (.A 94) (.B (.A 0)))]) (.N [159] (.C (.A 94) (.B (.A 1))) (.H .A (.C (.A 159) (.B (.A 0))) (.B (.C 86))) (.C (.A 159) (.B (.A 1))))))] }
noncomputable def sJ : PF := {
  Qt := [139]
  Qv := []
  Qu := [(.A (.A 85) (.I [])), (.D [134] QR (.A 139) [(.C (.H .C (.C (.A 134) (.B (.A 0))) (.B (.C 81))) [(.F (.L (.A 85) .D [(.F (.D 169) [(.C (.A 134) (.B (.A 1)))])]))] [])]), (.B (.A 85))] }
noncomputable def sO : PF := {
  Qt := [121]
  Qv := []
  Qu := [(.C (.H .A (.C (.A 121) (.B (.A 0))) (.B (.C 36))) [(.B (.F (.D 169) [(.C (.A 121) (.B (.A 3)))]))] []), (.C (.H .A (.C (.A 121) (.B (.A 0))) (.B (.C 174))) [(.B (.F (.D 169) [(.C (.A 121) (.B (.A 1)))]))] []), (.B (.F (.D 181) [(.F (.D 166) [(.A 121)])]))] }
noncomputable def sQ : PF := {
  Qt := [163]
  Qv := []
  Qu := [(.A (.A 57) (.C (.A 163) (.B (.A 0)))), (.C (.H .B (.A 57) (.G [(.B (.C 125)), (.B (.C 104))])) [(.B (.F (.D 181) [(.I [(.C (.A 163) (.B (.A 1)))])]))] []), (.C (.H .A (.A 57) (.B (.C 46))) [(.B (.J .A (.F (.D 181) [(.C (.A 163) (.B (.A 2)))]) (.F (.D 167) [(.C (.A 163) (.B (.A 3)))])))] []), (.C (.H .A (.A 57) (.B (.C 52))) [(.B (.F (.D 169) [(.C (.A 163) (.B (.A 1)))]))] []), (.B (.P (.H .A (.A 57) (.B (.C 120))) (.I [(.B (.A 0))]) (.I [])))] }
noncomputable def yL : PF := {
  Qt := [71, 43]
  Qv := []
  Qu := [(.A (.D (.A 71) 43) (.A 43)), (.A (.D (.A 71) 59) .X), (.D [161, 163] QR (.K (.A 43) 110) [(.D [152] QR (.A 161) [(.C (.M (.H .A (.C (.A 152) (.B (.A 0))) (.B (.C 105))) (.H .A (.C (.C (.A 152) (.B (.A 2))) (.B (.A 0))) (.B (.C 36)))) [(.A (.C (.K (.A 71) 59) (.C (.C (.C (.A 152) (.B (.A 2))) (.B (.A 3))) (.B (.A 0)))) (.B (.D QO)))] [])])]), (.A (.D (.A 71) 107) (.N [80] (.K (.A 43) 110) (.B (.D QO)) (.F (.D 150) [])))] }
noncomputable def sk : PF := {
  Qt := [71, 152, 69]
  Qv := []
  Qu := [(.C (.Q (.H .C (.C (.A 152) (.B (.A 0))) (.B (.C 105))) (.H .C (.C (.C (.A 152) (.B (.A 1))) (.B (.A 1))) (.G []))) [(.B (.B (.D QR)))] []), (.A (.B [89, 121]) (.G [(.C (.C (.A 152) (.B (.A 1))) (.B (.A 0))), (.C (.A 152) (.B (.A 2)))])), (.C (.Q (.H .B (.A 89) (.A 69)) (.Q (.H .B (.A 89) (.K (.A 71) 59)) (.T (.F (.D 138) [(.C (.C (.K (.K (.A 71) 43) 115) (.A 89)) (.B (.A 0)))])))) [(.B (.B (.D QR)))] []), (.C (.H .B (.C (.A 121) (.B (.A 0))) (.G [(.B (.C 30)), (.B (.C 36))])) [(.B (.B (.D QR)))] []), (.B (.H .A (.N [35] (.F (.D 166) [(.A 121)]) (.M (.H .A (.C (.A 35) (.B (.A 0))) (.B (.C 66))) (.T (.R (.A 71) 185 [(.C (.A 35) (.B (.A 1)))]))) (.A 35)) (.I [])))] }
noncomputable def oG : PF := {
  Qt := [71, 152, 69]
  Qv := []
  Qu := [(.C (.H .A (.C (.A 152) (.B (.A 0))) (.B (.C 95))) [(.B (.J .D (.A 69) (.F (.D 150) [(.F (.D 181) [(.I [(.C (.A 152) (.B (.A 1)))])])])))] []), (.C (.Q (.H .C (.C (.A 152) (.B (.A 0))) (.B (.C 105))) (.R (.A 71) 116 [(.A 152), (.A 69)])) [(.B (.A 69))] []), (.A (.B [94, 121]) (.G [(.C (.A 152) (.B (.A 1))), (.C (.A 152) (.B (.A 2)))])), (.C (.H .A (.C (.A 94) (.B (.A 1))) (.G [])) [(.A (.A 69) (.J .B (.A 69) (.F (.D 150) [(.I [(.C (.A 94) (.B (.A 0)))])])))] []), (.B (.J .D (.J .D (.A 69) (.F (.D 150) [(.F (.D 178) [(.A 121)])])) (.F (.D 150) [(.F (.D 167) [(.A 94)])])))] }
noncomputable def yM : PF := {
  Qt := [71, 117]
  Qv := []
  Qu := [(.A (.A 163) (.C (.C (.K (.K (.A 71) 43) 110) (.A 117)) (.B (.A 1)))), (.A (.A 85) (.F (.D 150) [])), (.D [80] QR (.F (.D 162) [(.A 163)]) [(.A (.A 85) (.J .D (.A 85) (.C (.K (.A 71) 107) (.A 80))))]), (.C (.M (.H .A (.C (.A 163) (.B (.A 0))) (.B (.C 46))) (.H .A (.C (.C (.A 163) (.B (.A 3))) (.B (.A 1))) (.G []))) [(.A (.A 85) (.J .B (.A 85) (.F (.D 150) [(.I [(.C (.C (.A 163) (.B (.A 3))) (.B (.A 0)))])])))] []), (.B (.J .D (.A 85) (.F (.D 150) [(.F (.D 189) [(.A 163)])])))] }
noncomputable def yN : PF := {
  Qt := [71]
  Qv := []
  Qu := [(.A (.A 128) (.B (.D QO))), (.G (.A 128) [(.A (.A 128) (.B (.D QR))), (.D [117] QR (.F (.D 96) [(.J .B (.F (.D 33) [(.K (.K (.A 71) 43) 110)]) (.B (.A 1))), (.W (.B (.A 1))), (.W (.B (.A 1)))]) [(.A (.A 69) (.R (.A 71) 106 [(.A 117)])), (.D [152] QR (.qe (.C (.C (.K (.K (.A 71) 43) 110) (.A 117)) (.B (.A 0)))) [(.A (.A 69) (.R (.A 71) 153 [(.A 152), (.A 69)]))]), (.C (.H .C (.A 69) (.C (.K (.A 71) 107) (.A 117))) [(.A (.C (.K (.A 71) 107) (.A 117)) (.A 69)), (.A (.A 128) (.B (.D QO)))] [])])])] }
noncomputable def yO : PF := {
  Qt := [71, 117]
  Qv := []
  Qu := [(.A (.B [69, 85]) (.G [(.R (.A 71) 106 [(.A 117)]), (.I [])])), (.A (.A 161) (.C (.C (.K (.K (.A 71) 43) 110) (.A 117)) (.B (.A 0)))), (.D [25] QR (.F (.D 96) [(.J .B (.F (.D 33) [(.A 161)]) (.B (.A 1))), (.W (.B (.A 1))), (.W (.B (.A 1)))]) [(.C (.T (.R (.A 71) 116 [(.C (.A 161) (.A 25)), (.A 69)])) [(.F (.L (.A 85) .B [(.A 25)]))] []), (.A (.A 69) (.R (.A 71) 153 [(.C (.A 161) (.A 25)), (.A 69)]))]), (.B (.qe (.A 85)))] }
noncomputable def sI : PF := {
  Qt := [43]
  Qv := []
  Qu := [(.A (.A 85) (.V [89] QR (.F (.D 96) [(.J .A (.K (.A 43) 147) (.B (.A 1)))]) (.B (.D QO)) (.A 89) (.B (.D QO)))), (.D [161, 163] QR (.K (.A 43) 110) [(.D [152] QR (.A 161) [(.C (.H .A (.C (.A 152) (.B (.A 0))) (.B (.C 105))) [(.D [89] QR (.J .A (.F (.D 178) [(.C (.A 152) (.B (.A 2)))]) (.F (.D 169) [(.C (.A 152) (.B (.A 1)))])) [(.A (.C (.A 85) (.A 89)) (.B (.D QO)))])] [(.C (.H .A (.C (.A 152) (.B (.A 0))) (.B (.C 95))) [(.D [89] QR (.F (.D 181) [(.I [(.C (.A 152) (.B (.A 1)))])]) [(.A (.C (.A 85) (.A 89)) (.B (.D QO)))])] [])])]), (.A (.A 65) (.J .A (.F (.D 189) [(.A 163)]) (.P (.H .A (.C (.A 163) (.B (.A 0))) (.B (.C 46))) (.F (.D 169) [(.C (.A 163) (.B (.A 3)))]) (.I [])))), (.D [89] QR (.A 65) [(.A (.C (.A 85) (.A 89)) (.B (.D QO)))])]), (.B (.A 85))] }
noncomputable def yX : PF := {
  Qt := [43, 118]
  Qv := []
  Qu := [(.A (.A 85) (.F (.D 111) [(.A 43)])), (.A (.D (.A 85) 97) .X), (.D [117] QR (.F (.D 96) [(.F (.D 33) [(.K (.A 43) 110)])]) [(.A (.B [161, 163]) (.C (.K (.A 43) 110) (.A 117))), (.A (.C (.K (.A 85) 110) (.A 117)) (.I [(.N [25] (.C (.A 118) (.A 117)) (.B (.D QO)) (.C (.A 161) (.A 25))), (.A 163)])), (.D [73, 25] QO (.J .A (.C (.A 118) (.A 117)) (.I [(.F (.D 33) [(.A 161)])])) [(.C (.H .B (.G [(.A 117), (.A 25)]) (.K (.A 43) 97)) [(.A (.C (.K (.A 85) 97) (.G [(.A 117), (.A 73)])) (.C (.K (.A 43) 97) (.G [(.A 117), (.A 25)])))] [])])]), (.B (.A 85))] }
noncomputable def oQ : PF := {
  Qt := [43]
  Qv := []
  Qu := [(.A (.A 77) (.F (.D 41) [(.A 43)])), (.F (.R (.A 77) 113 [])), (.A (.A 85) (.F (.D 160) [(.A 43), (.N [117] (.F (.D 96) [(.F (.D 33) [(.K (.A 43) 110)])]) (.B (.D QO)) (.R (.A 77) 56 [(.A 117)]))])), (.A (.B [90, 118]) (.G [(.F (.D 176) [(.A 85)]), (.I [])])), (.D [161, 163] QR (.K (.A 85) 110) [(.F (.L (.A 118) .B [(.N [25] (.F (.D 96) [(.F (.D 33) [(.A 161)])]) (.T (.F (.D 130) [(.C (.A 161) (.A 25)), (.A 90)])) (.A 25))]))]), (.B (.F (.D 160) [(.A 85), (.A 118)]))] }
noncomputable def yT : PF := {
  Qt := [152, 90]
  Qv := []
  Qu := [(.B (.Q (.H .A (.C (.A 152) (.B (.A 0))) (.B (.C 34))) (.M (.H .B (.C (.A 152) (.B (.A 0))) (.G [(.B (.C 61)), (.B (.C 49))])) (.H .D (.C (.A 152) (.B (.A 1))) (.A 90)))))] }
noncomputable def sH : PF := {
  Qt := [43]
  Qv := []
  Qu := [(.A (.A 85) .X), (.D [89] QR (.F (.D 96) [(.F (.D 33) [(.K (.A 43) 115)])]) [(.C (.H .D (.C (.C (.C (.K (.A 43) 115) (.A 89)) (.B (.A 0))) (.B (.A 0))) (.qb 170)) [(.A (.C (.A 85) (.A 89)) (.B (.D QO)))] [])]), (.D [161, 163] QR (.K (.A 43) 110) [(.D [152] QR (.A 161) [(.C (.M (.H .A (.C (.A 152) (.B (.A 0))) (.B (.C 105))) (.H .A (.C (.C (.A 152) (.B (.A 2))) (.B (.A 0))) (.B (.C 36)))) [(.A (.C (.A 85) (.C (.C (.C (.A 152) (.B (.A 2))) (.B (.A 3))) (.B (.A 0)))) (.B (.D QO)))] [])])]), (.B (.A 85))] }
noncomputable def sM : PF := {
  Qt := [134, 87]
  Qv := []
  Qu := [(.C (.Q (.H .A (.C (.A 134) (.B (.A 0))) (.B (.C 81))) (.Q (.H .C (.C (.C (.A 134) (.B (.A 1))) (.B (.A 1))) (.G [])) (.H .D (.C (.C (.A 134) (.B (.A 1))) (.B (.A 0))) (.A 87)))) [(.B (.A 134))] []), (.B (.G [(.B (.C 48)), (.G [(.C (.A 87) (.C (.C (.A 134) (.B (.A 1))) (.B (.A 0)))), (.G [])])]))] }
noncomputable def yY : PF := {
  Qt := [139, 87]
  Qv := []
  Qu := [(.B (.F (.D 99) [(.N [134] (.A 139) (.B (.D QO)) (.F (.D 177) [(.A 134), (.A 87)]))]))] }
noncomputable def sN : PF := {
  Qt := [121, 87]
  Qv := []
  Qu := [(.B (.F (.D 183) [(.A 121), (.F (.D 182) [(.F (.D 166) [(.A 121)]), (.A 87)])]))] }
noncomputable def oM : PF := {
  Qt := [152, 87]
  Qv := []
  Qu := [(.C (.H .A (.C (.A 152) (.B (.A 0))) (.B (.C 105))) [(.B (.G [(.B (.C 105)), (.C (.A 152) (.B (.A 1))), (.F (.D 168) [(.C (.A 152) (.B (.A 2))), (.A 87)])]))] []), (.C (.H .A (.C (.A 152) (.B (.A 0))) (.B (.C 95))) [(.B (.G [(.B (.C 95)), (.F (.D 177) [(.C (.A 152) (.B (.A 1))), (.A 87)])]))] []), (.B (.A 152))] }
noncomputable def oN : PF := {
  Qt := [163, 87]
  Qv := []
  Qu := [(.C (.H .B (.C (.A 163) (.B (.A 0))) (.G [(.B (.C 125)), (.B (.C 104))])) [(.B (.J .A (.G [(.C (.A 163) (.B (.A 0))), (.F (.D 177) [(.C (.A 163) (.B (.A 1))), (.A 87)])]) (.F (.D 99) [(.S (.A 163) (.B (.A 2)) (.B .G))])))] []), (.C (.H .A (.C (.A 163) (.B (.A 0))) (.B (.C 46))) [(.B (.J .A (.G [(.C (.A 163) (.B (.A 0))), (.C (.A 163) (.B (.A 1))), (.F (.D 182) [(.C (.A 163) (.B (.A 2))), (.A 87)])]) (.F (.D 99) [(.S (.A 163) (.B (.A 3)) (.B .G))])))] []), (.B (.A 163))] }
noncomputable def sG : PF := {
  Qt := [87, 89]
  Qv := []
  Qu := [(.F (.L (.A 87) .C [(.A 89), (.B .G)])), (.D [91] QR (.N [35] (.A 87) (.H .A (.C (.A 87) (.A 35)) (.A 89)) (.A 35)) [(.F (.L (.A 87) .C [(.A 91)]))])] }
noncomputable def yS : PF := {
  Qt := [139, 87]
  Qv := []
  Qu := [(.D [134] QR (.A 139) [(.C (.H .A (.C (.A 134) (.B (.A 0))) (.B (.C 66))) [(.F (.F (.D 114) [(.A 87), (.C (.C (.A 134) (.B (.A 1))) (.B (.A 0)))]))] [])])] }
noncomputable def sh : PF := {
  Qt := [71, 43]
  Qv := []
  Qu := [(.A (.D (.A 71) 43) (.A 43)), (.A (.D (.A 71) 91) (.F (.D 180) [(.A 43)])), (.A (.D (.A 71) 107) (.qf 0 .X))] }
noncomputable def lk : PF := {
  Qt := [71, 152, 87]
  Qv := []
  Qu := [(.C (.H .B (.C (.A 152) (.B (.A 0))) (.G [(.B (.C 61)), (.B (.C 49))])) [(.F (.F (.D 114) [(.A 87), (.C (.A 152) (.B (.A 1)))]))] []), (.C (.H .A (.C (.A 152) (.B (.A 0))) (.B (.C 95))) [(.F (.F (.D 175) [(.I [(.C (.A 152) (.B (.A 1)))]), (.A 87)]))] []), (.C (.H .C (.C (.A 152) (.B (.A 0))) (.B (.C 105))) [(.B (.B .G))] []), (.A (.B [94, 121]) (.G [(.C (.A 152) (.B (.A 1))), (.C (.A 152) (.B (.A 2)))])), (.F (.F (.D 175) [(.F (.D 166) [(.A 121)]), (.A 87)])), (.A (.A 124) (.B .G)), (.C (.M (.H .A (.C (.A 94) (.B (.A 1))) (.G [])) (.M (.H .A (.C (.A 121) (.B (.A 0))) (.B (.C 38))) (.M (.H .A (.C (.C (.A 121) (.B (.A 1))) (.B (.A 0))) (.B (.C 48))) (.H .A (.C (.C (.C (.A 121) (.B (.A 1))) (.B (.A 1))) (.B (.A 1))) (.G []))))) [(.A (.A 124) (.C (.C (.C (.A 121) (.B (.A 1))) (.B (.A 1))) (.B (.A 0)))), (.A (.A 124) (.L (.A 87) .A [(.A 124), (.A 124)]))] []), (.F (.F (.D 114) [(.A 87), (.C (.A 94) (.B (.A 0)))])), (.C (.M (.H .I (.A 124) (.B .G)) (.M (.H .C (.A 124) (.C (.A 94) (.B (.A 0)))) (.M (.H .D (.C (.A 94) (.B (.A 0))) (.K (.A 71) 91)) (.H .D (.A 124) (.K (.A 71) 91))))) [(.A (.C (.A 87) (.C (.A 94) (.B (.A 0)))) (.A 124))] [])] }
noncomputable def oF : PF := {
  Qt := [71, 117]
  Qv := []
  Qu := [(.A (.A 87) (.F (.D 50) [(.C (.K (.A 71) 107) (.A 117))])), (.A (.B [161, 163]) (.C (.K (.K (.A 71) 43) 110) (.A 117))), (.D [152] QR (.A 161) [(.F (.R (.A 71) 74 [(.A 152), (.A 87)]))]), (.C (.H .A (.C (.A 163) (.B (.A 0))) (.B (.C 46))) [(.F (.F (.D 175) [(.C (.A 163) (.B (.A 2))), (.A 87)])), (.F (.F (.D 114) [(.A 87), (.C (.C (.A 163) (.B (.A 3))) (.B (.A 0)))]))] []), (.C (.H .B (.C (.A 163) (.B (.A 0))) (.G [(.B (.C 125)), (.B (.C 104))])) [(.F (.F (.D 175) [(.I [(.C (.A 163) (.B (.A 1)))]), (.A 87)]))] []), (.B (.A 87))] }
noncomputable def sj : PF := {
  Qt := [71, 117, 87]
  Qv := []
  Qu := [(.C (.H .D (.A 117) (.K (.A 71) 107)) [(.A (.C (.K (.A 71) 107) (.A 117)) (.F (.D 50) [(.A 87)])), (.B (.B (.D QO)))] []), (.A (.A 55) (.C (.K (.A 71) 107) (.A 117))), (.A (.A 56) (.V [89] QR (.A 55) (.H .A (.L (.A 87) .A [(.A 89)]) (.C (.A 55) (.A 89))) (.A 89) (.C (.A 55) (.A 89)))), (.A (.C (.K (.A 71) 107) (.A 117)) (.A 56)), (.B (.H .G (.F (.D 33) [(.A 56)]) (.F (.D 33) [(.A 55)])))] }
noncomputable def si : PF := {
  Qt := [71]
  Qv := []
  Qu := [(.A (.A 58) (.I [(.B (.A 0))])), (.G (.H .C (.A 58) (.I [])) [(.A (.A 117) (.L (.A 58) .C [])), (.A (.A 87) (.R (.A 71) 108 [(.A 117)])), (.D [80] QR (.F (.D 162) [(.C (.C (.K (.K (.A 71) 43) 110) (.A 117)) (.B (.A 1)))]) [(.C (.R (.A 71) 64 [(.A 80), (.A 87)]) [(.F (.L (.A 58) .B [(.A 80)]))] [])])])] }
noncomputable def zb : PF := {
  Qt := [43]
  Qv := []
  Qu := [(.A (.A 112) (.F (.D 103) [(.A 43)])), (.F (.R (.A 112) 113 [])), (.A (.A 85) (.F (.D 111) [(.A 43)])), (.D [117] QR (.F (.D 123) [(.K (.A 112) 107)]) [(.A (.B [87, 62]) (.G [(.F (.D 50) [(.C (.K (.A 112) 107) (.A 117))]), (.I [])])), (.A (.B [161, 163]) (.C (.K (.A 43) 110) (.A 117))), (.D [152] QR (.A 161) [(.F (.L (.A 62) .B [(.F (.D 186) [(.A 152), (.A 87)])])), (.F (.R (.A 112) 74 [(.A 152), (.A 87)]))]), (.A (.C (.K (.A 85) 110) (.A 117)) (.I [(.A 62), (.F (.D 188) [(.A 163), (.A 87)])]))]), (.B (.A 85))] }
noncomputable def sC : PF := {
  Qt := [124, 37]
  Qv := []
  Qu := [(.C (.H .C (.C (.A 124) (.B (.A 2))) (.I [])) [(.B (.J .C (.L (.C (.A 124) (.B (.A 2))) .C [(.B (.A 0))]) (.A 37)))] []), (.C (.H .H (.C (.A 124) (.B (.A 0))) (.B (.A 0))) [(.A (.A 82) (.J .C (.C (.A 124) (.B (.A 0))) (.A 37))), (.A (.C (.A 124) (.B (.A 0))) (.J .G (.C (.A 124) (.B (.A 0))) (.A 37))), (.B (.A 82))] []), (.A (.C (.A 124) (.B (.A 1))) (.J .C (.J .A (.J .F (.C (.A 124) (.B (.A 1))) (.B (.A 39373))) (.B (.A 7))) (.B (.A 2147483647)))), (.B (.J .C (.J .G (.J .C (.J .F (.C (.A 124) (.B (.A 1))) (.C (.A 124) (.B (.A 1)))) (.B (.A 2147483629))) (.B (.A 32))) (.A 37)))] }
noncomputable def sy : PF := {
  Qt := [124, 126]
  Qv := []
  Qu := [(.B (.C (.A 126) (.F (.D 146) [(.A 124), (.F (.D 33) [(.A 126)])])))] }
noncomputable def oH : PF := {
  Qt := [124, 148]
  Qv := []
  Qu := [(.A (.B [45, 29]) (.G [(.G [(.B (.C 32)), (.B (.C 27))]), (.G [(.B (.C 44))])])), (.A (.A 70) (.J .A (.J .F (.I [(.A 45)]) (.J .A (.J .A (.B (.A 1)) (.A 148)) (.B (.A 3)))) (.I [(.A 29), (.A 29), (.G [(.B (.C 99)), (.G [(.A 45), (.A 29)])])]))), (.A (.A 43) (.F (.D 40) [(.B (.C 15)), (.A 148), (.N [35] (.A 70) (.B (.D QO)) (.G [(.A 35), (.B (.D QO)), (.B .G)]))])), (.A (.A 63) (.J .A (.B (.A 1)) (.F (.D 146) [(.A 124), (.B (.A 4))]))), (.D [80] QR (.F (.D 96) [(.A 63)]) [(.A (.A 62) (.P (.H .H (.A 80) (.B (.A 0))) (.I []) (.F (.D 155) [(.A 124), (.A 148)]))), (.D [76] QR (.F (.D 96) [(.F (.D 146) [(.A 124), (.B (.A 5))])]) [(.F (.L (.A 62) .D [(.F (.D 184) [(.A 124), (.A 148)])]))]), (.F (.L (.K (.A 43) 110) .B [(.I [(.A 62), (.F (.D 135) [(.A 124), (.A 148), (.A 80), (.A 63)])])]))]), (.B (.A 43))] }
noncomputable def sm : PF := {
  Qt := [124, 148]
  Qv := []
  Qu := [(.A (.B [45, 29, 84]) (.G [(.G [(.B (.C 32)), (.B (.C 27))]), (.G [(.B (.C 44))]), (.J .A (.A 148) (.B (.A 1)))])), (.A (.A 62) (.I [(.G [(.B (.C 105)), (.G [(.B (.A 0)), (.G [])]), (.G [(.B (.C 38)), (.G [(.B (.C 81)), (.A 45), (.B (.A 7))])])])])), (.D [89] QR (.F (.D 96) [(.A 84), (.J .A (.A 84) (.B (.A 3)))]) [(.F (.L (.A 62) .B [(.G [(.B (.C 105)), (.G [(.A 89), (.G [])]), (.G [(.B (.C 38)), (.F (.D 172) [(.A 124), (.B (.A 0)), (.A 148)])])])]))]), (.D [89] QR (.F (.D 96) [(.J .A (.A 84) (.B (.A 3))), (.J .A (.A 84) (.B (.A 5)))]) [(.F (.L (.A 62) .B [(.G [(.B (.C 105)), (.G [(.A 89), (.G [])]), (.G [(.B (.C 38)), (.G [(.B (.C 81)), (.A 29), (.H .A (.F (.D 146) [(.A 124), (.B (.A 2))]) (.B (.A 0)))])])])]))]), (.B (.J .A (.A 62) (.I [(.G [(.B (.C 105)), (.G [(.J .A (.A 84) (.B (.A 5))), (.G [])]), (.G [(.B (.C 99)), (.G [(.G [(.B (.C 81)), (.A 45), (.B (.A 3))]), (.G [(.B (.C 81)), (.A 29), (.B (.D QR))])])])])])))] }
noncomputable def yQ : PF := {
  Qt := [124, 133, 148]
  Qv := []
  Qu := [(.A (.A 84) (.J .A (.A 148) (.B (.A 1)))), (.A (.A 39) (.F (.D 146) [(.A 124), (.J .A (.J .A (.B (.A 2)) (.A 133)) (.A 148))])), (.C (.H .G (.A 39) (.B (.A 2))) [(.B (.G [(.B (.C 81)), (.G [(.B (.C 32)), (.B (.C 27))]), (.F (.D 136) [(.A 124), (.I [(.B (.A 0)), (.B (.A 1)), (.B (.A 2)), (.B (.A 100)), (.B (.A 200)), (.B (.A 255))])])]))] []), (.C (.H .G (.A 39) (.J .A (.B (.A 2)) (.A 148))) [(.B (.G [(.B (.C 48)), (.G [(.J .B (.A 39) (.B (.A 1))), (.G [])])]))] []), (.C (.M (.H .A (.A 133) (.B (.A 4))) (.H .A (.A 39) (.J .A (.B (.A 5)) (.A 148)))) [(.B (.G [(.B (.C 48)), (.G [(.J .A (.A 84) (.B (.A 5))), (.G [(.G [(.B (.C 83)), (.B (.A 0))])])])]))] []), (.B (.G [(.B (.C 48)), (.G [(.J .B (.J .B (.J .A (.A 84) (.A 39)) (.B (.A 2))) (.A 148)), (.G [])])]))] }
noncomputable def sD : PF := {
  Qt := [124, 148]
  Qv := []
  Qu := [(.A (.A 84) (.J .A (.A 148) (.B (.A 1)))), (.A (.A 72) (.I [(.G [(.B (.C 48)), (.G [(.J .A (.A 84) (.B (.A 3))), (.G [])])]), (.G [(.B (.C 48)), (.G [(.J .A (.A 84) (.B (.A 4))), (.G [])])]), (.G [(.B (.C 48)), (.G [(.J .A (.A 84) (.B (.A 5))), (.G [(.G [(.B (.C 83)), (.B (.A 1))])])])])])), (.B (.F (.D 136) [(.A 124), (.J .A (.A 72) (.I [(.G [(.B (.C 81)), (.G [(.B (.C 44))]), (.B (.D QO))])]))]))] }
noncomputable def sA : PF := {
  Qt := [124, 148]
  Qv := []
  Qu := [(.A (.B [84, 39]) (.G [(.J .A (.A 148) (.B (.A 1))), (.F (.D 146) [(.A 124), (.B (.A 8))])])), (.A (.B [35, 91]) (.G [(.F (.D 172) [(.A 124), (.B (.A 4)), (.A 148)]), (.F (.D 172) [(.A 124), (.B (.A 4)), (.A 148)])])), (.A (.B [117, 98]) (.G [(.G [(.J .A (.A 84) (.F (.D 146) [(.A 124), (.B (.A 3))])), (.G [])]), (.G [(.J .A (.J .A (.A 84) (.B (.A 3))) (.F (.D 146) [(.A 124), (.B (.A 2))])), (.G [])])])), (.C (.H .A (.A 39) (.B (.A 0))) [(.B (.I [(.G [(.B (.C 95)), (.A 35)])]))] []), (.C (.H .A (.A 39) (.B (.A 1))) [(.B (.I [(.G [(.B (.C 105)), (.A 117), (.G [(.B (.C 38)), (.A 35)])])]))] []), (.C (.H .A (.A 39) (.B (.A 2))) [(.B (.I [(.G [(.B (.C 105)), (.A 117), (.G [(.B (.C 109)), (.F (.D 136) [(.A 124), (.I [(.B (.C 7)), (.B (.C 8)), (.B (.C 6)), (.B (.C 5)), (.B (.C 20)), (.B (.C 12))])]), (.A 35), (.A 91)])])]))] []), (.C (.H .A (.A 39) (.B (.A 3))) [(.B (.I [(.G [(.B (.C 105)), (.G [(.J .A (.A 84) (.B (.A 5))), (.G [])]), (.G [(.B (.C 129)), (.F (.D 136) [(.A 124), (.I [(.B (.C 7)), (.B (.C 8)), (.B (.C 6))])]), (.A 35), (.A 91)])])]))] []), (.C (.H .A (.A 39) (.B (.A 4))) [(.B (.I [(.G [(.B (.C 105)), (.A 98), (.G [(.B (.C 109)), (.F (.D 136) [(.A 124), (.I [(.B (.C 23)), (.B (.C 21)), (.B (.C 9)), (.B (.C 22)), (.B (.C 11)), (.B (.C 24))])]), (.A 35), (.A 91)])])]))] []), (.C (.H .A (.A 39) (.B (.A 5))) [(.B (.I [(.G [(.B (.C 105)), (.A 117), (.G [(.B (.C 100)), (.F (.D 136) [(.A 124), (.I [(.B (.C 4)), (.B (.C 8))])]), (.A 35)])]), (.G [(.B (.C 34))])]))] []), (.C (.H .A (.A 39) (.B (.A 6))) [(.B (.I [(.G [(.B (.C 105)), (.A 98), (.G [(.B (.C 100)), (.B (.C 4)), (.F (.D 157) [(.A 124), (.A 148)])])]), (.G [(.B (.C 95)), (.G [(.B (.C 48)), (.A 98)])])]))] []), (.A (.A 62) (.G [(.B (.C 47)), (.F (.D 157) [(.A 124), (.A 148)]), (.G [(.B (.C 32)), (.B (.C 27))])])), (.B (.I [(.G [(.B (.C 105)), (.A 117), (.A 62)]), (.G [(.B (.C 105)), (.G [(.B (.A 0)), (.G [])]), (.G [(.B (.C 38)), (.A 35)])])]))] }
noncomputable def sr : PF := {
  Qt := [124, 148, 80, 63]
  Qv := []
  Qu := [(.C (.H .A (.J .A (.A 80) (.B (.A 1))) (.A 63)) [(.B (.F (.D 136) [(.A 124), (.I [(.G [(.B (.C 120))]), (.G [(.B (.C 120))]), (.G [(.B (.C 92)), (.B (.C 31))])])]))] []), (.A (.B [88, 39]) (.G [(.F (.D 96) [(.J .A (.A 80) (.B (.A 1))), (.A 63)]), (.F (.D 146) [(.A 124), (.B (.A 4))])])), (.A (.B [35, 91]) (.G [(.F (.D 136) [(.A 124), (.A 88)]), (.F (.D 136) [(.A 124), (.A 88)])])), (.C (.H .A (.A 39) (.B (.A 0))) [(.B (.G [(.B (.C 54)), (.A 35)]))] []), (.C (.H .A (.A 39) (.B (.A 1))) [(.B (.G [(.B (.C 125)), (.F (.D 157) [(.A 124), (.A 148)]), (.G [(.G [(.B (.D QR)), (.A 35)])]), (.A 91)]))] []), (.C (.H .A (.A 39) (.B (.A 2))) [(.B (.G [(.B (.C 125)), (.F (.D 172) [(.A 124), (.B (.A 4)), (.A 148)]), (.G [(.G [(.B (.A 0)), (.A 35)]), (.G [(.B (.A 255)), (.A 91)])]), (.J .B (.A 63) (.B (.A 1)))]))] []), (.B (.G [(.B (.C 104)), (.F (.D 157) [(.A 124), (.A 148)]), (.B (.D QR)), (.B (.C 151)), (.A 35)]))] }
noncomputable def oL : PF := {
  Qt := [134, 127]
  Qv := []
  Qu := [(.C (.H .A (.C (.A 134) (.B (.A 0))) (.B (.C 81))) [(.B (.C (.A 134) (.B (.A 2))))] []), (.A (.A 101) (.C (.A 127) (.C (.C (.A 134) (.B (.A 1))) (.B (.A 0))))), (.D [159] QR (.C (.C (.A 134) (.B (.A 1))) (.B (.A 1))) [(.A (.A 101) (.C (.A 101) (.C (.A 159) (.B (.A 1)))))]), (.B (.A 101))] }
noncomputable def sE : PF := {
  Qt := [26, 13, 14]
  Qv := []
  Qu := [(.C (.H .B (.A 26) (.I [(.B (.C 23)), (.B (.C 21)), (.B (.C 9)), (.B (.C 22)), (.B (.C 11)), (.B (.C 24))])) [(.A (.A 75) (.I [(.Q (.H .G (.A 13) (.A 14)) (.M (.H .B (.A 26) (.I [(.B (.C 22)), (.B (.C 24))])) (.H .A (.A 13) (.A 14)))), (.H .A (.A 13) (.A 14)), (.Q (.H .H (.A 13) (.A 14)) (.M (.H .B (.A 26) (.I [(.B (.C 22)), (.B (.C 24))])) (.H .A (.A 13) (.A 14))))])), (.B (.P (.H .A (.C (.A 26) (.B (.A 0))) (.B (.C 9))) (.C (.A 75) (.B (.A 0))) (.P (.H .A (.C (.A 26) (.B (.A 0))) (.B (.C 11))) (.C (.A 75) (.B (.A 2))) (.H .A (.H .A (.A 26) (.B (.C 23))) (.C (.A 75) (.B (.A 1)))))))] []), (.A (.A 102) (.C (.qd [7, 8, 6, 5, 20, 12] [(.J .A (.A 13) (.A 14)), (.J .B (.A 13) (.A 14)), (.J .F (.A 13) (.A 14)), (.J .H (.F (.D 32) [(.A 13)]) (.F (.D 32) [(.A 14)])), (.J .D (.F (.D 32) [(.A 13)]) (.F (.D 32) [(.A 14)])), (.J .I (.F (.D 32) [(.A 13)]) (.F (.D 32) [(.A 14)]))]) (.A 26))), (.B (.P (.F (.D 158) [(.A 13), (.D 44)]) (.H .A (.A 102) (.B (.A 1))) (.A 102)))] }
noncomputable def oK : PF := {
  Qt := [121, 127]
  Qv := []
  Qu := [(.A (.A 57) (.C (.A 121) (.B (.A 0)))), (.C (.H .A (.A 57) (.B (.C 38))) [(.B (.F (.D 145) [(.C (.A 121) (.B (.A 1))), (.A 127)]))] []), (.C (.H .A (.A 57) (.B (.C 99))) [(.B (.F (.D 99) [(.N [134] (.C (.A 121) (.B (.A 1))) (.B (.D QO)) (.F (.D 145) [(.A 134), (.A 127)]))]))] []), (.C (.H .A (.A 57) (.B (.C 100))) [(.A (.A 101) (.F (.D 145) [(.C (.A 121) (.B (.A 2))), (.A 127)])), (.B (.P (.F (.D 158) [(.A 101), (.D 44)]) (.T (.A 101)) (.P (.H .A (.C (.A 121) (.B (.A 1))) (.B (.C 4))) (.J .B (.B (.A 255)) (.A 101)) (.J .C (.W (.A 101)) (.B (.A 256))))))] []), (.C (.H .A (.A 57) (.B (.C 47))) [(.B (.J .C (.F (.D 32) [(.F (.D 145) [(.C (.A 121) (.B (.A 1))), (.A 127)])]) (.B (.A 256))))] []), (.A (.A 75) (.F (.D 164) [(.C (.A 121) (.B (.A 1))), (.F (.D 145) [(.C (.A 121) (.B (.A 2))), (.A 127)]), (.F (.D 145) [(.C (.A 121) (.B (.A 3))), (.A 127)])])), (.C (.F (.D 158) [(.A 75), (.D 44)]) [(.B (.A 75))] []), (.B (.P (.H .A (.A 57) (.B (.C 129))) (.G [(.J .C (.A 75) (.B (.A 256))), (.T (.qc .J .G (.B (.A 0)) (.A 75) (.B (.A 256))))]) (.J .C (.A 75) (.B (.A 256)))))] }
noncomputable def sz : PF := {
  Qt := [43, 75]
  Qv := []
  Qu := [(.A (.B [127, 119, 80]) (.G [(.V [89, 101] QO (.A 75) (.B (.D QO)) (.J .A (.A 89) (.B (.A 1))) (.A 101)), (.I []), (.B (.A 0))])), (.D [76] QR (.F (.D 96) [(.J .A (.F (.D 33) [(.K (.A 43) 110)]) (.B (.A 1)))]) [(.A (.B [161, 163]) (.C (.K (.A 43) 110) (.A 80))), (.D [152] QR (.A 161) [(.C (.H .A (.C (.A 152) (.B (.A 0))) (.B (.C 105))) [(.A (.C (.A 127) (.C (.C (.A 152) (.B (.A 1))) (.B (.A 0)))) (.F (.D 142) [(.C (.A 152) (.B (.A 2))), (.A 127)]))] []), (.C (.H .A (.C (.A 152) (.B (.A 0))) (.B (.C 95))) [(.F (.L (.A 119) .B [(.F (.D 145) [(.C (.A 152) (.B (.A 1))), (.A 127)])]))] [])]), (.C (.H .B (.C (.A 163) (.B (.A 0))) (.I [(.B (.C 120)), (.B (.C 92))])) [(.B (.G [(.P (.H .A (.C (.A 163) (.B (.A 0))) (.B (.C 120))) (.G [(.B (.C 51)), (.C (.A 127) (.B (.A 0)))]) (.A 163)), (.A 119)]))] []), (.A (.A 80) (.F (.D 143) [(.A 163), (.A 127)])), (.C (.H .F (.A 80) (.B .G)) [(.B (.G [(.G [(.B (.C 92)), (.C (.A 163) (.B (.A 3)))]), (.A 119)]))] [])]), (.B (.B .G))] }
noncomputable def sx : PF := {
  Qt := [163, 127]
  Qv := []
  Qu := [(.C (.H .A (.C (.A 163) (.B (.A 0))) (.B (.C 54))) [(.B (.C (.A 163) (.B (.A 1))))] []), (.A (.A 101) (.F (.D 145) [(.C (.A 163) (.B (.A 1))), (.A 127)])), (.C (.H .A (.C (.A 163) (.B (.A 0))) (.B (.C 104))) [(.B (.P (.H .A (.A 101) (.C (.A 163) (.B (.A 2)))) (.C (.A 163) (.B (.A 4))) (.B .G)))] []), (.A (.A 85) (.N [75, 80] (.C (.A 163) (.B (.A 2))) (.H .A (.A 75) (.A 101)) (.A 80))), (.B (.P (.H .C (.A 85) (.I [])) (.C (.A 85) (.B (.A 0))) (.C (.A 163) (.B (.A 3)))))] }
noncomputable def yR : PF := {
  Qt := [93]
  Qv := []
  Qu := [(.A (.A 85) (.I [])), (.D [68] QR (.A 93) [(.C (.M (.F (.D 158) [(.A 68), (.D 99)]) (.M (.H .C (.A 68) (.G [])) (.M (.H .B (.C (.A 68) (.B (.A 0))) (.I [(.B (.C 48)), (.B (.C 66))])) (.F (.D 158) [(.C (.A 68) (.B (.A 1))), (.D 99)])))) [(.F (.L (.A 85) .B [(.C (.C (.A 68) (.B (.A 1))) (.B (.A 0)))]))] [(.C (.F (.D 158) [(.A 68), (.D 99)]) [(.A (.A 85) (.J .A (.A 85) (.F (.D 173) [(.A 68)])))] [])])]), (.B (.A 85))] }
noncomputable def yP : PF := {
  Qt := [163]
  Qv := []
  Qu := [(.C (.H .A (.C (.A 163) (.B (.A 0))) (.B (.C 54))) [(.B (.I [(.C (.A 163) (.B (.A 1)))]))] []), (.C (.H .A (.C (.A 163) (.B (.A 0))) (.B (.C 125))) [(.B (.J .A (.N [75, 80] (.C (.A 163) (.B (.A 2))) (.B (.D QO)) (.A 80)) (.I [(.C (.A 163) (.B (.A 3)))])))] []), (.B (.P (.H .A (.C (.A 163) (.B (.A 0))) (.B (.C 104))) (.I [(.C (.A 163) (.B (.A 4)))]) (.I [])))] }
noncomputable def su : PF := {
  Qt := [110, 80, 25, 89]
  Qv := []
  Qu := [(.A (.B [161, 163]) (.C (.A 110) (.A 80))), (.D [152] QR (.S (.A 161) (.A 25) (.B .G)) [(.A (.A 93) (.L (.qd [105, 95] [(.S (.A 152) (.B (.A 2)) (.B .G)), (.S (.A 152) (.B (.A 1)) (.B .G))]) .A [(.C (.A 152) (.B (.A 0))), (.G [])])), (.C (.H .B (.A 89) (.F (.D 173) [(.A 93)])) [(.B (.B (.D QO)))] []), (.C (.M (.H .A (.C (.A 152) (.B (.A 0))) (.B (.C 105))) (.H .A (.C (.A 152) (.B (.A 1))) (.G [(.A 89), (.G [])]))) [(.B (.B (.D QR)))] [])]), (.C (.Q (.M (.H .A (.C (.A 163) (.B (.A 0))) (.B (.C 120))) (.H .A (.A 89) (.B (.A 0)))) (.H .B (.A 89) (.F (.D 173) [(.S (.A 163) (.B (.A 1)) (.B (.A 2)))]))) [(.B (.B (.D QO)))] []), (.B (.H .C (.N [53] (.F (.D 156) [(.A 163)]) (.F (.D 171) [(.A 110), (.A 53), (.B (.A 0)), (.A 89)]) (.A 53)) (.I [])))] }
noncomputable def sv : PF := {
  Qt := [43]
  Qv := []
  Qu := [(.A (.A 110) (.N [161, 163] (.K (.A 43) 110) (.B (.D QO)) (.I [(.F (.D 60) [(.A 161)]), (.A 163)]))), (.A (.A 131) (.B (.D QO))), (.G (.A 131) [(.A (.A 131) (.B (.D QR))), (.D [80] QR (.F (.D 96) [(.F (.D 33) [(.A 110)])]) [(.D [25] QR (.F (.D 96) [(.J .B (.F (.D 33) [(.C (.C (.A 110) (.A 80)) (.B (.A 0)))]) (.B (.A 1))), (.W (.B (.A 1))), (.W (.B (.A 1)))]) [(.A (.A 152) (.C (.C (.C (.A 110) (.A 80)) (.B (.A 0))) (.A 25))), (.A (.A 132) (.M (.H .A (.C (.A 152) (.B (.A 0))) (.B (.C 105))) (.F (.D 171) [(.A 110), (.A 80), (.J .A (.A 25) (.B (.A 1))), (.C (.C (.A 152) (.B (.A 1))) (.B (.A 0)))]))), (.C (.Q (.H .A (.C (.A 152) (.B (.A 0))) (.B (.C 34))) (.M (.H .A (.C (.A 152) (.B (.A 0))) (.B (.C 105))) (.T (.A 132)))) [(.F (.L (.C (.C (.A 110) (.A 80)) (.B (.A 0))) .C [(.A 25)])), (.A (.A 131) (.B (.D QO)))] [])])])]), (.B (.A 110))] }
noncomputable def sq : PF := {
  Qt := []
  Qv := []
  Qu := [(.A (.A 45) (.G [(.B (.C 32)), (.B (.C 27))])), (.A (.B [18, 19]) (.G [(.G [(.B (.C 48)), (.G [(.B (.A 1)), (.G [])])]), (.G [(.B (.C 48)), (.G [(.B (.A 2)), (.G [])])])])), (.A (.A 43) (.F (.D 40) [(.B (.C 16)), (.B (.A 1)), (.J .F (.I [(.G [(.A 45), (.B (.D QO)), (.B .G)])]) (.B (.A 3)))])), (.A (.A 42) (.G [(.B (.C 105)), (.G [(.B (.A 1)), (.G [])]), (.G [(.B (.C 38)), (.G [(.B (.C 81)), (.A 45), (.B (.A 5))])])])), (.A (.A 70) (.I [(.G [(.B (.C 105)), (.G [(.B (.A 2)), (.G [])]), (.G [(.B (.C 38)), (.A 18)])]), (.G [(.B (.C 95)), (.A 19)]), (.A 42), (.G [(.B (.C 95)), (.A 19)])])), (.F (.L (.K (.A 43) 110) .B [(.I [(.J .A (.A 70) (.I [(.G [(.B (.C 105)), (.G [(.B (.A 0)), (.G [])]), (.G [(.B (.C 38)), (.A 19)])])])), (.G [(.B (.C 120))])])])), (.A (.A 85) (.F (.D 187) [(.A 43)])), (.B (.H .A (.C (.C (.K (.A 85) 110) (.B (.A 0))) (.B (.A 0))) (.J .A (.J .A (.I [(.C (.A 70) (.B (.A 0))), (.G [(.B (.C 95)), (.A 18)])]) (.S (.A 70) (.B (.A 2)) (.B .G))) (.I [(.G [(.B (.C 105)), (.G [(.B (.A 0)), (.G [])]), (.G [(.B (.C 38)), (.A 19)])])]))))] }
noncomputable def ll : PF := {
  Qt := [122]
  Qv := []
  Qu := [(.A (.A 124) (.F (.D 144) [(.A 122), (.I [])])), (.A (.A 148) (.F (.D 146) [(.A 124), (.B (.A 3))])), (.A (.A 43) (.F (.D 140) [(.A 124), (.A 148)])), (.A (.A 72) (.I [(.F (.D 187) [(.A 43)]), (.F (.D 179) [(.A 43)]), (.F (.D 179) [(.F (.D 187) [(.A 43)])])])), (.D [76] QR (.F (.D 96) [(.B (.A 3))]) [(.A (.A 75) (.N [89] (.F (.D 96) [(.A 148)]) (.B (.D QO)) (.F (.D 136) [(.A 124), (.I [(.B (.A 0)), (.B (.A 1)), (.B (.A 99)), (.B (.A 128)), (.B (.A 255))])]))), (.C (.H .C (.N [35] (.A 72) (.H .C (.F (.D 137) [(.A 35), (.A 75)]) (.F (.D 137) [(.A 43), (.A 75)])) (.A 35)) (.I [])) [(.B (.B (.D QR)))] [])]), (.C (.H .C (.N [161, 163] (.K (.C (.A 72) (.B (.A 1))) 110) (.B (.D QO)) (.I [(.F (.D 60) [(.A 161)]), (.A 163)])) (.F (.D 141) [(.A 43)])) [(.B (.B (.D QR)))] []), (.B (.F (.D 190) []))] }
noncomputable def nI:QI (QN×PF):=[(36,lj),(91,mu),(96,sF),(103,yV),(110,za),(116,yU),(121,yW),(126,yZ),(133,sJ),(140,sO),(147,sQ),(159,yL),(164,sk),(176,oG),(183,yM),(190,yN),(197,yO),(209,sI),(214,yX),(219,oQ),(226,yT),(234,sH),(241,sM),(246,yY),(253,sN),(260,oM),(267,oN),(272,sG),(279,yS),(293,sh),(300,lk),(307,oF),(312,sj),(319,si),(333,zb),(347,sC),(354,sy),(359,oH),(366,sm),(373,yQ),(380,sD),(387,sA),(394,sr),(401,oL),(408,sE),(413,oK),(418,sz),(423,sx),(430,yR),(435,yP),(440,su),(445,sv),(452,sq),(457,ll)]
noncomputable def wR:QI (QN×QN):=[(82,36),(200,159),(322,293)]
noncomputable def xI:QI (QN×QI (QN×QN)):=[(200,[(116,164),(153,176),(106,183),(113,190),(56,197)]),(322,[(74,300),(108,307),(64,312),(113,319)])]
noncomputable def mW:QI (QN×QI QN):=[(82,[67,147,115,110,97]),(200,[43,59,107]),(322,[43,91,107])]
noncomputable def vP:QI (QN×QN):=[(4,4),(9,9),(10,10),(11,11),(21,4),(22,9),(23,10),(24,11)]
noncomputable def nP:QI (QN×GV):=[(32,.H),(33,.D),(40,.B 82),(41,.B 200),(44,.J),(50,.F),(60,.M),(96,.N),(99,.C),(103,.B 322),(111,.A 96),(114,.A 272),(123,.I),(130,.A 226),(135,.A 394),(136,.A 354),(137,.A 418),(138,.A 116),(140,.A 359),(141,.A 445),(142,.A 413),(143,.A 423),(144,.A 340),(145,.A 401),(146,.A 347),(149,.K),(150,.G),(155,.A 366),(156,.A 435),(157,.A 380),(158,.L),(160,.A 214),(162,.A 91),(164,.A 408),(166,.A 103),(167,.A 121),(168,.A 253),(169,.A 126),(171,.A 440),(172,.A 373),(173,.A 430),(175,.A 279),(176,.A 209),(177,.A 241),(178,.A 140),(179,.A 219),(180,.A 234),(181,.A 133),(182,.A 246),(183,.A 110),(184,.A 387),(186,.A 260),(187,.A 333),(188,.A 267),(189,.A 147),(190,.A 452)]
noncomputable def vk:QI (QN×QI QN):=[(154,[32,44]),(170,[32,44])]
noncomputable def gA(a:QN):Rz PF:=nI.lookup a
noncomputable def ma(c:QN):Rz Nat:=wR.lookup c
noncomputable def mj(c m:QN):Rz Nat:=(xI.lookup c).bind λl=>l.lookup m
noncomputable def kG(c a:QN):Bool:=((mW.lookup c).getD []).elem a
noncomputable def kM(c:QN):Rz Nat:=vP.lookup c
noncomputable def jj(n:QN):Rz GV:=nP.lookup n
noncomputable def qi(n:QN):Rz (QI QN):=vk.lookup n
end Mine
end
section
set_option genSizeOf false
set_option genSizeOfSpec false
namespace Mine
abbrev af:=QI AO
abbrev ay:=QI (QN×PV)
def M(α:Type):=af→Rz (α×af)
noncomputable def M.b{α:Type}(a:α):M α:=λs=>QG (a,s)
noncomputable def M.a{α B:Type}(m:M α)(f:α→M B):M B:=λs=>(m s).bind λp=>f p.1 p.2
noncomputable def M.g{α:Type}:M α:=λZ=>RM
noncomputable def M.h{α:Type}(o:Rz α):M α:=λs=>o.map λa=>(a,s)
noncomputable def M.c{α:Type}(b:RG)(m:M α):M α:=λs=>Sr b (m s) RM
noncomputable def M.j(o:AO):M PV:=λs=>QG (.B s.length,s++[o])
noncomputable def M.i(i:QN)(o:AO):M PV:=λs=>Sr (Tv i s.length) (QG (.G,s.set i o)) RM
noncomputable def M.f(i:QN):M AO:=λs=>s[i]?.map λo=>(o,s)
noncomputable def bI(v:PV):M Bool:=match v with
 | .D b=>.b b
 |_=>.g
noncomputable def cw(v:PV):M Int:=match v with
 | .A i=>.b i
 |_=>.g
noncomputable def fw(v:PV):M Nat:=match v with
 | .A i=>.c (Rc (0≤i)) (.b i.toNat)
 |_=>.g
noncomputable def eA(v:PV):M Nat:=match v with
 | .B n=>.b n
 |_=>.g
noncomputable def eN(o:AO):M (QI PV):=match o with
 | .A l=>.b l
 |_=>.g
noncomputable def iC(o:AO):M (QI (RW×PV)):=match o with
 | .B l=>.b l
 |_=>.g
noncomputable def bZ(v:PV):M (QI PV):=(eA v).a λn=>(M.f n).a eN
noncomputable def aR:Nat:=4096
noncomputable def cR(l:QI PV):M PV:=.c (Um l.length aR) (.j (.A l))
noncomputable def iN(l:QI PV):M PV:=.c (Um l.length aR) (.b (.F l))
inductive D where
 |G
 |D (b:RG)
 |C (i:RW)
 |A (c:QN)
 |B (l:QI D)
 |F (l:QI D)
noncomputable def jQ(b:RG):Int:=Sr b 1 0
mutual
noncomputable def bY:D→D→RG
 | .G,y=>(match y with| .G=>QO|_=>QR)
 | .D a,y=>(match y with| .D b=>a==b| .C j=>jQ a==j|_=>QR)
 | .C i,y=>(match y with| .D b=>i==jQ b| .C j=>i==j|_=>QR)
 | .A a,y=>(match y with| .A b=>a==b|_=>QR)
 | .B a,y=>(match y with| .B b=>je a b|_=>QR)
 | .F a,y=>(match y with| .F b=>je a b|_=>QR)
noncomputable def je:QI D→QI D→RG
 |[],y=>(match y with|[]=>QO|_=>QR)
 |a::s,y=>(match y with|b::c=>bY a b&&je s c|_=>QR)
end
noncomputable def cP(f:PV→Rz D):QI PV→Rz (QI D)
 |[]=>QG []
 |a::r=>(f a).bind λx=>(cP f r).map λy=>x::y
noncomputable def toD(σ:af):QN→PV→Rz D
 |0,Z=>RM
 |n+1,v=>match v with
  | .G=>QG .G
  | .D b=>QG (.D b)
  | .A i=>QG (.C i)
  | .C c=>QG (.A c)
  | .F l=>(cP (toD σ n) l).map .B
  | .B i=>σ[i]?.bind λo=>match o with
   | .A l=>(cP (toD σ n) l).map .F
   |_=>RM
  |_=>RM
noncomputable def eQ(a b:PV):M Bool:=λs=>(toD s 16 a).bind λx=>(toD s 16 b).map λy=>(bY x y,s)
noncomputable def qS(x:PV)(l:QI PV):M Bool:=λs=>(toD s 16 x).bind λd=>(cP (toD s 16) l).map λa=>(a.any λe=>bY e d,s)
noncomputable def nW(v:PV):Bool:=match v with
 | .A Z=>QO
 |_=>QR
noncomputable def FQ(x:PV)(kvs:QI (RW×PV)):M Bool:=match x with
 | .A k=>.b (kvs.any λp=>p.1==k)
 | .F l=>.c (kvs.isEmpty&&l.all nW) (.b QR)
 |_=>.g
noncomputable def mf(x c:PV):M Bool:=match c with
 | .F l=>qS x l
 | .H m=>(fw x).a λi=>.c (Tv i 1000) (.b (m.testBit i))
 | .B n=>(M.f n).a λo=>match o with
  | .A l=>qS x l
  | .B s=>FQ x s
  |_=>.g
 |_=>.g
noncomputable def qY(v:PV):Bool:=match v with
 | .H Z=>QO
 |_=>QR
noncomputable def oo(a b:PV):M Bool:=match a with
 | .H x=>(match b with| .H y=>.b (!(x==y))|_=>.g)
 |a=>(eQ a b).a λr=>.b (!r)
noncomputable def nX(a b:PV):M Bool:=match b with
 | .G=>(match a with| .G=>.b QO| .A Z=>.b QR| .B Z=>.b QR|_=>.g)
 |_=>.g
noncomputable def lT(f:RW→RW→RG)(a b:PV):M Bool:=(cw a).a λi=>(cw b).a λj=>.b (f i j)
noncomputable def eC(op:aj)(a b:PV):M Bool:=match op with
 | .A=>eQ a b
 | .C=>oo a b
 | .G=>lT (λi j=>Rc (i<j)) a b
 | .J=>lT (λi j=>Rc (i≤j)) a b
 | .H=>lT (λi j=>Rc (i>j)) a b
 | .K=>lT (λi j=>Rc (i≥j)) a b
 | .F=>nX a b
 | .I=>(nX a b).a λr=>.b (!r)
 | .B=>mf a b
 | .D=>.c (!qY b) ((mf a b).a λr=>.b (!r))
noncomputable def iI(k:QN)(v:PV):QI (QN×PV)→QI (QN×PV)
 |[]=>[(k,v)]
 |p::r=>Sr (p.1==k) ((p.1,v)::r) (p::iI k v r)
noncomputable def dY(a:RW):Bool:=Rc (-(2^63)≤a∧a<2^63)
noncomputable def qL:Nat:=512
noncomputable def jO(v:PV):M Nat:=match v with
 | .H m=>.c (Tv m qL) (.b m)
 |_=>.g
noncomputable def uA(v:PV):M (QI PV):=match v with
 | .F l=>.b l
 |_=>.g
noncomputable def wZ(f:RW→RW→RW)(a b:PV):M PV:=(cw a).a λi=>(cw b).a λj=>.b (.A (f i j))
noncomputable def gb(op:aF)(a b:PV):M PV:=match op with
 | .A=>(match a with
  | .A i=>(cw b).a λj=>.b (.A (i+j))
  | .F x=>(uA b).a λy=>iN (x++y)
  | .B n=>(bZ (.B n)).a λx=>(bZ b).a λy=>cR (x++y)
  |_=>.g)
 | .B=>(match a with
  | .A i=>(cw b).a λj=>.b (.A (i-j))
  | .H m=>(jO (.H m)).a λx=>(jO b).a λy=>.b (.H (x&&&(x^^^y)))
  |_=>.g)
 | .F=>(match a with
  | .A i=>(cw b).a λj=>.c (dY i||dY j) (.b (.A (i*j)))
  | .B n=>(bZ (.B n)).a λl=>(cw b).a λj=>.c (Rc (0≤j∧j≤100∧l.length=1)) (cR (SQ j.toNat l).flatten)
  |_=>.g)
 | .G=>(cw a).a λi=>(cw b).a λj=>.c (Rc (j≠0)&&dY j) (.b (.A (i.fdiv j)))
 | .C=>(cw a).a λi=>(cw b).a λj=>.c (Rc (j≠0)) (.b (.A (i.fmod j)))
 | .H=>wZ ZX a b
 | .D=>(match a with
  | .A i=>(cw b).a λj=>.b (.A (qad i j))
  | .H m=>(jO (.H m)).a λx=>(jO b).a λy=>.b (.H (x|||y))
  |_=>.g)
 | .I=>wZ ZW a b
noncomputable def eD(l:QI (RW×PV))(k:RW)(v:PV):QI (RW×PV):=
 Sr (l.any λp=>Rc (p.1=k)) (l.map λp=>Sr (Rc (p.1=k)) (p.1,v) p) (l++[(k,v)])
noncomputable def bG{κ:Type}[Wh κ](l:QI (κ×PV))(k:κ):Rz PV:=(l.find? λp=>Rc (p.1=k)).map (·.2)
noncomputable def ib(l:QI (RW×PV))(k:RW):QI (RW×PV):=l.filter λp=> !Rc (p.1=k)
noncomputable def cF(a b c:RW):Nat:=
 Sr (Rc (c>0)) ((b-a+c-1)/c).toNat (Sr (Rc (c<0)) ((a-b+(-c)-1)/(-c)).toNat 0)
noncomputable def gn(a b c:RW):QI PV:=(RE (cF a b c)).map λ(j:QN)=>.A (a+c*(j:RW))
noncomputable def ie(o i:PV):M PV:=match o with
 | .F l=>(fw i).a λk=>.h l[k]?
 | .I a b c=>(fw i).a λk=>.h (gn a b c)[k]?
 | .C c=>(fw i).a λk=>.c (SW k 0) (.h ((kM c).map .C))
 | .B n=>(M.f n).a λo=>match o with
  | .A l=>(fw i).a λk=>.h l[k]?
  | .B s=>(cw i).a λk=>.h (bG s k)
  | .D s=>(match i with| .C k=>.h (bG s k)|_=>.g)
  |_=>.g
 |_=>.g
noncomputable def mz(o i v:PV):M PV:=(eA o).a λn=>(M.f n).a λb=>match b with
 | .A l=>(fw i).a λk=>.c (Tv k l.length) (.i n (.A (l.set k v)))
 | .B s=>(cw i).a λk=>.c (Tv s.length aR) (.i n (.B (eD s k v)))
 |_=>.g
noncomputable def qN(o:PV)(a:QN):M PV:=(eA o).a λn=>(M.f n).a λb=>match b with
 | .C Z s=>.h (bG s a)
 |_=>.g
noncomputable def pd(o:PV)(a:QN)(v:PV):M PV:=(eA o).a λn=>(M.f n).a λb=>match b with
 | .C c s=>.c (Tv s.length 50&&kG c a) (.i n (.C c (iI a v s)))
 |_=>.g
inductive aG where
 |A (l:QI PV)
 |D (i:QN)
 |B (i:QN)
 |C (i:QN)
noncomputable def pg(a b c:RW):Bool:=Rc (-(2^60)≤a∧a≤2^60∧-(2^60)≤b∧b≤2^60∧(c=1∨c= -1))
noncomputable def dh(v:PV):M (aG×QN):=match v with
 | .F l=>.b (.A l,l.length)
 | .I a b c=>.c (Um (cF a b c) aR&&pg a b c) (.b (.A (gn a b c),cF a b c))
 | .B i=>(M.f i).a λo=>match o with
  | .A l=>.b (.D i,l.length)
  | .B s=>.b (.C i,s.length)
  |_=>.g
 |_=>.g
noncomputable def gU(v:PV):M (aG×QN):=(eA v).a λi=>(M.f i).a λo=>(eN o).a λl=>.b (.B i,l.length)
noncomputable def jr(s:aG)(n j:QN):M PV:=match s with
 | .A l=>.h l[j]?
 | .D i=>(M.f i).a λo=>(eN o).a λl=>.c (SW l.length n) (.h l[j]?)
 | .B i=>(M.f i).a λo=>(eN o).a λl=>.c (SW l.length n) (.h (l[j]?.map λx=>.F [.A j,x]))
 | .C i=>(M.f i).a λo=>(iC o).a λv=>.c (SW v.length n) (.h (v[j]?.map λp=>.A p.1))
noncomputable def kr(s:aG)(n:QN):M Unit:=match s with
 | .A Z=>.b ()
 | .D i=>(M.f i).a λo=>(eN o).a λl=>.c (SW l.length n) (.b ())
 | .B i=>(M.f i).a λo=>(eN o).a λl=>.c (SW l.length n) (.b ())
 | .C i=>(M.f i).a λo=>(iC o).a λv=>.c (SW v.length n) (.b ())
noncomputable def aG.qa(s:aG):Bool:=match s with
 | .C Z=>QO
 |_=>QR
noncomputable def fV(v:PV):M (QI PV):=match v with
 | .F l=>.b l
 | .B i=>bZ (.B i)
 |_=>.g
noncomputable def bL(ts:QI QN)(v:PV)(ρ:ay):M ay:=match ts with
 |[]=>.g
 |t::r=>(match r with
  |[]=>.b ((t,v)::ρ)
  |Z::U=>(fV v).a λl=>.c (SW l.length ts.length) (.b ((ts.zip l).reverse++ρ)))
noncomputable def dA{α:Type}(s:aG)(n:QN)(stop:α→RG)(body:PV→α→M α):QN→α→M α
 |0,c=>(kr s n).a λZ=>.b c
 |k+1,c=>(jr s n (n-(k+1))).a λx=>(body x c).a λt=>Sr (stop t) (.b t) (dA s n stop body k t)
inductive Fl where
 |A
 |B (v:PV)
noncomputable def Fl.qa(p:Fl×ay):Bool:=match p.1 with
 | .A=>QR
 | .B Z=>QO
noncomputable def mE(t:ay→M RG)(body:ay→M (Fl×ay)):QN→ay→M (Fl×ay)
 |0,Z=>.g
 |w+1,R=>(t R).a λb=>Sr b ((body R).a λr=>Sr (Fl.qa r) (.b r) (mE t body w r.2)) (.b (.A,R))
noncomputable def mD:Nat:=4096
noncomputable def iK(x:RW):QI RW→QI RW
 |[]=>[x]
 |y::r=>Sr (Rc (x≤y)) (x::y::r) (y::iK x r)
set_option autoImplicit true in
theorem wU:iK x (y::r)=Sr (Rc (x≤y)) (x::y::r) (y::iK x r):=QJ
noncomputable def jD:QI RW→QI RW
 |[]=>[]
 |x::r=>iK x (jD r)
noncomputable def hU:QI PV→Rz QN
 |[]=>QG 0
 |v::r=>match v with
  | .A i=>Sr (Rc (0≤i∧i<9)) ((hU r).map λm=>m|||2^i.toNat) RM
  |_=>RM
noncomputable def nT(v:PV):Bool:=match v with
 | .D Z=>QO
 |_=>QR
noncomputable def iM(v:PV):Bool:=match v with
 | .F Z=>QO
 |_=>QR
noncomputable def ij(v:PV):Bool:=match v with
 | .G=>QO
 | .D Z=>QO
 | .A Z=>QO
 | .C Z=>QO
 | .F Z=>QO
 |_=>QR
noncomputable def Gj(v:PV)(g:GV):M Bool:=match g with
 | .J=>.c (ij v) (.b (nT v))
 | .C=>.c (ij v) (.b (iM v))
 |_=>.g
noncomputable def fh(args:QI PV):M PV:=match args with
 |[v]=>.b v
 |_=>.g
noncomputable def oc(v:PV):M Int:=match v with
 | .I a b c=>.c (Um (cF a b c) aR&&Rc (c≠0)) (.b (cF a b c))
 | .B i=>(M.f i).a λo=>match o with
  | .A l=>.b l.length
  | .B s=>.b s.length
  |_=>.g
 |_=>.g
noncomputable def sR(args:QI PV):M PV:=match args with
 |[]=>.g
 |x::r=>(cw x).a λa=>match r with
  |[]=>.c (dY a) (.b (.I 0 a 1))
  |y::r=>(cw y).a λb=>match r with
   |[]=>.c (dY a&&dY b) (.b (.I a b 1))
   |z::r=>(cw z).a λc=>match r with
    |[]=>.c (dY a&&dY b&&Rc (c= -1)) (.b (.I a b c))
    |Z::U=>.g
noncomputable def FT(v:PV):M PV:=match v with
 | .A i=>.b (.A i)
 | .D b=>.b (.A (jQ b))
 |_=>.g
noncomputable def qM(args:QI PV):M PV:=match args with
 |[]=>.b (.H 0)
 |Z::U=>(fh args).a λv=>(bZ v).a λl=>.c (Um l.length aR) (.h ((hU l).map .H))
noncomputable def xi(args:QI PV):M PV:=match args with
 |[v,.J g]=>(Gj v g).a λb=>.b (.D b)
 |_=>.g
noncomputable def lR(g:GV)(args:QI PV):M PV:=match g with
 | .D=>(fh args).a λv=>(oc v).a λn=>.b (.A n)
 | .M=>(fh args).a λv=>(fV v).a cR
 | .C=>(fh args).a λv=>(fV v).a iN
 | .F=>(fh args).a λv=>(eA v).a λn=>(M.f n).a λo=>(iC o).a λs=>.c (Um s.length aR) (.j (.B s))
 | .N=>sR args
 | .I=>(fh args).a λv=>(eA v).a λn=>(M.f n).a λo=>(iC o).a λs=>.c (Um s.length 40) (.j (.A ((jD (s.map (·.1))).map .A)))
 | .L=>xi args
 | .H=>(fh args).a FT
 | .G=>qM args
 |_=>.g
noncomputable def kJ(n:QN)(o:AO)(m:aO)(args:QI PV):M PV:=match m with
 | .B=>(eN o).a λl=>(fh args).a λv=>.c (Tv l.length aR) (.i n (.A (l++[v])))
 | .D=>(eN o).a λl=>(fh args).a λv=>(eA v).a λj=>(bZ v).a λr=>.c (Um (l.length+r.length) aR&& !SW n j) (.i n (.A (l++r)))
 | .C=>(match o with
  | .A l=>(match args with
   |[]=>(M.h l.getLast?).a λv=>(M.i n (.A l.dropLast)).a λZ=>.b v
   |Z::U=>(fh args).a λx=>(fw x).a λk=>(M.h l[k]?).a λv=>(M.i n (.A (l.eraseIdx k))).a λZ=>.b v)
  | .B s=>(match args with
   |x::r=>(cw x).a λk=>(match bG s k with
    |some v=>.c (match r with|[]=>QO|Z::t=>t.isEmpty) ((M.i n (.B (ib s k))).a λZ=>.b v)
    |none=>fh r)
   |[]=>.g)
  |_=>.g)
 | .A=>(match args with
  |x::r=>(M.h (match r with|[]=>QG PV.G|d::t=>Sr t.isEmpty (QG d) RM)).a λd=>match o with
   | .B s=>(cw x).a λk=>.b ((bG s k).getD d)
   | .D s=>(match x with| .C k=>.b ((bG s k).getD d)|_=>.g)
   |_=>.g
  |[]=>.g)
noncomputable def hW(m:aO)(o:AO):Bool:=match o with
 | .A Z=>(match m with| .A=>QR|_=>QO)
 | .B Z=>(match m with| .C=>QO| .A=>QO|_=>QR)
 | .D Z=>(match m with| .A=>QO|_=>QR)
 | .C Z U=>QR
noncomputable def jC(a b:AO):Bool:=match a with
 | .A Z=>(match b with| .A Z=>QO|_=>QR)
 | .B Z=>(match b with| .B Z=>QO|_=>QR)
 | .D Z=>(match b with| .D Z=>QO|_=>QR)
 | .C Z U=>QR
noncomputable def PE.qa:PE→RG
 | .B Z=>QO
 | .A Z=>QO
 | .D Z=>QO
 | .qb Z=>QO
 | .H Z a b=>a.qa&&b.qa
 | .C o i=>o.qa&&i.qa
 | .L o m s=>(match m with| .A=>o.qa&&(match s with|[a]=>a.qa|_=>QR)|_=>QR)
 |_=>QR
noncomputable def rB(v:PV):M (Rz QN):=match v with
 | .G=>.b RM
 | .A i=>.c (Rc (0≤i)) (.b (QG i.toNat))
 |_=>.g
noncomputable def kK(l:QI PV)(o i:Rz QN):QI PV:=(l.take (i.getD l.length)).drop (o.getD 0)
noncomputable def lX(x:PV)(o i:Rz QN):M PV:=match x with
 | .F l=>.c (Um (o.getD 0) (i.getD aR)) (iN (kK l o i))
 | .B n=>(bZ (.B n)).a λl=>.c (match i with|none=>QO|_=>QR) (cR (kK l o i))
 |_=>.g
section
variable(C:QN→QI PV→M PV)
noncomputable def kW(c:QN)(args:QI PV):M PV:=(M.h (ma c)).a λa=>(M.j (.C c [])).a λx=>(C a (x::args)).a λr=>match r with
 | .G=>.b x
 |_=>.g
noncomputable def jc(g:PV)(args:QI PV):M PV:=match g with
 | .J g=>(match g with
  | .A a=>C a args
  | .B c=>kW C c args
  |g=>lR g args)
 |_=>.g
noncomputable def HE(n:QN)(o:AO)(name:QN)(args:QI PV):M PV:=match o with
 | .C c s=>(M.h (mj c name)).a λa=>.c (!(bG s name).isSome) (C a (.B n::args))
 |_=>.g
mutual
noncomputable def ak:PE→ay→M PV
 | .B v,Z=>.b v
 | .A n,d=>.h (d.lookup n)
 | .D n,Z=>.h ((jj n).map .J)
 | .qb n,Z=>.h ((qi n).map λcs=>.F (cs.map .C))
 | .J op a b,d=>(ak a d).a λx=>(ak b d).a λy=>gb op x y
 | .W a,d=>(ak a d).a λx=>(cw x).a λi=>.b (.A (-i))
 | .T a,d=>((ak a d).a bI).a λb=>.b (.D (!b))
 | .M a b,d=>((ak a d).a bI).a λp=>Sr p (((ak b d).a bI).a λq=>.b (.D q)) (.b (.D QR))
 | .Q a b,d=>((ak a d).a bI).a λp=>Sr p (.b (.D QO)) (((ak b d).a bI).a λq=>.b (.D q))
 | .H op a b,d=>(ak a d).a λx=>(ak b d).a λy=>(eC op x y).a λr=>.b (.D r)
 | .qc O U a b c,d=>(ak a d).a λx=>(ak b d).a λy=>(eC O x y).a λr=>
   Sr r ((ak c d).a λz=>(eC U y z).a λr'=>.b (.D r')) (.b (.D QR))
 | .P c a b,d=>((ak c d).a bI).a λp=>Sr p (ak a d) (ak b d)
 | .I Y,d=>(cK Y d).a cR
 | .G Y,d=>(cK Y d).a iN
 | .X,Z=>.j (.B [])
 | .qd ks Y,d=>(cK Y d).a λE=>.j (.D (ks.zip E))
 | .qf k e,d=>(ak e d).a λv=>.j (.B [(k,v)])
 | .N ts it c e,d=>(ak it d).a λv=>(dh v).a λs=>.c (!(s.1.qa&& !(c.qa&&e.qa)))
   ((dA s.1 s.2 (λZ=>QR) (λx u=>(bL ts x d).a λw=>((ak c w).a bI).a λp=>
    Sr p ((ak e w).a λy=>.c (Tv u.length aR) (.b (u++[y]))) (.b u)) s.2 []).a cR)
 | .V ts en it c k e,d=>(ak it d).a λv=>(Sr en (gU v) (dh v)).a λs=>.c (!(s.1.qa&& !(c.qa&&k.qa&&e.qa)))
   ((dA s.1 s.2 (λZ=>QR) (λx u=>(bL ts x d).a λw=>((ak c w).a bI).a λp=>
    Sr p ((ak k w).a λa=>(cw a).a λi=>(ak e w).a λy=>.c (Tv u.length aR) (.b (eD u i y))) (.b u)) s.2 []).a λl=>.j (.B l))
 | .F f t,d=>(ak f d).a λg=>(cK t d).a λE=>jc C g E
 | .R o name t,d=>(ak o d).a λx=>(eA x).a λn=>(M.f n).a λob=>(cK t d).a λE=>HE C n ob name E
 | .L o m t,d=>(ak o d).a λx=>(eA x).a λn=>(M.f n).a λob=>(cK t d).a λE=>(M.f n).a λa0=>.c (hW m ob&&jC ob a0) (kJ n a0 m E)
 | .K o a,d=>(ak o d).a λx=>qN x a
 | .C o i,d=>(ak o d).a λx=>(ak i d).a λy=>ie x y
 | .S o lo hi,d=>(ak o d).a λx=>(ak lo d).a λy=>(ak hi d).a λz=>(rB y).a λj=>(rB z).a λk=>lX x j k
 | .qe o,d=>(ak o d).a λx=>(bZ x).a λl=>cR l.reverse
noncomputable def cK:QI PE→ay→M (QI PV)
 |[],Z=>.b []
 |e::r,R=>(ak e R).a λv=>(cK r R).a λs=>.b (v::s)
end
noncomputable def tB(t:PT)(v:PV)(ρ:ay):M ay:=match t with
 | .A n=>.b ((n,v)::ρ)
 | .B s=>bL s v ρ
 | .D o a=>(ak C o ρ).a λx=>(pd x a v).a λZ=>.b ρ
 | .C o i=>(ak C o ρ).a λx=>(ak C i ρ).a λy=>(mz x y v).a λZ=>.b ρ
mutual
noncomputable def jf:PS→ay→M (Fl×ay)
 | .B e,r=>(ak C e r).a λv=>.b (.B v,r)
 | .A t e,r=>(ak C e r).a λv=>(tB C t v r).a λd=>.b (.A,d)
 | .C c a b,r=>((ak C c r).a bI).a λp=>Sr p (dm a r) (dm b r)
 | .G c b,r=>mE (λr=>(ak C c r).a bI) (λr=>dm b r) mD r
 | .D f n i b,r=>(ak C i r).a λv=>(Sr n (gU v) (dh v)).a λs=>.c (!s.1.qa)
   (dA s.1 s.2 Fl.qa (λx g=>(bL f x g.2).a λd=>dm b d) s.2 (.A,r))
 | .F e,r=>(ak C e r).a λZ=>.b (.A,r)
noncomputable def dm:QI PS→ay→M (Fl×ay)
 |[],R=>.b (.A,R)
 |s::r,R=>(jf s R).a λt=>Sr (Fl.qa t) (.b t) (dm r t.2)
end
end
noncomputable def kH(pf:PF)(args:QI PV):Rz ay:=
 let s:=pf.Qt.length-args.length
 Sr (Um args.length pf.Qt.length&&Um s pf.Qv.length) (QG (pf.Qt.zip (args++pf.Qv.drop (pf.Qv.length-s)))) RM
noncomputable def sV(r:Fl×ay):PV:=match r.1 with
 | .A=>.G
 | .B v=>v
noncomputable def aB:QN→QN→QI PV→M PV
 |0,Z,U=>.g
 |d+1,a,s=>(M.h (gA a)).a λf=>(M.h (kH f s)).a λR=>(dm (aB d) f.Qu R).a λr=>.b (sV r)
end Mine
end
section
open PySem PySem.W PySem.Calls PyProof.Rows
namespace Mine
abbrev aH:=QI (RK×RK)
noncomputable def bj(c:QN):Rz Str:=tF[c]?.map QF
noncomputable def GV.qa:GV→QU
 | .A a=>.ref a
 | .B a=>.ref a
 | .D=>.builtin "len"
 | .M=>.type "list"
 | .C=>.type "tuple"
 | .F=>.type "dict"
 | .N=>.type "range"
 | .K=>.type "enumerate"
 | .I=>.builtin "sorted"
 | .L=>.builtin "isinstance"
 | .H=>.type "int"
 | .J=>.type "bool"
 | .G=>.type "frozenset"
structure iy(es:TS (RW×QU))(t:UA)(m:QN):Prop where
 OJ:∀e∈es.toList,∃(i:QN) (tk:Tok),i<9∧e=((i:RW),VR i tk)
 OM:(es.toList.map (·.1)).Nodup
 OL:∀i:QN,m.testBit i=QO↔∃e∈es.toList,e.1=(i:RW)
 OK:t.fits es.size=QO
def cC(h:RI)(a:RK)(m:QN):Prop:=
 ∃o s p t,h.get? a=QG o∧o.cls=.type "frozenset" ∧o.dict=RM∧o.slots=#[]∧o.data=.set s p t∧iy s t m
mutual
noncomputable def av(h:RI)(ads:aH):PV→QU→Prop
 | .G,v=>v=.none
 | .D b,v=>v=.bool b
 | .A i,v=>∃t,v=.int i t
 | .C c,v=>∃x t,bj c=QG x∧v=.str x t
 | .F l,v=>∃a o s n,v=.ref a∧h.get? a=QG o∧o.cls=.type "tuple" ∧o.data=.seq (VX s) n∧aA h ads l s∧l.length≤aR
 | .H m,v=>∃a,v=.ref a∧cC h a m
 | .I a b c,v=>∃r t u x,v=.ref r∧IsRange h r a b c t u x
 | .B n,v=>∃p,ads[n]?=QG p∧v=.ref p.1
 | .J g,v=>v=g.qa
noncomputable def aA(h:RI)(ads:aH):QI PV→QI QU→Prop
 |[],s=>s=[]
 |d::l,s=>∃v r,s=v::r∧av h ads d v∧aA h ads l r
end
def bF(ads:aH)(b:RK):Prop:=∃p∈ads,b=p.1∨b=p.2
noncomputable def ba{κ κ':Type}(h:RI)(ads:aH)(rk:κ'→κ→Prop):QI (κ'×PV)→QI (κ×QU)→Prop
 |[],s=>s=[]
 |b::l,s=>∃k v r,s=(k,v)::r∧rk b.1 k∧av h ads b.2 v∧ba h ads rk l r
noncomputable def cA(w:Sn)(h:RI)(ads:aH):QI (QN×PV)→QI VP→Prop
 |[],s=>s=[]
 |f::l,s=>∃e r,s=e::r∧(∃x t,bj f.1=QG x∧e.key=.str x t∧e.hash=Vz w.params x)∧av h ads f.2 e.val∧cA w h ads l r
def eL(prog:RP)(w:Sn)(h:RI)(ads:aH)(p:RK×RK):AO→Prop
 | .A l=>p.2=p.1∧∃v:QI QU,h.PlainList p.1 v.toArray∧aA h ads l v∧l.length≤aR
 | .B l=>p.2=p.1∧∃s,h.DictOf (Ub prog w) p.1 s∧ba h ads (·=·) l s∧l.length≤aR
 | .D l=>p.2=p.1∧∃s,h.DictOf (strKind prog w) p.1 s∧ba h ads (λc x=>bj c=QG x) l s∧l.length≤aR
 | .C c a=>p.1≠p.2∧h.get? p.1=QG (XR c p.2)∧(∃e n,h.get? p.2=QG (qcr e n)∧cA w h ads a e)∧(a.length≤50∧∀f∈a,kG c f.1=QO)
structure ah(prog:RP)(w:Sn)(hs:RI)(h:RI)(ads:aH)(σ:af):Prop where
 NX:∀b o,hs.get? b=QG o→h.get? b=QG o
 Og:∃o,hs.get? 3=QG o
 Oa:ads.length=σ.length
 Of:∀b,bF ads b→hs.get? b=RM∧3<b
 Oh:∀(i j:QN) (p q:RK×RK),ads[i]?=QG p→ads[j]?=QG q→i≠j→p.1≠q.1∧p.1≠q.2∧p.2≠q.1∧p.2≠q.2
 NW:∀(i:QN) (p:RK×RK) (o:AO),ads[i]?=QG p→σ[i]?=QG o→eL prog w h ads p o
structure au(fr:QI RK)(h:RI)(ads:aH)(h':RI)(ads':aH):Prop where
 Pc:ads<+:ads'
 Pd:∀b,bF ads' b→bF ads b∨h.get? b=RM
 Pa:∀b o,¬bF ads b→b∉fr→h.get? b=QG o→h'.get? b=QG o
 Pe:∀b o,b∈fr→h.get? b=QG o→∃o',h'.get? b=QG o'
theorem au.Pg(r:QI RK)(h:RI)(ads:aH):au r h ads h ads:=
 ⟨UI,λZ x=>.inl x,λZ Z Z Z e=>e,λZ Z Z e=>⟨_,e⟩⟩
theorem au.Pj{r:QI RK}{h a:RI}{ads s:aH}(x:au r h ads a s){b:RK}{o:Obj}(c:¬bF ads b)(e:h.get? b=QG o):∃d,a.get? b=QG d:=
 (Wx (b∈r)).elim (λf=>x.Pe b o f e) λf=>⟨o,x.Pa b o c f e⟩
theorem au.Pf{r:QI RK}{h a:RI}{ads s:aH}(x:au r h ads a s){b:RK}{o:Obj}(c:¬bF ads b)(e:h.get? b=QG o):¬bF s b:=λz=>
 (x.Pd b z).elim c λq=>bV (e.symm.trans q)
theorem au.Pb{r:QI RK}{h a c:RI}{ads s d:aH}(x:au r h ads a s)(y:au r a s c d):au r h ads c d where
 Pc:=x.Pc.trans y.Pc
 Pd:=λb g=>(y.Pd b g).elim (x.Pd b) λz=>(Wx (bF ads b)).imp id λn=>match e:h.get? b with
  |none=>QJ
  |some Z=>let⟨_,i⟩:=x.Pj n e;bV (i.symm.trans z)
 Pa:=λb o g f e=>y.Pa b o (x.Pf g e) f (x.Pa b o g f e)
 Pe:=λb o f e=>let⟨j,i⟩:=x.Pe b o f e;y.Pe b j f i
theorem au.Pq{f r:QI RK}{h h':RI}{ads ads':aH}(x:au f h ads h' ads')(c:∀b∈f,b∈r)(n:∀b∈r,b∉f→¬bF ads b):au r h ads h' ads':=
 ⟨x.Pc,x.Pd,λb o a n e=>x.Pa b o a (λz=>n (c b z)) e,λb o a e=>
  (Wx (b∈f)).elim (λq=>x.Pe b o q e) λq=>⟨o,x.Pa b o (n b a q) q e⟩⟩
structure aP(h:RI)(ads:aH)(h':RI)(ads':aH):Prop where
 MQ:ads<+:ads'
 MR:∀b,bF ads' b→bF ads b∨h.get? b=RM
 MO:∀b o,h.get? b=QG o→h'.get? b=QG o
theorem aP.MS(h:RI)(ads:aH):aP h ads h ads:=⟨UI,λZ x=>.inl x,λZ Z e=>e⟩
theorem aP.MP{h h':RI}{ads ads':aH}(x:aP h ads h' ads')(r:QI RK):au r h ads h' ads':=⟨x.MQ,x.MR,λb o Z Z e=>x.MO b o e,λb o Z e=>⟨o,x.MO b o e⟩⟩
theorem aP.MT{h a c:RI}{ads s d:aH}(x:aP h ads a s)(y:aP a s c d):aP h ads c d:=
 ⟨x.MQ.trans y.MQ,((x.MP []).Pb (y.MP [])).Pd,λb o e=>y.MO b o (x.MO b o e)⟩
theorem aP.MM{h h':RI}(ads:aH)(k:∀b o,h.get? b=QG o→h'.get? b=QG o):aP h ads h' ads:=⟨UI,λZ x=>.inl x,k⟩
structure Mv(q:RG)(h:RI)(ads:aH)(h':RI)(ads':aH):Prop where
 st:au [] h ads h' ads'
 gr:q=QO→aP h ads h' ads'
theorem aP.mv{h h':RI}{ads ads':aH}(x:aP h ads h' ads')(q:RG):Mv q h ads h' ads':=⟨x.MP [],λZ=>x⟩
theorem Mv.Qr(q:RG)(h:RI)(ads:aH):Mv q h ads h ads:=(aP.MS h ads).mv q
theorem Mv.Qs{q:RG}{h a b:RI}{ads s d:aH}(x:Mv q h ads a s)(y:Mv q a s b d):Mv q h ads b d:=⟨x.st.Pb y.st,λz=>(x.gr z).MT (y.gr z)⟩
theorem au.mv{h h':RI}{ads ads':aH}(x:au [] h ads h' ads'):Mv QR h ads h' ads':=⟨x,λz=>aD z⟩
theorem lp{ads ads':aH}(b:ads<+:ads'){n:QN}{p:RK×RK}(e:ads[n]?=QG p):ads'[n]?=QG p:=by
 (revert b;refine oE λt a=> ?_;subst a)
 rw[Us (gL e)];exact e
def fX(o:Obj):Prop:=
 (o.cls=.type "tuple" ∧∃s n,o.data=.seq s n)∨(o.cls=.type "frozenset" ∧∃e n t,o.data=.set e n t)∨(o.cls=.type "range" ∧∃v,o.data=.fields v)
structure bw(h:RI)(ads:aH)(h':RI)(ads':aH):Prop where
 PJ:ads<+:ads'
 PI:∀a o,h.get? a=QG o→fX o→h'.get? a=QG o
theorem aP.MN{h h':RI}{ads ads':aH}(x:aP h ads h' ads'):bw h ads h' ads':=⟨x.MQ,λb o e Z=>x.MO b o e⟩
mutual
theorem av.a{h h':RI}{ads ads':aH}(k:bw h ads h' ads'):∀(d:PV) {v:QU},av h ads d v→av h' ads' d v
 | .G,Z,r=>r
 | .D Z,U,r=>r
 | .A Z,U,r=>r
 | .C Z,U,r=>r
 | .F l,Z,r=>SA (λZ=>SA λZ=>SA λZ=>SA λZ x=>⟨x.1,k.PI _ _ x.2.1 (.inl ⟨x.2.2.1,_,_,x.2.2.2.1⟩),x.2.2.1,x.2.2.2.1,aA.b k l x.2.2.2.2.1,x.2.2.2.2.2⟩) r
 | .H Z,U,r=>SA (λZ y=>⟨y.1,SA (λZ=>SA λZ=>SA λZ=>SA λZ x=>⟨k.PI _ _ x.1 (.inr (.inl ⟨x.2.1,_,_,_,x.2.2.2.2.1⟩)),x.2⟩) y.2⟩) r
 | .I Z U Y,O,r=>SA (λZ=>SA λZ=>SA λZ=>SA λZ x=>⟨x.1,k.PI _ _ x.2 (.inr (.inr ⟨QJ,_,QJ⟩))⟩) r
 | .B Z,U,r=>SA (λZ x=>⟨lp k.PJ x.1,x.2⟩) r
 | .J Z,U,r=>r
theorem aA.b{h h':RI}{ads ads':aH}(k:bw h ads h' ads'):∀(l:QI PV) {vs:QI QU},aA h ads l vs→aA h' ads' l vs
 |[],Z,r=>r
 |d::l,Z,r=>SA (λZ=>SA λZ x=>(aL x.1 (av.a k d x.2.1) (aA.b k l x.2.2))) r
end
section
variable{h:RI}{ads:aH}
theorem aA.a:∀{l:QI PV} {vs:QI QU},aA h ads l vs→vs.length=l.length
 |[],Z,r=>r▸QJ
 |Z::U,Y,z=>by revert z;exact cm λZ Z e Z b=>e▸RH (·+1) (aA.a b)
theorem aA.c{m:QI PV}{s:QI QU}(k:aA h ads m s):∀{l:QI PV} {vs:QI QU},aA h ads l vs→aA h ads (l++m) (vs++s)
 |[],Z,r=>r▸k
 |Z::U,Y,z=>by revert z;exact cm λv r e a b=>(cX v (r++s) (e▸QJ) a (aA.c k b))
theorem aA.d:∀{l:QI PV} {vs:QI QU},aA h ads l vs→∀{k:QN} {d:PV},l[k]?=QG d→∃v,vs[k]?=QG v∧av h ads d v
 |[],Z,U,Y,O,e=>aI e
 |Z::U,Y,z,0,O,e=>by revert z;exact cm λv Z c a Z=>(ai v (c▸QJ) (QS e▸a))
 |Z::U,Y,z,O+1,f,e=>by revert z;exact cm λZ Z c Z b=>c▸aA.d b e
theorem aA.g:∀(k:QN) {l:QI PV} {vs:QI QU},aA h ads l vs→aA h ads (l.drop k) (vs.drop k)
 |0,Z,U,r=>r
 |Z+1,[],U,r=>r▸QJ
 |k+1,Z::U,Y,z=>by revert z;exact cm λZ Z e Z b=>e▸aA.g k b
theorem aA.j:∀(k:QN) {l:QI PV} {vs:QI QU},aA h ads l vs→aA h ads (l.take k) (vs.take k)
 |0,Z,U,Y=>QJ
 |Z+1,[],U,r=>r▸QJ
 |k+1,Z::U,Y,z=>by revert z;exact cm λv r e a b=>(cX v (r.take k) (e▸QJ) a (aA.j k b))
theorem aA.f{d:PV}{v:QU}(a:av h ads d v):aA h ads [d] [v]:=(cX v ([]) QJ a QJ)
theorem aA.i:∀{l:QI PV} {vs:QI QU},aA h ads l vs→aA h ads l.reverse vs.reverse
 |[],Z,r=>r▸QJ
 |Z::U,Y,z=>by revert z;exact cm λZ Z e a b=>by rw[e,UH,UH];exact aA.c (aA.f a) (aA.i b)
theorem aA.l{w:QU}{e:PV}(x:av h ads e w):∀(k:QN) {l:QI PV} {vs:QI QU},aA h ads l vs→aA h ads (l.set k e) (vs.set k w)
 |Z,[],U,r=>r▸QJ
 |0,Z::U,Y,z=>by revert z;exact cm λZ r q Z b=>(cX w r (q▸QJ) x b)
 |k+1,Z::U,Y,z=>by revert z;exact cm λv r q a b=>(cX v (r.set k w) (q▸QJ) a (aA.l x k b))
theorem aA.k:∀(k:QN) {l:QI PV} {vs:QI QU},aA h ads l vs→aA h ads (l.eraseIdx k) (vs.eraseIdx k)
 |Z,[],U,r=>r▸QJ
 |0,Z::U,Y,z=>by revert z;exact cm λZ Z q Z b=>q▸b
 |k+1,Z::U,Y,z=>by revert z;exact cm λv r q a b=>(cX v (r.eraseIdx k) (q▸QJ) a (aA.k k b))
theorem aA.m{l:QI PV}{vs:QI QU}(x:aA h ads l vs):aA h ads l.dropLast vs.dropLast:=by
 rw[Yr,Yr,x.a];exact x.j _
theorem ba.a{κ κ':Type}{rk:κ'→κ→Prop}:∀{l:QI (κ'×PV)} {kvs:QI (κ×QU)},ba h ads rk l kvs→kvs.length=l.length
 |[],Z,r=>r▸QJ
 |Z::U,Y,z=>by revert z;exact fg λZ Z Z e Z Z c=>e▸RH (·+1) (ba.a c)
theorem ba.b{κ κ':Type}{h':RI}{ads':aH}(k:bw h ads h' ads'){rk:κ'→κ→Prop}:∀{l:QI (κ'×PV)} {kvs:QI (κ×QU)},ba h ads rk l kvs→ba h' ads' rk l kvs
 |[],Z,r=>r
 |Z::U,Y,r=>SA (λZ=>SA λZ=>SA λZ x=>(cq x.1 x.2.1 (av.a k _ x.2.2.1) (ba.b k x.2.2.2))) r
theorem cA.a{w:Sn}{h':RI}{ads':aH}(k:bw h ads h' ads'):∀{l:QI (QN×PV)} {s:QI VP},cA w h ads l s→cA w h' ads' l s
 |[],Z,r=>r
 |Z::U,Y,r=>SA (λZ=>SA λZ x=>(cq x.1 x.2.1 (av.a k _ x.2.2.1) (cA.a k x.2.2.2))) r
end
section
variable{prog:RP}{w:Sn}{hs h h':RI}{ads ads':aH}{σ σ':af}
theorem eL.a{p:RK×RK}(k:bw h ads h' ads')(d:∀c,h.get? p.1=QG c→h'.get? p.1=QG c)(e:∀c,h.get? p.2=QG c→h'.get? p.2=QG c):
  ∀{o:AO},eL prog w h ads p o→eL prog w h' ads' p o
 | .A Z,x=>⟨x.1,SA (λZ y=>(aL (SA (λZ a=>d _ a) y.1) (aA.b k _ y.2.1) y.2.2)) x.2⟩
 | .B Z,x=>⟨x.1,SA (λZ y=>(aL (SA (λZ=>SA λZ=>SA λZ z=>⟨d _ z.1,z.2⟩) y.1) (y.2.1.b k) y.2.2)) x.2⟩
 | .D Z,x=>⟨x.1,SA (λZ y=>(aL (SA (λZ=>SA λZ=>SA λZ z=>⟨d _ z.1,z.2⟩) y.1) (y.2.1.b k) y.2.2)) x.2⟩
 | .C Z U,x=>(cq x.1 (d _ x.2.1) (SA (λZ=>SA λZ z=>⟨e _ z.1,z.2.a k⟩) x.2.2.1) x.2.2.2)
theorem ah.Od(R:ah prog w hs h ads σ){b:RK}(k:bF ads b):∃o,h.get? b=QG o∧(o.cls=.type "list" ∨o.cls=.type "dict" ∨∃c,o.cls=.ref c):=by
 (revert k;refine ag λp m e=> ?_)
 obtain⟨i,j,rfl⟩:=qbT m;have d:i<σ.length:=R.Oa▸j;have a:=R.NW i _ σ[i] (Rk j) (Rk d);generalize σ[i]=l at a;have f:∀{p:RK×RK} {b:RK},b=p.1∨b=p.2→p.2=p.1→b=p.1:=λe q=>e.elim id λz=>z.trans q
 induction l using AO.casesOn with
 |A Z=>exact a.2.elim λZ x=>x.1.elim λZ g=>(ai _ (f e a.1▸g) (.inl QJ))
 |B Z=>exact a.2.elim λZ x=>x.1.imp λZ x=>x.elim λZ x=>x.elim λZ x=>⟨f e a.1▸x.1,.inr (.inl x.2.1.1)⟩
 |D Z=>exact a.2.elim λZ x=>x.1.imp λZ x=>x.elim λZ x=>x.elim λZ x=>⟨f e a.1▸x.1,.inr (.inl x.2.1.1)⟩
 |C c Z=>exact e.elim (λe=>(ai _ (e▸a.2.1) (.inr (.inr ⟨c,QJ⟩)))) λe=>a.2.2.1.elim λZ x=>x.elim λZ x=>(ai _ (e▸x.1) (.inr (.inl QJ)))
theorem ah.Oi(R:ah prog w hs h ads σ){b:RK}{o:Obj}(e:h.get? b=QG o)(a:fX o):¬bF ads b:=λd=>by
 refine ag (λf g c=> ?_) (R.Od d);obtain rfl:o=f:=QS (e.symm.trans g)
 have n:∀{t:WD},o.cls=.type t→t≠ "list" →t≠ "dict" →False:=λq i j=>by
  rw[q] at c;exact c.elim (λz=>i (Zs z)) λz=>z.elim (λz=>j (Zs z))<|oE λZ z=>nomatch z
 exact a.elim (λz=>n z.1 (by decide) (by decide)) λz=>z.elim (λz=>n z.1 (by decide) (by decide)) λz=>n z.1 (by decide) (by decide)
theorem ah.Om(R:ah prog w hs h ads σ){f:QI RK}(S:au f h ads h' ads')(r:∀b∈f,∀o,h.get? b=QG o→¬fX o):bw h ads h' ads':=
 ⟨S.Pc,λa o e c=>S.Pa a o (R.Oi e c) (λd=>r a d o e c) e⟩
theorem ah.NY(R:ah prog w hs h ads σ)(S:au [] h ads h' ads'):bw h ads h' ads':=R.Om S λZ b=>nomatch b
theorem ah.Oq(R:ah prog w hs h ads σ){b:RK}(a:bF ads b):hs.get? b=none:=(R.Of b a).1
theorem ah.Oe(R:ah prog w hs h ads σ){b:RK}(a:bF ads b):(b==sysModules)=false:=
 Tp.mpr λq=>Ro (q▸(R.Of b a).2) (by decide)
theorem ah.Oc(R:ah prog w hs h ads σ):3<h.objs.size:=let⟨o,e⟩:=R.Og;SS (R.NX 3 o e)
theorem ah.Oj(R:ah prog w hs h ads σ)(f:∀b o,hs.get? b=QG o→h'.get? b=QG o)(k:bw h ads h' ads)
  (d:∀b o,bF ads b→h.get? b=QG o→h'.get? b=QG o):ah prog w hs h' ads σ:=
 ⟨f,R.Og,R.Oa,R.Of,R.Oh,λi p Z c g=>(R.NW i p _ c g).a k (λZ e=>d _ _ (ai p (Rg c) (.inl QJ)) e) λZ e=>d _ _ (ai p (Rg c) (.inr QJ)) e⟩
theorem ah.NZ(R:ah prog w hs h ads σ)(k:∀b o,h.get? b=QG o→h'.get? b=QG o):ah prog w hs h' ads σ:=
 R.Oj (λb o e=>k b o (R.NX b o e)) (aP.MM ads k).MN λb o Z e=>k b o e
theorem gq{α:Type}{l:QI α}{x q:α}{k:QN}(e:(l++[x])[k]?=QG q):(k<l.length∧l[k]?=QG q)∨(k=l.length∧q=x):=by
 (refine oO (λa=> ?_) (oO (λa=> ?_) (λa=> ?_)) (Nat.lt_trichotomy k l.length))
 ·exact .inl ⟨a,Us a▸e⟩
 ·subst a;exact .inr ⟨QJ,(QS (Ul.symm.trans e)).symm⟩
 ·rw[TZ (by rw[QW];exact a)] at e;exact aI e
theorem ah.Oo(R:ah prog w hs h ads σ){p:RK×RK}{o:AO}(D:∀b o,h.get? b=QG o→h'.get? b=QG o)
  (z:h.get? p.1=RM∧3<p.1) (A:h.get? p.2=RM∧3<p.2) (G:eL prog w h' (ads++[p]) p o):ah prog w hs h' (ads++[p]) (σ++[o]):=by
 have E:∀{b:RK},bF ads b→h.get? b≠none:=λg q=>let⟨_,e,_⟩:=R.Od g;bV (e.symm.trans q);have n:∀{a b:RK},bF ads a→h.get? b=RM→a≠b:=λx y q=>E x (q▸y);have t:∀{k:QN} {q:RK×RK},ads[k]?=QG q→bF ads q.1:=λe=>(ai _ (Rg e) (.inl QJ));have d:∀{k:QN} {q:RK×RK},ads[k]?=QG q→bF ads q.2:=λe=>(ai _ (Rg e) (.inr QJ));refine⟨λb o e=>D b o (R.NX b o e),R.Og,by rw[QW,QW,R.Oa];rfl,?_,?_,?_⟩
 ·rintro b ⟨q,c,e⟩
  (refine oO (λc=> ?_) (λc=> ?_) (mA c))
  ·exact R.Of b (ai q c e)
  ·rw[m1 c] at e
   have g:h.get? b=RM∧3<b:=e.elim (λq=>q▸z) λq=>q▸A;refine⟨?_,g.2⟩
   induction H:hs.get? b using QQ with
   |none=>rfl
   |some o=>exact bV ((R.NX b o H).symm.trans g.1)
 ·intro i j a b I g B
  (refine oO (oA λZ C=> ?_) (oA λJ l=> ?_) (gq I)<;>try subst l)
  ·(refine oO (oA λZ v=> ?_) (oA λZ m=> ?_) (gq g)<;>try subst m)
   ·exact R.Oh i j a b C v B
   ·exact(cq (n (t C) z.1) (n (t C) A.1) (n (d C) z.1) (n (d C) A.1))
  ·(refine oO (oA λZ v=> ?_) (oA λK Z=> ?_) (gq g))
   ·exact(cq ((n (t v) z.1).symm) ((n (d v) z.1).symm) ((n (t v) A.1).symm) ((n (d v) A.1).symm))
   ·exact Ro (J.trans K.symm) B
 ·intro i q L c f
  (refine oO (oA λF c=> ?_) (oA λF r=> ?_) (gq c)<;>try subst r)
  ·(refine oO (oA λZ f=> ?_) (oA λs Z=> ?_) (gq f))
   ·exact(R.NW i q L c f).a ⟨UT ..,λa o e Z=>D a o e⟩ (λZ e=>D _ _ e) λZ e=>D _ _ e
   ·exact Ro (R.Oa▸F) (s▸Ts _)
  ·(refine oO (oA λs Z=> ?_) (oA λZ u=> ?_) (gq f)<;>try subst u)
   ·exact Ro s (F▸R.Oa▸Ts _)
   ·exact G
theorem wK(ads:aH){p:RK×RK}(k:∀b o,h.get? b=QG o→h'.get? b=QG o)(n:h.get? p.1=RM)(c:h.get? p.2=RM):aP h ads h' (ads++[p]):=
 ⟨UT ..,λZ=>ag λq a e=>(mA a).imp (λa=>(ai q a e)) λa=>by rw[m1 a] at e;exact e.elim (λe=>e▸n) λe=>e▸c,k⟩
theorem ah.Ot(R:ah prog w hs h ads σ){n:QN}{p:RK×RK}{o:AO}(hp:ads[n]?=QG p)(hk:∀b o,b≠p.1→b≠p.2→h.get? b=QG o→h'.get? b=QG o)
  (ho:bw h ads h' ads→eL prog w h' ads p o):ah prog w hs h' ads (σ.set n o):=by
 have own1:bF ads p.1:=(ai p (Rg hp) (.inl QJ));have own2:bF ads p.2:=(ai p (Rg hp) (.inr QJ));have K:bw h ads h' ads:=⟨UI,λa o e hc=>hk a o (λq=>R.Oi e hc (q▸own1)) (λq=>R.Oi e hc (q▸own2)) e⟩;have st:∀{a b:RK} {o:Obj},bF ads a→hs.get? b=QG o→b≠a:=λhw e q=>by rw[q,R.Oq hw] at e;exact aI e
 refine⟨λb o e=>hk b o (st own1 e) (st own2 e) (R.NX b o e),R.Og,R.Oa.trans Vc.symm,R.Of,R.Oh,λi q ob hq hob=> ?_⟩
 by_cases hin:n=i
 ·subst hin
  obtain rfl:=QS (hp.symm.trans hq);rw[qbf (R.Oa▸(gL hp))] at hob;exact QS hob▸ho K
 ·rw[qbD hin] at hob
  have ap:=R.Oh n i p q hp hq hin;exact(R.NW i q ob hq hob).a K (λZ e=>hk _ _ (Vi ap.1) (Vi ap.2.2.1) e) λZ e=>hk _ _ (Vi ap.2.1) (Vi ap.2.2.2) e
theorem au.Pn{n:QN}{p:RK×RK}(c:ads[n]?=QG p)(k:∀b o,b≠p.1→b≠p.2→h.get? b=QG o→h'.get? b=QG o):au [] h ads h' ads:=
 ⟨UI,λZ x=>.inl x,λb o a Z e=>k b o (λq=>a (ai p (Rg c) (.inl q))) (λq=>a (ai p (Rg c) (.inr q))) e,λZ Z a=>nomatch a⟩
theorem wL(h:RI)(ads:aH)(o:Obj):aP h ads (h.push o) ads:=aP.MM ads λZ Z e=>Rw _ e
theorem dI(h:RI):h.get? h.objs.size=none:=match e:h.get? h.objs.size with
 |none=>QJ
 |some Z=>Ro (SS e) (Ts _)
end
noncomputable def pA(x:Ux):Nat:=x.cps.toList.foldl (λa c=>a*256+c) 1
noncomputable def qT:QN→QI QN→RG
 |Z,[]=>QO
 |x,y::r=>Tv x y&&qT y r
theorem LK:tF.map (λx=>pA (QF x))=iT:=by decide+kernel
theorem LJ:qT 0 (iT.drop 4)=QO∧(iT.drop 4).all (λy=>(iT.take 4).all (·!=y))=QO∧(iT.take 4).Nodup:=by decide+kernel
theorem wN:∀{l:QI QN} {x:QN},qT x l=QO→(∀y,y∈l→x<y)∧l.Nodup
 |[],Z,U=>⟨λZ h=>(nomatch h),UD⟩
 |z::r,x,h=>by
  have c:=aT h;have d:x<z:=lB c.1;have⟨a,b⟩:=wN c.2;exact⟨λy f=>(mC f).elim (λe=>e▸d) λm=>Ue d (a y m),SO.mpr ⟨λm=>Ts _ (a z m),b⟩⟩
theorem LL:iT.Nodup:=by
 have⟨a,b,c⟩:=LJ;rw[←Vu 4 iT];exact VY.mpr (aL c ((wN a).2) λx d y f e=>VK.mp (SX.mp (SX.mp b y f) x d) e)
theorem pD{c:QN}{x:Ux}(h:bj c=QG x):iT[c]?=QG (pA x):=by
 (refine ag (λy a e=> ?_) (mS h);subst e)
 rw[←LK,Rn,a];rfl
theorem jG{a b:QN}{x:Ux}(c:bj a=QG x)(d:bj b=QG x):a=b:=
 (qcz (Te.mp (pD c)).1 LL).mp ((pD c).trans (pD d).symm)
theorem tG{c:QN}{x y:Ux}(h:bj c=QG x)(a:iT.all (λk=>k !=pA y)=QO):(x==y)=false:=
 Tp.mpr λq=>VK.mp (SX.mp a _ (Rg (pD h))) (RH pA q)
def gY(h:RI)(env:Wq)(x:Ux)(v:QU):Prop:=
 (env.kindOf x=QG .local∧∃m,h.Ns env.locals m∧m x=QG v)∨
 ((env.kindOf x=QG .cell∨env.kindOf x=QG .free)∧∃a,env.cells.lookup x=QG a∧h.IsCell a (QG v))
def tc(env:Wq)(x:Ux):Prop:=env.kindOf x=QG .local∨env.kindOf x=QG .cell∨env.kindOf x=QG .free
structure aw(hs h:RI)(ads:aH)(env:Wq)(ρ:ay):Prop where
 Ov:env.scope.kind=.function
 OA:env.globals=Un
 Oz:env.builtins=YE
 ns:∃m,h.Ns env.locals m
 OB:∀(c:QN) (x:Ux) (pv:PV),bj c=QG x→tc env x→ρ.lookup c=QG pv→∃v,av h ads pv v∧gY h env x v
 Ou:∀x a,env.cells.lookup x=QG a→(∃v,h.IsCell a v)∧¬bF ads a∧hs.get? a=RM∧a≠env.locals
 inj:∀x y a,env.cells.lookup x=QG a→env.cells.lookup y=QG a→x=y
 Ow:¬bF ads env.locals∧hs.objs.size≤env.locals
noncomputable def eh(env:Wq):QI Addr:=env.locals::env.cells.filterMap λp=>env.cells.lookup p.1
theorem xC{α B:Type}[BEq α][qcg α]{x:α}{a:B}:∀{l:QI (α×B)},l.lookup x=QG a→∃p∈l,p.1=x
 |p::Z,h=>by
  rw[Tn] at h
  induction b:x==p.1 using QL with
  |true=>exact(ai p (.head _) ((Sk.mp b).symm))
  |false=>rw[b] at h;exact(xC h).imp λq y=>⟨.tail _ y.1,y.2⟩
theorem nJ{env:Wq}{x:Ux}{a:RK}(h:env.cells.lookup x=QG a):a∈eh env:=
 QV _ (qcd.mpr (let⟨p,m,e⟩:=xC h;⟨p,m,e.symm▸h⟩))
theorem nK{env:Wq}{b:RK}(h:b∈eh env):b=env.locals∨∃x,env.cells.lookup x=QG b:=
 (mC h).imp id λh=>let⟨p,_,e⟩:=qcd.mp h;⟨p.1,e⟩
theorem vQ{o:Obj}(f:fX o):(∀a p,o.data≠.dict a p)∧∀v,o.data≠.cell v:=
 f.elim (λx=>x.2.elim λZ y=>y.elim λZ e=>⟨λZ Z q=>(nomatch e.symm.trans q),λZ q=>(nomatch e.symm.trans q)⟩) λf=>
 f.elim (λx=>x.2.elim λZ y=>y.elim λZ y=>y.elim λZ e=>⟨λZ Z q=>(nomatch e.symm.trans q),λZ q=>(nomatch e.symm.trans q)⟩) λx=>x.2.elim λZ e=>⟨λZ Z q=>(nomatch e.symm.trans q),λZ q=>(nomatch e.symm.trans q)⟩
theorem rK{h:RI}{a:RK}{m:Ux→Rz QU}(n:h.Ns a m){o:Obj}(e:h.get? a=QG o):¬fX o:=λf=>by
 (revert n;refine gO λc g p b d Z=> ?_)
 exact(vQ f).1 _ _ (QS (b.symm.trans e)▸d)
theorem uT{h:RI}{a:RK}{v:Rz QU}(n:h.IsCell a v){o:Obj}(e:h.get? a=QG o):¬fX o:=λf=>
 n.elim λZ y=>(vQ f).2 _ (QS (y.1.symm.trans e)▸y.2)
section
variable{prog:RP}{w:Sn}{hs h h':RI}{ads ads':aH}{σ σ':af}{env:Wq}{ρ:ay}
theorem gY.a{x:Ux}{v:QU}(H:gY h env x v)(b:∀o,h.get? env.locals=QG o→h'.get? env.locals=QG o)
  (c:∀a,env.cells.lookup x=QG a→∀o,h.get? a=QG o→h'.get? a=QG o):gY h' env x v:=
 H.imp (λy=>⟨y.1,y.2.imp λZ z=>⟨z.1.at' b,z.2⟩⟩) λy=>⟨y.1,y.2.imp λa z=>⟨z.1,z.2.imp λo g=>⟨c a z.1 o g.1,g.2⟩⟩⟩
theorem aw.OE{r:QI RK}(E:aw hs h ads env ρ)(S:au r h ads h' ads')(K:bw h ads h' ads')(d:env.locals∉r)(f:∀x a,env.cells.lookup x=QG a→a∉r):aw hs h' ads' env ρ:=by
 have L:∀o,h.get? env.locals=QG o→h'.get? env.locals=QG o:=λo e=>S.Pa _ o E.Ow.1 d e;have C:∀x a,env.cells.lookup x=QG a→∀o,h.get? a=QG o→h'.get? a=QG o:=λx a l o e=>S.Pa _ o (E.Ou x a l).2.1 (f x a l) e
 exact⟨E.Ov,E.OA,E.Oz,E.ns.imp λZ n=>n.at' L,λc x v i b j=>(E.OB c x v i b j).imp λZ y=>⟨av.a K _ y.1,y.2.a L (C x)⟩,
  λx a l=>(E.Ou x a l).imp (λy=>y.imp λZ z=>z.imp λo g=>⟨C x a l o g.1,g.2⟩) λy=>⟨(E.Ou x a l).1.elim λZ z=>z.elim λZ g=>S.Pf y.1 g.1,y.2⟩,
  E.inj,E.ns.elim λZ n=>n.elim λZ z=>z.elim λZ z=>z.elim λZ z=>S.Pf E.Ow.1 z.1,E.Ow.2⟩
theorem aw.Oy(E:aw hs h ads env ρ)(S:au [] h ads h' ads')(R:ah prog w hs h ads σ):aw hs h' ads' env ρ:=
 E.OE S (R.NY S) (λz=>nomatch z) λZ Z Z z=>nomatch z
theorem aw.Ox(E:aw hs h ads env ρ)(k:∀b o,h.get? b=QG o→h'.get? b=QG o):aw hs h' ads env ρ:=
 E.OE ((aP.MM ads k).MP []) (aP.MM ads k).MN (λz=>nomatch z) λZ Z Z z=>nomatch z
theorem aw.OF{a:ay}(E:aw hs h ads env ρ)(e:∀c v,a.lookup c=QG v→ρ.lookup c=QG v):aw hs h ads env a:=
 ⟨E.Ov,E.OA,E.Oz,E.ns,λc x v d b r=>E.OB c x v d b (e c v r),E.Ou,E.inj,E.Ow⟩
theorem aw.OD(E:aw hs h ads env ρ):hs.objs.size≤h.objs.size:=
 E.ns.elim λZ n=>n.elim λZ z=>z.elim λZ z=>z.elim λZ z=>Sm (Rp E.Ow.2 (SS z.1))
theorem Eb(E:aw hs h ads env ρ){x:Ux}{a:RK}(b:a=env.locals∨env.cells.lookup x=QG a){o:Obj}(e:h.get? a=QG o):¬fX o:=
 b.elim (λq=>E.ns.elim λZ n=>rK n (q▸e)) λq=>(E.Ou x a q).1.elim λZ n=>uT n e
theorem vS(R:ah prog w hs h ads σ)(E:aw hs h ads env ρ){x:Ux}{a:RK}{i:QI RK}(r:a∈i)(c:a=env.locals∨env.cells.lookup x=QG a)(j:Su a h h')(l:∃o,h'.get? a=QG o):
  ah prog w hs h' ads σ∧au i h ads h' ads∧bw h ads h' ads:=by
 have d:¬bF ads a:=c.elim (λq=>q▸E.Ow.1) λq=>(E.Ou x a q).2.1;have t:∀{b:RK} {o:Obj},hs.get? b=QG o→b≠a:=λ{b o} e q=>c.elim (λz=>Ro (SS (q.trans z▸e)) (TO.mpr E.Ow.2)) λz=>bV ((q▸e:hs.get? a=QG o).symm.trans (E.Ou x a z).2.2.1);have k:∀b o,b≠a→h.get? b=QG o→h'.get? b=QG o:=λb o n e=>(j.2 b n).trans e;have K:bw h ads h' ads:=⟨UI,λb o e f=>k b o (λq=>Eb E c (q▸e) f) e⟩
 exact(aL (R.Oj (λb o e=>k b o (t e) (R.NX b o e)) K λb o g e=>k b o (λq=>d (q▸g)) e)
  ⟨UI,λZ z=>.inl z,λb o Z m e=>k b o (λq=>m (q▸r)) e,λb o Z e=>(Wx (b=a)).elim (λq=>q▸l) λq=>⟨o,k b o q e⟩⟩ K)
end
theorem xJ{c:QN}{x:Ux}(a:bj c=QG x):(x==("__debug__" :Ux))=false:=tG a (by decide+kernel)
theorem HH{c:QN}{x:Ux}(a:bj c=QG x):(x==("__classdict__" :Ux))=false:=tG a (by decide+kernel)
section
variable{prog:RP}{w:Sn}{hs:RI}{ads ads':aH}{σ σ':af}{env:Wq}{ρ:ay}{A:SY}{E:QU→QZ→Prop}{s:QZ}
theorem GG{c:QN}{x:Ux}{pos:Xv}{p:PV}{Q:QU→QZ→Prop}(a:bj c=QG x)(b:tc env x)(ER:aw hs s.heap ads env ρ)(r:ρ.lookup c=QG p)
  (h:∀v,av s.heap ads p v→Q v s):Rh (Rf prog w) A (US (.Name x pos) env) Q E s:=
 (ER.OB c x p a b r).elim λv y=>wpAny_Name (y.2.elim (λz=>z.2.elim λZ g=>wpAny_loadName_local ER.Ov z.1 g.1 g.2 (h v y.1)) λz=>
  z.2.elim λZ g=>z.1.elim (λk=>wpAny_loadName_cell ER.Ov k g.1 g.2 (h v y.1)) λk=>wpAny_loadName_free ER.Ov k g.1 g.2 (h v y.1) (HH a)) (xJ a)
def tA(e:QI (Ux×WO))(cells:QI (Ux×RK))(x:Ux):Prop:=
 e.lookup x=QG .local∨(e.lookup x=QG .cell∧∃a,cells.lookup x=QG a)
def oU(env:Wq)(x:Ux)(r:QI RK):Prop:=(env.scope.names.lookup x=QG .local→env.locals∈r)∧(env.scope.names.lookup x=QG .cell→∀a,env.cells.lookup x=QG a→a∈r)
theorem oV(env:Wq)(x:Ux):oU env x (eh env):=⟨λZ=>QM ..,λZ Z h=>nJ h⟩
theorem xD{c a:QN}{p v:PV}(e:Wy a ((c,p)::ρ)=QG v):(a=c∧v=p)∨(a≠c∧ρ.lookup a=QG v):=by
 rw[Tn] at e
 induction q:a==c using QL with
 |true=>rw[q] at e;exact .inl ⟨Sk.mp q,(QS e).symm⟩
 |false=>rw[q] at e;exact .inr ⟨Tp.mp q,e⟩
theorem aw.OH{h h':RI}{c:QN}{x:Ux}{v:QU}{g:PV}(ER:aw hs h ads env ρ)(i:bj c=QG x)(K:bw h ads h' ads)(r:av h ads g v)(n:gY h' env x v)(ns:∃m,h'.Ns env.locals m)
  (cells:∀y b,env.cells.lookup y=QG b→∃v,h'.IsCell b v) (o:∀y v,y≠x→gY h env y v→gY h' env y v):aw hs h' ads env ((c,g)::ρ):=
 ⟨ER.Ov,ER.OA,ER.Oz,ns,λj e p d f k=>(xD k).elim
   (λy=>(ai v (y.2▸av.a K _ r) ((QS (i.symm.trans (y.1▸d)):x=e)▸n)))
   λy=>(ER.OB j e p d f y.2).imp λt z=>⟨av.a K _ z.1,o e t (λq=>y.1 (jG (q▸d) i)) z.2⟩,
  λy b l=>⟨cells y b l,(ER.Ou y b l).2⟩,ER.inj,ER.Ow⟩
theorem Lp{c:QN}{x:Ux}{v:QU}{I:PV}{Q:UE→QZ→Prop}(J:bj c=QG x)(u:tA env.scope.names env.cells x){B:QI RK}(r:oU env x B)(R:ah prog w hs s.heap ads σ)(ER:aw hs s.heap ads env ρ)(L:av s.heap ads I v)
  (h:∀h' tk,ah prog w hs h' ads σ→aw hs h' ads env ((c,I)::ρ)→au B s.heap ads h' ads→bw s.heap ads h' ads→(∀b o,b∉B→s.heap.get? b=QG o→h'.get? b=QG o)→Q () {s with heap:=h',toks:=tk}):
  Rh (Rf prog w) A (storeName env x v) Q E s:=by
 (revert u;refine oO (λk=> ?_) (kX λk a l=> ?_))
 ·refine oE (λm n=> ?_) (ER.ns)
  refine wpAny_storeName_local k n (λh' t d=> ?_) (by rw[ER.Ov];rfl);refine bk (λC S K=> ?_) (vS (x:=x) R ER (r.1 k) (.inl QJ) d (t.imp λZ z=>z.elim λZ z=>z.elim λZ z=>z.1));refine h h' _ C (ER.OH J K L (.inl (cE k _ t (by simp))) ⟨_,t⟩ (λy b p=>(ER.Ou y b p).1.imp λZ z=>z.imp λZ g=>⟨(d.2 b (ER.Ou y b p).2.2.2).trans g.1,g.2⟩) λy T f H=> ?_) S K λb o D e=>(d.2 b λq=>D (q▸r.1 k)).trans e;refine H.imp (λz=>(cE z.1 _ t ?_)) λz=>⟨z.1,z.2.imp λb g=>⟨g.1,g.2.imp λZ q=>⟨(d.2 b (ER.Ou y b g.1).2.2.2).trans q.1,q.2⟩⟩⟩;refine ag (λm' F e=> ?_) (z.2)
  (revert n;refine fg λo1 U V W X Z Y=> ?_)
  (revert F;refine fg λo2 a0 a1 M N Z f2=> ?_)
  rw[W] at M;cases M;rw[X] at N;cases N;simp only[SK f];rw[←Y,f2];exact e
 ·(refine cY (λi Z Z G=> ?_) (ER.Ou x a l);revert i;refine oE λO ic=> ?_)
  refine wpAny_storeName_cell ER.Ov k l ic λh' j d=> ?_;refine bk (λC S K=> ?_) (vS R ER (r.2 k a l) (.inr l) d (j.imp λZ z=>z.1));have P:∀o,s.heap.get? env.locals=QG o→h'.get? env.locals=QG o:=λo e=>(d.2 _ (Vi G)).trans e;refine h h' _ C (ER.OH J K L (.inr (cE (.inl k) a l j)) (ER.ns.imp λZ n=>n.at' P) (λy b p=> ?_) λy T f H=>H.a P λb p o e=>(d.2 b λq=>f (ER.inj y x a (q▸p) l)).trans e) S K λb o D e=>(d.2 b λq=>D (q▸r.2 k a l)).trans e;exact(Wx (b=a)).elim (λq=>⟨_,q▸j⟩) λq=>(ER.Ou y b p).1.imp λZ z=>z.imp λZ g=>⟨(d.2 b q).trans g.1,g.2⟩
end
structure br(A:SY)(d:QN):Prop where
 Qh:A.handled=RM
 Qj:A.depth+d≤900
 Qi:A.units+8*d≤9000
theorem br.eq{A:SY}{d:QN}(h:br A d):A.units+64<cLine:=by rw[cLine_is];exact Rp (RR (Vp h.Qi) 64) (by decide)
theorem br.le{A:SY}{d a:QN}(h:br A d)(b:a≤d):br A a:=⟨h.Qh,by have:=h.Qj;exact QK (Si b _) this,QK (Si (Td 8 b) _) h.Qi⟩
theorem dT{n:QN}(h:n≤aR):n≤sizeLine:=by rw[WN];exact QK h (by decide)
def SP(prog:RP)(w:Sn)(hs:RI){α β:Type}(q:RG)(s:QZ)(ads:aH)(σ:af)(m:M α)(W:(β→QZ→Prop)→Prop)(RV:RI→aH→α→β→Prop):Prop:=
 ∀a t,m σ=QG (a,t)→∀Q:β→QZ→Prop,(∀v b d k,ah prog w hs b d t→Mv q s.heap ads b d→RV b d a v→Q v {s with heap:=b,toks:=k})→W Q
section
variable{prog:RP}{w:Sn}{hs:RI}{α β γ δ:Type}{q:RG}{s:QZ}{ads:aH}{σ:af}{m:M α}{f:α→M γ}{W W':(β→QZ→Prop)→Prop}{RV:RI→aH→α→β→Prop}
theorem SP.i{W₂:β→QZ→(δ→QZ→Prop)→Prop}{g:RI→aH→γ→δ→Prop}(n:SP prog w hs q s ads σ m W RV)
  (l:∀a v c d tk σ',ah prog w hs c d σ'→Mv q s.heap ads c d→RV c d a v→SP prog w hs q {s with heap:=c,toks:=tk} d σ' (f a) (W₂ v {s with heap:=c,toks:=tk}) g):
  SP prog w hs q s ads σ (m.a f) (λQ=>W λv o=>W₂ v o Q) g:=λb j e Q H=>by
 refine ag (λp u y=> ?_) (bS e);exact n p.1 p.2 u _ λv c d tk R M r=>l p.1 v c d tk p.2 R M r b j y Q λz l k t B C D=>H z l k t B (M.Qs C) D
theorem SP.j(h:∀Q,W Q→W' Q)(x:SP prog w hs q s ads σ m W RV):SP prog w hs q s ads σ m W' RV:=λa t e Q H=>h Q (x a t e Q H)
theorem SP.b:SP prog w hs q s ads σ .g W RV:=λZ Z e=>aI e
theorem SP.a{a:α}{v:β}{tk:QN}(R:ah prog w hs s.heap ads σ)(r:RV s.heap ads a v)(h:∀Q,Q v {s with toks:=tk}→W Q):SP prog w hs q s ads σ (.b a) W RV:=λZ Z e Q H=>by
 (refine oA (λc d=> ?_) (sP e);subst c;revert d;intro g;subst g)
 exact h Q (H v s.heap ads tk R (Mv.Qr ..) r)
theorem SP.y{a:α}{v:β}{i:RI}{tk:QN}(k:∀b o,s.heap.get? b=QG o→i.get? b=QG o)(R:ah prog w hs s.heap ads σ)(r:RV i ads a v)(h:∀Q,Q v {s with heap:=i,toks:=tk}→W Q):
  SP prog w hs q s ads σ (.b a) W RV:=λZ Z e Q H=>by
 (refine oA (λc d=> ?_) (sP e);subst c;revert d;intro g;subst g)
 exact h Q (H v i ads tk (R.NZ k) ((aP.MM ads k).mv q) r)
theorem SP.c{b:RG}(h:b=QO→SP prog w hs q s ads σ m W RV):SP prog w hs q s ads σ (.c b m) W RV:=by
 induction b using QL with
 |true=>exact h QJ
 |false=>exact SP.b
end
section
variable{prog:RP}{w:Sn}{hs:RI}{γ δ:Type}{q:RG}{s:QZ}{ads:aH}{σ:af}{V:QU→(δ→QZ→Prop)→Prop}{W:(δ→QZ→Prop)→Prop}{RV:RI→aH→γ→δ→Prop}{x:PV}{v:QU}{h:RI}{A:aH}
theorem SP.t{α:Type}{o:Rz α}{f:α→M γ}(k:∀a,o=QG a→SP prog w hs q s ads σ (f a) W RV):SP prog w hs q s ads σ ((M.h o).a f) W RV:=by
 induction o using QQ with
 |none=>exact SP.b
 |some a=>exact k a QJ
theorem SP.n{o:Rz γ}(k:∀a,o=QG a→SP prog w hs q s ads σ (.b a) W RV):SP prog w hs q s ads σ (M.h o) W RV:=by
 induction o using QQ with
 |none=>exact SP.b
 |some a=>exact k a QJ
theorem SP.g{f:RW→M γ}(r:av h A x v)(k:∀i t,SP prog w hs q s ads σ (f i) (V (.int i t)) RV):SP prog w hs q s ads σ ((cw x).a f) (V v) RV:=by
 induction x using PV.casesOn with
 |A i=>exact r.elim λt e=>e▸k i t
 |_=>exact SP.b
theorem SP.D{f:RG→M γ}(r:av h A x v)(k:∀b,SP prog w hs q s ads σ (f b) (V (.bool b)) RV):SP prog w hs q s ads σ ((bI x).a f) (V v) RV:=by
 induction x using PV.casesOn with
 |D b=>exact(show v=.bool b from r)▸k b
 |_=>exact SP.b
theorem SP.r{f:QN→M γ}(r:av h A x v)(k:∀(i:QN) t,SP prog w hs q s ads σ (f i) (V (.int i t)) RV):SP prog w hs q s ads σ ((fw x).a f) (V v) RV:=by
 induction x using PV.casesOn with
 |A i=>
  induction i using Int.casesOn with
  |ofNat n=>exact r.elim λt e=>e▸k n t
  |negSucc n=>exact SP.b
 |_=>exact SP.b
theorem SP.p{f:QN→M γ}(r:av h A x v)(k:∀n p,A[n]?=QG p→SP prog w hs q s ads σ (f n) (V (.ref p.1)) RV):SP prog w hs q s ads σ ((eA x).a f) (V v) RV:=by
 induction x using PV.casesOn with
 |B n=>exact r.elim λp e=>e.2▸k n p e.1
 |_=>exact SP.b
theorem SP.k{n:QN}{f:AO→M γ}(k:∀o,σ[n]?=QG o→SP prog w hs q s ads σ (f o) W RV):SP prog w hs q s ads σ ((M.f n).a f) W RV:=by
 induction e:σ[n]? using QQ with
 |none=>exact λZ Z b=>by simp[M.f,M.a,e] at b
 |some o=>exact λa t b=>k o e a t (by simpa[M.f,M.a,e] using b)
theorem SP.o{f:QI PV→M γ}(R:ah prog w hs s.heap ads σ)(r:av s.heap ads x v)(k:∀(n:QN) (p:RK×RK) (l:QI PV) (vs:QI QU),ads[n]?=QG p→σ[n]?=QG (.A l)→p.2=p.1→s.heap.PlainList p.1 (VX vs)→aA s.heap ads l vs→l.length≤aR→SP prog w hs q s ads σ (f l) (V (.ref p.1)) RV):
  SP prog w hs q s ads σ ((bZ x).a f) (V v) RV:=by
 have:(bZ x).a f=(eA x).a λn=>(M.f n).a λo=>(eN o).a f:=by
  funext σ;simp[bZ,M.a,YY]
 rw[this];refine SP.p r λn p c=>SP.k λo d=> ?_
 induction o using AO.casesOn with
 |A l=>exact cj (λe vs g i j=>k n p l vs c d e g i j) (R.NW n p _ c d)
 |_=>exact SP.b
theorem SP.J{f:QI PV→M γ}(r:av h A x v)(k:∀a l vs,qbq h a (VX vs)→aA h A l vs→l.length≤aR→x=.F l→SP prog w hs q s ads σ (f l) (V (.ref a)) RV):SP prog w hs q s ads σ ((uA x).a f) (V v) RV:=by
 induction x using PV.casesOn with
 |F l=>exact by revert r;exact yp λa o vs n e g c d i z=>e▸k a l vs (gF o g c n d) i z QJ
 |_=>exact SP.b
theorem SP.H{f:QN→M γ}(r:av h A x v)(k:∀a m,cC h a m→SP prog w hs q s ads σ (f m) (V (.ref a)) RV):SP prog w hs q s ads σ ((jO x).a f) (V v) RV:=by
 induction x using PV.casesOn with
 |H m=>
  show SP prog w hs q s ads σ ((M.c (Tv m qL) (.b m)).a f) (V v) RV;generalize Tv m qL=b
  (revert r;refine ag λc e g=> ?_;subst e)
  induction b using QL with
  |true=>exact k c m g
  |false=>exact SP.b
 |_=>exact SP.b
end
section
variable{prog:RP}{w:Sn}{hs:RI}{q:RG}{s:QZ}{ads:aH}{σ:af}{W:(QU→QZ→Prop)→Prop}
theorem SP.B{o:AO}{p:RK×RK}{d:RI}{tk:QN}(R:ah prog w hs s.heap ads σ)(k:∀b o,s.heap.get? b=QG o→d.get? b=QG o)(n:s.heap.get? p.1=RM∧3<p.1)(g:s.heap.get? p.2=RM∧3<p.2)
  (i:eL prog w d (ads++[p]) p o) (h:∀Q,Q (.ref p.1) {s with heap:=d,toks:=tk}→W Q):SP prog w hs q s ads σ (.j o) W av:=λZ Z e Q H=>by
 (refine oA (λa r=> ?_) (sP e);subst a;revert r;intro c;subst c)
 exact h Q (H _ d (ads++[p]) tk (R.Oo k n g i) ((wK ads k n.1 g.1).mv q) (ai p (R.Oa▸Ul) QJ))
theorem SP.z{l:QI PV}{vs:QI QU}{n tk:QN}(R:ah prog w hs s.heap ads σ)(r:aA s.heap ads l vs)
  (h:l.length≤aR→∀Q,Q (.ref s.heap.objs.size) {s with heap:=s.heap.push {cls:=.type "list",data:=.seq vs.toArray n},toks:=tk}→W Q):SP prog w hs q s ads σ (cR l) W av:=
 SP.c λa=>SP.B (p:=(s.heap.objs.size,s.heap.objs.size)) R (λZ Z e=>Rw _ e) ⟨dI _,R.Oc⟩ ⟨dI _,R.Oc⟩
  (cW QJ vs ⟨n,RY _ QJ⟩ (aA.b ⟨UT ..,λZ Z e Z=>Rw _ e⟩ l r) (lB a)) (h (lB a))
theorem SP.L{l:QI PV}{vs:QI QU}{n tk:QN}(R:ah prog w hs s.heap ads σ)(r:aA s.heap ads l vs)
  (h:l.length≤aR→∀Q,Q (.ref s.heap.objs.size) {s with heap:=s.heap.push {cls:=.type "tuple",data:=.seq vs.toArray n},toks:=tk}→W Q):SP prog w hs q s ads σ (iN l) W av:=
 SP.c λa=>SP.y (λZ Z e=>Rw _ e) R (jn _ _ vs n QJ (RY _ QJ) QJ QJ (aA.b (wL _ _ _).MN l r) (lB a)) (h (lB a))
theorem SP.u{o:AO}{n:QN}{p:RK×RK}{g:RI}{tk:QN}{β:Type}{v:β}{W:(β→QZ→Prop)→Prop}{RV:RI→aH→PV→β→Prop}(R:ah prog w hs s.heap ads σ)(j:ads[n]?=QG p)
  (k:∀b o,b≠p.1→b≠p.2→s.heap.get? b=QG o→g.get? b=QG o) (t:bw s.heap ads g ads→eL prog w g ads p o) (r:RV g ads .G v) (h:∀Q,Q v {s with heap:=g,toks:=tk}→W Q):
  SP prog w hs QR s ads σ (.i n o) W RV:=λZ Z e Q H=>by
 unfold M.i at e
 induction l:Tv n σ.length using QL with
 |false=>rw[l] at e;exact aI e
 |true=>
  rw[l] at e
  (refine oA (λa c=> ?_) (sP e);subst a;revert c;intro d;subst d)
  exact h Q (H v g ads tk (R.Ot j k t) (au.Pn j k).mv r)
end
mutual
noncomputable def toP:D→PyData
 | .G=>.none
 | .D b=>.bool b
 | .C i=>.int i
 | .A c=>.str ((bj c).getD WR)
 | .B l=>.tuple (toPs l)
 | .F l=>.list (toPs l)
noncomputable def toPs:QI D→QI PyData
 |[]=>[]
 |d::r=>toP d::toPs r
end
mutual
noncomputable def mr:D→Prop
 | .A c=>∃x,bj c=QG x
 | .B l=>kd l
 | .F l=>kd l
 | .G=>YB
 | .D Z=>YB
 | .C Z=>YB
noncomputable def kd:QI D→Prop
 |[]=>YB
 |d::r=>mr d∧kd r
end
theorem LA{c:QN}{x:Ux}(h:bj c=QG x):qdy x=true:=by
 have k:(tF.all λy=>qdy (QF y))=true:=by decide+kernel
 (refine ag (λy a e=> ?_) (mS h);subst e)
 exact SX.mp k y (Rg a)
theorem Br{α:Type}[BEq α][qcg α]{a b:α}{β:Type}[BEq β][qcg β]{c d:β}(h:a=b↔c=d):(a==b)=(c==d):=by
 rw[Ud,Sk,Sk];exact h
mutual
theorem qu:∀(a b:D),mr a→mr b→YL (toP a) (toP b)=bY a b
 | .G,b,Z,U=>by induction b using D.casesOn<;>rfl
 | .D x,b,Z,U=>by
  induction b using D.casesOn with
  |C y=>induction x using QL<;>rfl
  |_=>rfl
 | .C x,b,Z,U=>by
  induction b using D.casesOn with
  |D y=>induction y using QL<;>rfl
  |_=>rfl
 | .A x,b,c,d=>by
  induction b using D.casesOn with
  |A y=>
   (revert c;refine oE λu e=> ?_)
   (revert d;refine oE λv g=> ?_)
   show((bj x).getD WR==(bj y).getD WR)=(x==y);rw[e,g];exact Br ⟨λq=>jG e ((show u=v from q)▸g),λq=>QS (e.symm.trans (q▸g))⟩
  |_=>rfl
 | .B x,b,c,d=>by
  induction b using D.casesOn with
  |B y=>exact qw x y c d
  |_=>rfl
 | .F x,b,c,d=>by
  induction b using D.casesOn with
  |F y=>exact qw x y c d
  |_=>rfl
theorem qw:∀(a b:QI D),kd a→kd b→qdc (toPs a) (toPs b)=je a b
 |[],b,Z,U=>by induction b using Rm<;>rfl
 |x::r,b,c,d=>by
  induction b using Rm with
  |nil=>rfl
  |cons y t=>show(YL (toP x) (toP y)&&qdc (toPs r) (toPs t))=(bY x y&&je r t);rw[qu x y c.1 d.1,qw r t c.2 d.2]
end
structure Rd(h:RI)(n:QN)(v:QU)(d:D):Prop where
 ok:mr d
 PX:(toP d).canLay0=QO
 PW:(toP d).depth≤n
 PR:∃as,Reads h v (toP d) as
structure dP(h:RI)(n:QN)(vs:QI QU)(ds:QI D):Prop where
 ok:kd ds
 PC:qbK (toPs ds)=QO
 PG:qct (toPs ds)≤n
 PD:∃as,ReadsAll h vs (toPs ds) as
section
variable{prog:RP}{w:Sn}{hs:RI}{ads:aH}{σ:af}{h:RI}
theorem pV{n:QN}{f:PV→Rz D}(c:∀(v:QU) (p:PV) (d:D),av h ads p v→f p=QG d→Rd h n v d):∀(l:QI PV) (vs:QI QU) (ds:QI D),aA h ads l vs→cP f l=QG ds→dP h n vs ds
 |[],Z,U,r,e=>by
  cases e
  cases (show _=[] from r)
  exact⟨Tu,QJ,RQ _,_,ReadsAll.nil⟩
 |x::t,Z,U,z,e=>by
  revert z;refine cm λZ Z g i j=> ?_;subst g;refine ag (λd k o=> ?_) (bS e);refine ag (λC u B=> ?_) (mS o);subst B;have a:=c _ _ _ i k;have b:=pV c t _ _ j u;exact⟨⟨a.ok,b.ok⟩,Sv.mpr ⟨a.PX,b.PC⟩,Nat.max_le.mpr ⟨a.PW,b.PG⟩,a.PR.elim λZ x=>b.PD.elim λZ y=>⟨_,ReadsAll.cons x y⟩⟩
theorem toD_reads(R:ah prog w hs h ads σ):∀(n:QN) (v:QU) (J:PV) (d:D),av h ads J v→toD σ n J=QG d→Rd h n v d
 |0,Z,U,Y,O,e=>aI e
 |n+1,v,J,d,r,e=>by
  refine have S:=pV (toD_reads R n);?_
  induction J using PV.casesOn with
  |G=>cases e;cases (show _=YO from r);exact⟨Tu,QJ,RQ _,_,Reads.none⟩
  |D b=>cases e;cases (show _=Value.bool b from r);exact⟨Tu,QJ,RQ _,_,Reads.bool _⟩
  |A i=>cases e;exact r.elim λZ q=>q▸⟨Tu,QJ,RQ _,_,Reads.int _ _⟩
  |C c=>
   cases e
   (revert r;refine bq λx t K j=> ?_;subst j)
   refine have:toP (.A c)=.str x:=RH (λ(o:Rz Ux)=>PyData.str (o.getD WR)) K;?_;exact⟨⟨x,K⟩,by rw[this];exact LA K,by rw[this];exact RQ _,by rw[this];exact⟨_,Reads.str _ _⟩⟩
  |F l=>
   (refine ag (λL N u=> ?_) (mS e);subst u)
   (revert r;refine cv λa o P m y z=> ?_;subst y;revert z;refine eu λg c T Q Z=> ?_)
   refine have k:=S l P L Q N;?_;exact⟨k.ok,k.PC,Tg k.PG,k.PD.imp λZ x=>qbp g c T x⟩
  |B k=>
   (revert r;refine ag λp X E=> ?_;subst E)
   refine ag (λo ho e=> ?_) (bS e)
   induction o using AO.casesOn with
   |A l=>
    (refine ag (λL N H=> ?_) (mS e);subst H)
    (refine cj (λZ P I Q Z=> ?_) (R.NW k p _ X ho);revert I;refine oE λm g=> ?_)
    refine have k:=S l P L Q N;?_;exact⟨k.ok,k.PC,Tg k.PG,k.PD.elim λZ x=>⟨_,qbN g QJ QJ x⟩⟩
   |_=>exact aI e
  |_=>exact aI e
theorem Rd.PU{v:QU}{d:D}(k:Rd h 16 v d):SeqAt.shaped (toP d)=true:=Sv.mpr ⟨k.PX,Ry (QK k.PW (by decide))⟩
end
noncomputable def aF.py:aF→qbn
 | .A=>.Add| .B=>.Sub| .F=>.Mult| .G=>.FloorDiv| .C=>.Mod
 | .H=>.BitAnd| .D=>.BitOr| .I=>.BitXor
noncomputable def aj.py:aj→qaP
 | .A=>.Eq| .C=>.NotEq| .G=>.Lt| .J=>.LtE| .H=>.Gt| .K=>.GtE
 | .F=>.Is| .I=>.IsNot| .B=>.In| .D=>.NotIn
def eU(h a:RI):Prop:=∀b o,h.get? b=QG o→a.get? b=QG o
def pQ(prog:RP)(w:Sn)(f:QN→QN→QN)(op:qbn):Prop:=∀(A:SY) (E:QU→QZ→Prop) (s:QZ) (a b:RK) (x y:QN) (Q:QU→QZ→Prop),
 cC s.heap a x→cC s.heap b y→A.handled=RM→
 (∀v h k,eU s.heap h→cC h v (f x y)→Q (.ref v) {s with heap:=h,toks:=k})→Rh (Rf prog w) A (TY op (.ref a) (.ref b)) Q E s
structure dD(prog:RP)(w:Sn):Prop where
 or:pQ prog w (λx y=>x|||y) .BitOr
 QA:pQ prog w (λx y=>x&&&(x^^^y)) .Sub
 ne:∀(A:SY) (E:QU→QZ→Prop) (s:QZ) (a b:RK) (x y:QN) (Q:QU→QZ→Prop),cC s.heap a x→cC s.heap b y→A.handled=RM→A.units<cLine→
  (∀h' tk,eU s.heap h'→Q (.bool (!(x==y))) {s with heap:=h',toks:=tk})→Rh (Rf prog w) A (TH .NotEq (.ref a) (.ref b)) Q E s
 Qz:∀(A:SY) (E:QU→QZ→Prop) (s:QZ) (a:RK) (x i:QN) (t:Tok) (Q:QU→QZ→Prop),cC s.heap a x→A.handled=RM→i<1000→
  (∀tk,Q (.bool (x.testBit i)) {s with toks:=tk})→Rh (Rf prog w) A (TH .In (.int i t) (.ref a)) Q E s
theorem wX{z:RW}(h:dY z=QO):Builtin.Int.intBits z≤64:=by
 have:=Rl h;exact intBits_le_64 (Zn (by decide) this.1) (Zn this.2 (by decide))
theorem uQ:(2:RW)^63=((9223372036854775808:QN):RW):=by decide
theorem AJ{n:QN}(h:(n:RW)<2^63):n<2^64:=Ue (Ug.mp (uQ▸h)) (by decide)
theorem AL{n:QN}(h: -(2^63)≤-((n+1:QN):RW)):n+1<2^64:=Rp (Sz.mp (uQ▸Int.neg_le_neg_iff.mp h)) (by decide)
theorem AI{y:RW}(h: -(2^63)≤y∧y<2^63):y.natAbs<2^64:=by
 cases y with
 |ofNat n=>exact AJ h.2
 |negSucc n=>exact AL h.1
theorem xN{x y:RW}(h:dY y=QO):ZG x y=false:=by
 have h:=Rl h;unfold ZG
 have:¬((if(y==0)=QO then 0 else y.natAbs.log2/30+1)>300):=by
  split
  ·decide
  ·rename_i b
   have a:y≠0:=by simpa using b
   exact TO.mpr (QK (Tg (qaq _ 30)) (QK ((Nat.log2_lt λe=>a (Int.natAbs_eq_zero.mp e)).mpr (AI h)) (show 64≤300 by decide)))
 simp only[RJ this,qdH]
section
variable{prog:RP}{w:Sn}{hs:RI}{ads:aH}{σ:af}{A:SY}{E:QU→QZ→Prop}{s:QZ}{q:RG}{d:QN}
theorem zx{h:RI}{ads:aH}{v:QU}{d:PV}(r:av h ads d v):∀k,aA h ads (SQ k d) (SQ k v)
 |0=>QJ
 |k+1=>(cX v _ QJ r (zx r k))
theorem qB{α:Type}(x:α):∀k,(SQ k [x]).flatten=SQ k x
 |0=>QJ
 |k+1=>by rw[qbR,qcA,qB x k];rfl
theorem AN{a b:RK}{vs ws:QI QU}{x y:QI PV}(ht:qbq s.heap a vs.toArray)(hb:qbq s.heap b ws.toArray)(rx:aA s.heap ads x vs)(ry:aA s.heap ads y ws)(R:ah prog w hs s.heap ads σ):
  SP prog w hs q s ads σ (iN (x++y)) (λQ=>Rh (Rf prog w) A (TY .Add (.ref a) (.ref b)) Q E s) av:=by
 obtain⟨⟨cls,dd,data,sl⟩,ho,hc,n,hd⟩:=id ht;obtain⟨⟨cls2,dd2,data2,sl2⟩,ho2,hc2,n2,hd2⟩:=id hb;subst hc hd hc2 hd2;have el:(x++y).length=vs.length+ws.length:=by rw[rx.a,ry.a,QW]
 by_cases hv:vs=[]
 ·refine SP.c λhl=>SP.a R ?_ λQ h=>qam (ai _ ho QJ) (ai _ ho2 QJ) qaB qbG XD Xu (Xk _ _)
   (tuple_addW0 a b vs.toArray ws.toArray n n2 dd dd2 sl sl2 (by rw[hv];rfl)) (aL ho ho2 h)
  subst hv;obtain rfl:x=[]:=TX rx.a.symm;exact(jn b _ ws n2 QJ ho2 QJ QJ ry (lB hl))
 ·by_cases hw:ws=[]
  ·refine SP.c λhl=>SP.a R ?_ λQ h=>qam (ai _ ho QJ) (ai _ ho2 QJ) qaB qbG XD Xu (Xk _ _)
    (tuple_addW1 a b vs.toArray ws.toArray n n2 dd dd2 sl sl2 (by simpa using hv) (by rw[hw];rfl)) (aL ho ho2 h)
   subst hw;obtain rfl:y=[]:=TX ry.a.symm;rw[RD] at hl⊢;exact(jn a _ vs n QJ ho QJ QJ rx (lB hl))
  ·refine SP.L (n:=0) (tk:=s.toks) R (aA.c ry rx) λhl Q h=>qam (ai _ ho QJ) (ai _ ho2 QJ) qaB qbG XD Xu (Xk _ _)
    (tuple_addW2 a b vs.toArray ws.toArray n n2 dd dd2 sl sl2 (by simpa using hv) (by simpa using hw) (by rw[RZ,RZ];exact dT (el▸hl))) (aL ho ho2 ?_)
   rw[show vs.toArray++ws.toArray=(vs++ws).toArray by simp];exact h
theorem AM{a b:RK}{vs e:QI QU}{x y:QI PV}(B:s.heap.IsList a vs.toArray)(C:s.heap.IsList b e.toArray)(r:aA s.heap ads x vs)(j:aA s.heap ads y e)(R:ah prog w hs s.heap ads σ):
  SP prog w hs q s ads σ (cR (x++y)) (λQ=>Rh (Rf prog w) A (TY .Add (.ref a) (.ref b)) Q E s) av:=by
 obtain⟨⟨D,G,k,H⟩,m,p,n,u⟩:=id B;obtain⟨⟨v,i,t,l⟩,o,f,I,g⟩:=id C;simp only at p u f g;subst p u f g;have J:(x++y).length=vs.length+e.length:=by rw[r.a,j.a,QW]
 refine SP.z (n:=0) (tk:=s.toks) R (aA.c j r) λK Q h=>qam (ai _ m QJ) (ai _ o QJ) noFill_list_add seq_list_add PySem.F.slot_list_add PySem.F.entry_list_add (PySem.F.args_list_add_2 _ _)
  (list_addW a b vs.toArray e.toArray n I G i H l (by rw[RZ,RZ];exact dT (J▸K))) (aL m o ?_)
 rw[show vs.toArray++e.toArray=(vs++e).toArray by simp];exact h
theorem HG{a:RK}{u:QU}{x:PV}{k:RW}{t:Tok}(g:s.heap.IsList a [u].toArray)(r:av s.heap ads x u)(v:0≤k)(y:k≤100)(R:ah prog w hs s.heap ads σ):
  SP prog w hs q s ads σ (cR (SQ k.toNat x)) (λQ=>Rh (Rf prog w) A (TY .Mult (.ref a) (.int k t)) Q E s) av:=by
 obtain⟨⟨i,b,c,l⟩,o,e,n,f⟩:=id g;simp only at e f;subst e f
 refine SP.z (n:=0) (tk:=s.toks) R (zx r k.toNat) λB Q h=>wpAny_binaryOp_repeat_ref (T:="list") (U:="int") (by decide) (ai _ o QJ) (λj=>qdJ j k t) noFill_list_mul F.fills_int_mul qdU repeat_list F.slot_int_index.lookup
  (ZS qdU (qdJ s k t) F.entry_int_rmul (F.args_int_rmul_2 _ _) (lm_int_rmul_list_any k t a [u].toArray n b l)
   (cq o QJ (ai _ o QJ) (ZS F.slot_list_mul (ai _ o QJ) F.entry_list_mul (F.args_list_mul_2 _ _)
    (lm_list_mul_any a [u].toArray n b l k t (by simp[Wj];omega) (by simp;omega) (by simp[Zt,qcX];omega))
    ⟨o,?_⟩)))
 rw[show(List.foldl (λm p=>m++p) #[] (SQ (if [u].toArray.isEmpty=QO then 0 else k.toNat) [u].toArray))=(SQ k.toNat u).toArray from by
  rw[listMul_foldl_if];exact RH VX (qB u k.toNat)]
 exact h
theorem mc{f:RW→RW→RW}{op:qbn}{x y:PV}{v u:QU}(h:∀i j t t' Q,(∀tk k,Q (.int (f i j) tk) {s with toks:=k})→Rh (Rf prog w) A (TY op (.int i t) (.int j t')) Q E s)
  (R:ah prog w hs s.heap ads σ) (m:av s.heap ads x v) (n:av s.heap ads y u):SP prog w hs q s ads σ ((cw x).a λi=>(cw y).a λj=>.b (.A (f i j))) (λQ=>Rh (Rf prog w) A (TY op v u) Q E s) av:=
 SP.g (V:=λv Q=>Rh (Rf prog w) A (TY op v u) Q E s) m λi t=>SP.g (V:=λu Q=>Rh (Rf prog w) A (TY op (.int i t) u) Q E s) n λj t'=>
  λa S e Q H=>h i j t t' Q λtk k=>by
   (refine oA (λc r=> ?_) (sP e);subst c;revert r;intro l;subst l)
   exact H _ s.heap ads k R (Mv.Qr ..) ⟨tk,QJ⟩
theorem wD{f:QN→QN→QN}{op:qbn}{x y:PV}{v u:QU}(F:pQ prog w f op)(hm:A.handled=RM)(R:ah prog w hs s.heap ads σ)(o:av s.heap ads x v)(p:av s.heap ads y u):
  SP prog w hs q s ads σ ((jO x).a λi=>(jO y).a λj=>.b (.H (f i j))) (λQ=>Rh (Rf prog w) A (TY op v u) Q E s) av:=
 SP.H (V:=λv Q=>Rh (Rf prog w) A (TY op v u) Q E s) o λa m g=>SP.H (V:=λu Q=>Rh (Rf prog w) A (TY op (.ref a) u) Q E s) p λb n t=>
  λZ S e Q H=>F A E s a b m n Q g t hm λc z B l C=>by
   (refine oA (λh r=> ?_) (sP e);subst h;revert r;intro k;subst k)
   exact H _ z ads B (R.NZ l) ((aP.MM ads l).mv q) (ai c QJ C)
theorem Bt{op:aF}{x y:PV}{v u:QU}(S:dD prog w)(hm:br A d)(R:ah prog w hs s.heap ads σ)(e:av s.heap ads x v)(k:av s.heap ads y u):
  SP prog w hs q s ads σ (gb op x y) (λQ=>Rh (Rf prog w) A (TY op.py v u) Q E s) av:=by
 induction op using aF.casesOn with
 |A=>
  induction x using PV.casesOn with
  |A i=>exact mc (λZ Z Z Z Z h=>add_int (h _ _)) R e k
  |F l=>
   exact SP.J (V:=λv Q=>Rh (Rf prog w) A (TY .Add v u) Q E s) e λa l T W O Z Z=>
    SP.J (V:=λu Q=>Rh (Rf prog w) A (TY .Add (.ref a) u) Q E s) k λb m X K P Z Z=>AN W K O P R
  |B n=>
   exact SP.o (V:=λv Q=>Rh (Rf prog w) A (TY .Add v u) Q E s) R e λZ p l T Z Z Z g O Z=>
    SP.o (V:=λu Q=>Rh (Rf prog w) A (TY .Add (.ref p.1) u) Q E s) R k λZ p' m X Z Z Z Y P Z=>AM g.isList Y.isList O P R
  |_=>exact SP.b
 |B=>
  induction x using PV.casesOn with
  |A i=>exact mc (λZ Z Z Z Z h=>sub_int' (h _ _)) R e k
  |H m=>exact wD S.QA hm.Qh R e k
  |_=>exact SP.b
 |F=>
  induction x using PV.casesOn with
  |A i=>
   refine SP.g (f:=λi=>(cw y).a λj=>.c (dY i||dY j) (.b (PV.A (i*j)))) (V:=λv Q=>Rh (Rf prog w) A (TY .Mult v u) Q E s) e λi t=>
    SP.g (V:=λu Q=>Rh (Rf prog w) A (TY .Mult (.int i t) u) Q E s) k λj U=>SP.c λK=>SP.a R ⟨_,QJ⟩ λQ h=>mul_int h ?_
   exact(WJ.mp K).elim (λz=>IntMulOk.of_left (wX z)) λz=>IntMulOk.of_right (wX z)
  |B n=>
   dsimp only[gb,aF.py]
   refine SP.o (V:=λv Q=>Rh (Rf prog w) A (TY .Mult v u) Q E s) R e λZ p l T Z Z Z g O Z=>
    SP.g (V:=λu Q=>Rh (Rf prog w) A (TY .Mult (.ref p.1) u) Q E s) k λj t=>SP.c λK=> ?_
   refine bk (λh0 h1 h2=> ?_) (Rl K)
   (refine oE (λx L=> ?_) (List.length_eq_one_iff.mp h2);subst L)
   (revert O;refine bq λv' r M N=> ?_;subst M;revert N;refine oA λrv rn=> ?_)
   obtain rfl:r=[]:=rn;rw[qB];exact HG g.isList rv h0 h1 R
  |_=>exact SP.b
 |G=>
  dsimp only[gb,aF.py];refine SP.g (V:=λv Q=>Rh (Rf prog w) A (TY .FloorDiv v u) Q E s) e λi t=>SP.g (V:=λu Q=>Rh (Rf prog w) A (TY .FloorDiv (.int i t) u) Q E s) k λj U=>SP.c λK=> ?_;have K:=aT K;exact SP.a R ⟨_,QJ⟩ λQ h=>floordiv_int (Rl K.1) h (.inl (xN K.2))
 |C=>
  dsimp only[gb,aF.py]
  exact SP.g (V:=λv Q=>Rh (Rf prog w) A (TY .Mod v u) Q E s) e λi t=>SP.g (V:=λu Q=>Rh (Rf prog w) A (TY .Mod (.int i t) u) Q E s) k λj U=>SP.c λK=>
   SP.a R ⟨_,QJ⟩ λQ h=>mod_int' (Rl K) h
 |H=>exact mc (λZ Z Z Z Z h=>and_int (h _ _)) R e k
 |D=>
  induction x using PV.casesOn with
  |A i=>exact mc (x:=.A i) (λZ Z Z Z Z h=>or_int (h _ _)) R e k
  |H m=>exact wD S.or hm.Qh R e k
  |_=>exact SP.b
 |I=>exact mc (λZ Z Z Z Z h=>xor_int (h _ _)) R e k
def jM(_:RI)(_:aH)(b:RG)(v:QU):Prop:=v=.bool b
theorem vt{op:qaP}{g:RG→RG}{x y:PV}{v u:QU}(R:ah prog w hs s.heap ads σ)(m:av s.heap ads x v)(n:av s.heap ads y u)
  (h:∀(a b:D),Rd s.heap 16 v a→Rd s.heap 16 u b→∀Q,Q (.bool (g (YL (toP a) (toP b)))) s→Rh (Rf prog w) A (TH op v u) Q E s):
  SP prog w hs q s ads σ ((eQ x y).a λr=>.b (g r)) (λQ=>Rh (Rf prog w) A (TH op v u) Q E s) jM:=λZ Z e Q H=>by
 refine ag (λp o t=> ?_) (bS e);refine ag (λa z B=> ?_) (bS o)
 (refine ag (λb C c=> ?_) (mS B);subst c)
 (refine oA (λf i=> ?_) (sP t);subst f;revert i;intro j;subst j)
 have k:=toD_reads R 16 v x a m z;have l:=toD_reads R 16 u y b n C;exact h a b k l Q (qu a b k.ok l.ok▸H _ s.heap ads s.toks R (Mv.Qr ..) QJ)
theorem DK{x y:PV}{v u:QU}(hm:br A d)(R:ah prog w hs s.heap ads σ)(e:av s.heap ads x v)(f:av s.heap ads y u):
  SP prog w hs q s ads σ (eQ x y) (λQ=>Rh (Rf prog w) A (TH .Eq v u) Q E s) jM:=by
 have:=vt (q:=q) (E:=E) (g:=id) R e f λa b k c Q h=>k.PR.elim λZ z=>c.PR.elim λZ i=>eq_dataH z i k.PU c.PU hm.eq h
 rwa[show((eQ x y).a λr=>M.b (id r))=eQ x y from XW λσ=>by
  show(eQ x y σ).bind (λp=>QG (p.1,p.2))=_
  induction eQ x y σ using QQ<;>rfl] at this
theorem nS{op:qaP}{f:RW→RW→RG}{x y:PV}{v u:QU}(h:∀i j t t' Q,Q (.bool (f i j)) s→Rh (Rf prog w) A (TH op (.int i t) (.int j t')) Q E s)
  (R:ah prog w hs s.heap ads σ) (r:av s.heap ads x v) (b:av s.heap ads y u):SP prog w hs q s ads σ (lT f x y) (λQ=>Rh (Rf prog w) A (TH op v u) Q E s) jM:=
 SP.g (V:=λv Q=>Rh (Rf prog w) A (TH op v u) Q E s) r λi t=>SP.g (V:=λu Q=>Rh (Rf prog w) A (TH op (.int i t) u) Q E s) b λj t'=>SP.a R QJ λQ z=>h i j t t' Q z
theorem HN{x y:PV}{v u:QU}(S:dD prog w)(hm:br A d)(R:ah prog w hs s.heap ads σ)(o:av s.heap ads x v)(p:av s.heap ads y u):
  SP prog w hs q s ads σ (oo x y) (λQ=>Rh (Rf prog w) A (TH .NotEq v u) Q E s) jM:=by
 have i:SP prog w hs q s ads σ ((eQ x y).a λr=>.b (!r)) (λQ=>Rh (Rf prog w) A (TH .NotEq v u) Q E s) jM:=
  vt R o p λa b t z Q h=>t.PR.elim λZ C=>z.PR.elim λZ D=>ne_dataH C D t.PU z.PU hm.eq h
 induction x using PV.casesOn with
 |H m=>
  induction y using PV.casesOn with
  |H n=>
   (revert o;refine ag λa c g=> ?_;subst c)
   (revert p;refine ag λb f F=> ?_;subst f)
   exact λZ Z e Q H=>S.ne A E s a b m n Q g F hm.Qh (Rp (Sh ..) hm.eq) λG I B=>by
    (refine oA (λj k=> ?_) (sP e);subst j;revert k;intro l;subst l)
    exact H _ G ads I (R.NZ B) ((aP.MM ads B).mv q) QJ
  |_=>exact SP.b
 |_=>exact i
theorem xR{op:qaP}{g:RG→RG}{x y:PV}{v u:QU}(R:ah prog w hs s.heap ads σ)(f:av s.heap ads x v)(j:av s.heap ads y u)
  (k:∀Q,Q (.bool (g QO)) s→Rh (Rf prog w) A (TH op .none .none) Q E s) (l:∀i t Q,Q (.bool (g QR)) s→Rh (Rf prog w) A (TH op (.int i t) .none) Q E s) (m:∀a Q,Q (.bool (g QR)) s→Rh (Rf prog w) A (TH op (.ref a) .none) Q E s):
  SP prog w hs q s ads σ ((nX x y).a λr=>.b (g r)) (λQ=>Rh (Rf prog w) A (TH op v u) Q E s) jM:=by
 induction y using PV.casesOn with
 |G=>
  cases (show u=.none from j)
  induction x using PV.casesOn with
  |G=>cases (show v=.none from f);exact SP.a R QJ λQ h=>k Q h
  |A i=>(revert f;refine oE λt e=> ?_;subst e);exact SP.a R QJ λQ h=>l i t Q h
  |B n=>(revert f;refine ag λp Z c=> ?_;subst c);exact SP.a R QJ λQ h=>m p.1 Q h
  |_=>exact SP.b
 |_=>exact SP.b
theorem Bs{α:Type}(m:M α):(m.a λr=>.b (id r))=m:=XW λσ=>by
 show(m σ).bind (λp=>QG (p.1,p.2))=_
 induction m σ using QQ<;>rfl
end
section
variable{h:RI}{ads:aH}
theorem ba.c{κ κ':Type}[Wh κ][Wh κ']{rk:κ'→κ→Prop}{k:κ}{k':κ'}(hk:∀b a,rk b a→(a=k↔b=k')):∀{l:QI (κ'×PV)} {kvs:QI (κ×QU)},ba h ads rk l kvs→
  (∀pv,bG l k'=QG pv→∃v,qcm kvs k=QG v∧av h ads pv v)∧(bG l k'=RM→qcm kvs k=RM)
 |[],Z,r=>(show _=[] from r)▸⟨λZ e=>(aI e),λZ=>QJ⟩
 |b::l,Z,zz=>by
  revert zz;refine fg λa v r e h1 h2 h3=> ?_;subst e;refine have ih:=ba.c hk h3;?_;unfold bG qcm at ih⊢;rw[TP,TP]
  by_cases e:b.1=k'
  ·rw[Ry e,Ry ((hk _ _ h1).mpr e)]
   exact⟨λpv q=>(ai v QJ (QS q▸h2)),λq=>bV q⟩
  ·rw[RJ e,RJ λq=>e ((hk _ _ h1).mp q)]
   exact ih
theorem vB(k:RW):∀(l:QI (RW×PV)),(bG l k).isSome=l.any λp=>p.1==k
 |[]=>QJ
 |p::r=>by
  refine have ih:=vB k r;?_;unfold bG at ih⊢;rw[TP,UO]
  by_cases e:p.1=k
  ·rw[Ry e,Sk.mpr e];rfl
  ·rw[RJ e,Tp.mpr e];exact ih
theorem ba.m{rk:RW→RW→Prop}{k:RW}(g:∀b a,rk b a→(a=k↔b=k)){l:QI (RW×PV)}{kvs:QI (RW×QU)}(r:ba h ads rk l kvs):(qcm kvs k).isSome=l.any λp=>p.1==k:=by
 rw[←vB];have f:=r.c g
 induction e:bG l k using QQ with
 |none=>rw[f.2 e];rfl
 |some i=>exact(f.1 i e).elim λv q=>q.1▸QJ
theorem nG(k:RW):∀b a:RW,b=a→(a=k↔b=k):=λZ Z e=>e▸Iff.rfl
theorem Aa{k:QN}{x:Ux}(c:bj k=QG x):∀(b:QN) (a:Ux),bj b=QG a→(a=x↔b=k):=λb a e=>
 ⟨λq=>jG e (q▸c),λq=>QS (e.symm.trans (q▸c))⟩
end
section
variable{prog:RP}{w:Sn}{hs:RI}{ads:aH}{σ:af}{A:SY}{E:QU→QZ→Prop}{s:QZ}{q:RG}{d:QN}
theorem gG(i:RW)(t:Tok):(Ub prog w).is i (.int i t)=true:=XB prog w i t
theorem tC(x:Ux)(t:Tok):(strKind prog w).is x (.str x t)=true:=strKind_is prog w x t
theorem ur{x:D}(a:mr x):∀{ds:QI D},kd ds→((toPs ds).any λy=>YL y (toP x))=ds.any λe=>bY e x
 |[],Z=>QJ
 |d::r,o=>by rw[show toPs (d::r)=toP d::toPs r from QJ,UO,UO,ur a o.2,qu d x o.1 a]
structure jK(prog:RP)(w:Sn)(A:SY)(E:QU→QZ→Prop)(s:QZ)(v u:QU)(b:RG):Prop where
 QC:∀Q:QU→QZ→Prop,(∀tk,Q (.bool b) {s with toks:=tk})→Rh (Rf prog w) A (TH .In v u) Q E s
 QD:∀Q:QU→QZ→Prop,(∀tk,Q (.bool (!b)) {s with toks:=tk})→Rh (Rf prog w) A (TH .NotIn v u) Q E s
theorem zN{x:PV}{v u:QU}{l:QI PV}{vs:QI QU}{b:RG}{σ':af}(hm:br A d)(R:ah prog w hs s.heap ads σ)(m:av s.heap ads x v)(n:aA s.heap ads l vs)(e:qS x l σ=QG (b,σ'))
  (k:∀(a:D) (ds:QI D) as i,ReadsAll s.heap vs (toPs ds) as→Reads s.heap v (toP a) i→qbK (toPs ds)=QO→(toP a).canLay0=QO→A.units+1+min (qct (toPs ds)) (toP a).depth<cLine→
   jK prog w A E s v u ((toPs ds).any λy=>YL y (toP a))):σ'=σ∧jK prog w A E s v u b:=by
 refine ag (λa o e=> ?_) (bS e);refine ag (λds p e=> ?_) (mS e)
 (refine oA (λc r=> ?_) (Tw e);subst c;revert r;intro f;subst f)
 have g:=toD_reads R 16 v x a m o;have j:=pV (toD_reads R 16) l vs ds n p;refine⟨QJ,g.PR.elim λi z=>j.PD.elim λas t=>ur g.ok j.ok▸k a ds as i t z j.PC g.PX ?_⟩;rw[cLine_is];exact Rp (SR (Tg (Vp hm.Qi)) (QK (ZZ _ _) g.PW)) (by decide)
theorem xd{h:RI}:∀{l:QI PV} {vs:QI QU},aA h ads l vs→l.all nW=QO→∃c,ItemsAre (Ub prog w) c vs
 |[],Z,r,U=>(show _=[] from r)▸⟨[],.nil⟩
 |x::l,Z,z,q=>by
  revert z;refine cm λv r e a b=> ?_;subst e;have q:=aT (Ww▸q:(nW x&&l.all nW)=QO)
  induction x using PV.casesOn with
  |A i=>exact a.elim λt e=>(xd b q.2).imp' (i::·) λZ k=>e▸.cons (gG i t) k
  |_=>exact aD (q.1)
theorem xg{x c:PV}{v u:QU}{b:RG}{σ':af}(FS:dD prog w)(hm:br A d)(R:ah prog w hs s.heap ads σ)(rx:av s.heap ads x v)(rc:av s.heap ads c u)(V:qY c=QR)(e:mf x c σ=QG (b,σ')):σ'=σ∧jK prog w A E s v u b:=by
 induction c using PV.casesOn with
 |F l=>
  (revert rc;refine cv λa o vs n i j=> ?_;subst i;revert j;refine eu λg c dd W Z=> ?_)
  exact zN hm R rx W e λdx ds as bs X Y l2 l1 hz=>
   ⟨λQ h=>SeqAt.in_tuple_reads (qbp g c dd X) Y l2 l1 hz (h s.toks),λQ h=>SeqAt.notIn_tuple_reads (qbp g c dd X) Y l2 l1 hz (h s.toks)⟩
 |B n=>
  refine ag (λo ho e=> ?_) (bS e)
  (refine ag (λo' a0 y=> ?_) (mS ho);subst y)
  (revert rc;refine ag λp hp z=> ?_;subst z)
  induction o' using AO.casesOn with
  |A l=>
   (refine cj (λZ vs C W Z=> ?_) (R.NW n p _ hp a0);revert C;refine oE λm g=> ?_)
   exact zN hm R rx W e λdx ds as bs X Y l2 l1 hz=>
    ⟨λQ h=>SeqAt.in_list_reads (qbN g QJ QJ X) Y l2 l1 hz (h s.toks),λQ h=>SeqAt.notIn_list_reads (qbN g QJ QJ X) Y l2 l1 hz (h s.toks)⟩
  |B a1=>
   refine cj (λZ ks g rk Z=> ?_) (R.NW n p _ hp a0);refine have ns:=R.Oe (ai p (Rg hp) (.inl QJ));?_
   induction x using PV.casesOn with
   |A k=>
    (revert rx;refine oE λt D=> ?_;subst D)
    (refine oA (λG I=> ?_) (sP e);subst G;revert I;intro J;subst J)
    rw[←rk.m (nG k)];exact⟨QJ,λQ h=>wpAny_in_of (gG k t) ns g.mapOf (h _),λQ h=>wpAny_notIn_of (gG k t) ns g.mapOf (h _)⟩
   |F l=>
    have pr:∀{c:RG} {σ'},M.c c (M.b QR:M RG) σ=QG (b,σ')→c=QO∧b=QR∧σ'=σ:=λ{c Z} e=>by
     induction c using QL with
     |true=>(refine oA (λK L=> ?_) (sP e);subst K;revert L;intro N;subst N);exact(aL QJ QJ QJ)
     |false=>exact aI e
    (refine bk (λV O P=> ?_) (pr e);subst O;revert P;intro S;subst S)
    refine have V:=aT V;?_;obtain rfl:a1=[]:=iE V.1;obtain rfl:ks=[]:=rk
    (revert rx;refine cv λa o vs m T U=> ?_;subst T;revert U;refine eu λga ca da W Z=> ?_)
    refine oE (λks it=> ?_) (xd (prog:=prog) (w:=w) W V.2);refine have it:(tupleKind (Ub prog w)).is s.heap ks a:=(er o _ _ ga ca da it);?_
    have em:s.heap.DictOfH (tupleKind (Ub prog w)) p.1 []:=by
     (revert g;refine kZ λo es ep g1 g2 g3 Z g5 Z=> ?_)
     refine⟨o,es,ep,g1,g2,g3,?_,by simp,by simp⟩
     induction hq:es.toList using Rm with
     |nil=>rfl
     |cons x r=>rw[hq] at g5;cases g5
    have f:(tupleKind (Ub prog w)).room A.in1:=by show A.units+1<cLine;rw[cLine_is];exact Rp (RR (Vp hm.Qi) 1) (by decide)
    exact⟨QJ,λQ h=>wpAny_in_heap f it ns em (h _),λQ h=>wpAny_notIn_heap f it ns em (h _)⟩
   |_=>exact aI e
  |_=>exact aI e
 |H m=>cases V
 |_=>exact aI e
theorem lV{op:aj}{x y:PV}{v u:QU}(T:dD prog w)(hm:br A d)(R:ah prog w hs s.heap ads σ)(j:av s.heap ads x v)(l:av s.heap ads y u):
  SP prog w hs q s ads σ (eC op x y) (λQ=>Rh (Rf prog w) A (TH op.py v u) Q E s) jM:=by
 induction op using aj.casesOn with
 |A=>exact DK hm R j l
 |C=>exact HN T hm R j l
 |G=>exact nS (λZ Z Z Z Z h=>lt_int h) R j l
 |J=>exact nS (λZ Z Z Z Z h=>le_int h) R j l
 |H=>exact nS (λZ Z Z Z Z h=>gt_int h) R j l
 |K=>exact nS (λZ Z Z Z Z h=>ge_int h) R j l
 |F=>
  rw[show eC .F x y=(nX x y).a λr=>.b (id r) from(Bs _).symm];exact xR R j l (λZ h=>is_none_none h) (λZ Z Z h=>is_int_none h) λZ Z h=>is_ref_none h
 |I=>exact xR R j l (λZ h=>isnot_none_none h) (λZ Z Z h=>isnot_int_none h) λZ Z h=>isnot_ref_none h
 |B=>
  induction U:qY y using QL with
  |false=>
   exact λZ Z e Q H=>by
    (refine oA (λn k=> ?_) (xg (E:=E) T hm R j l U e);subst n)
    exact k.QC Q λS=>H _ s.heap ads S R (Mv.Qr ..) QJ
  |true=>
   induction y using PV.casesOn with
   |H m=>
    (revert l;refine ag λa o g=> ?_;subst o)
    exact SP.r (f:=λi=>.c (Tv i 1000) (.b (m.testBit i))) (V:=λv Q=>Rh (Rf prog w) A (TH .In v (.ref a)) Q E s) j λi t=>SP.c λX=>λZ Z e Q H=>
     T.Qz A E s a m i t Q g hm.Qh (lB X) λS=>by
      (refine oA (λz L=> ?_) (sP e);subst z;revert L;intro M;subst M)
      exact H _ s.heap ads S R (Mv.Qr ..) QJ
   |_=>exact aD U
 |D=>
  refine SP.c λU=>λZ Z e Q H=> ?_;refine ag (λp Y e2=> ?_) (bS e)
  (refine oA (λN O=> ?_) (sP e2);subst N;revert O;intro P;subst P)
  refine oA (λW k=> ?_) (xg (E:=E) T hm R j l (by simpa using U) Y);exact k.QD Q λS=>H _ s.heap ads S (W▸R) (Mv.Qr ..) QJ
end
section
variable{prog:RP}{w:Sn}{A:SY}{E:QU→QZ→Prop}{s:QZ}
theorem Lb{l:RK}{m:TS QU}{i:RW}{k:QN}{t:Tok}{v:QU}{Q:UE→QZ→Prop}(a:s.heap.PlainList l m)(b:i=k)(f:Wj i=QO)(c:k<m.size)
  (e:∀h,h.PlainList l (m.setIfInBounds k v)→Su l s.heap h→Q () {s with heap:=h}):
  Rh (Rf prog w) A (Xq (.ref l) (.int i t) v) Q E s:=by
 refine oE (λn o=> ?_) (id a);have T:s.TypeIs (.ref l) "list" :=(ai _ o QJ);refine RA ?_;refine QH (wpAny_sequenceKey T (by decide) ?_)
 refine QH (wpAny_callSpecial?_slot T qdQ
  (Vo qdQ T entry_list_setitem ?_ (args_list_setitem _ _ _)))
 show Rh _ _ (qem (.int i t)>>=_) _ _ s;refine QH (wpAny_listSubscript_int f ?_);subst b;refine QH (QH (wpAny_seqItemAt o QJ (QT ?_)));rw[Xn c];exact QH (wpAny_setSeqItemAt o QJ (QT (ai .none QJ (QT (e _ ⟨_,UW (WZ (·.setIfInBounds k v)) o QJ⟩ (UZ ..))))))
theorem oW(a b c:RW)(hc:c≠0):Ut a b c=(cF a b c:RW):=by
 have key:∀{x y:RW},0<y→(if 0<x then(x-1)/y+1 else 0)=(((x+y-1)/y).toNat:RW):=λ{x y} hy=>by
  rw[show x+y-1=(x-1)+y*1 by rw[Int.mul_one,qcD,qcD,Int.add_right_comm],Int.add_mul_ediv_left _ _ (Int.ne_of_gt hy)]
  by_cases h:0<x
  ·rw[SH h]
   exact(qch (Int.add_nonneg (Int.ediv_nonneg (Int.sub_nonneg_of_le h) (qek hy)) (by decide))).symm
  ·rw[SK h]
   exact(RH qbg (Int.toNat_of_nonpos (Int.add_one_le_of_lt (Int.ediv_neg_of_neg_of_pos (Zn (Int.sub_lt_self x (by decide)) (Xm.mp h)) hy)))).symm
 unfold Ut cF
 by_cases h:c>0
 ·rw[SH h,Ry h,WC,←key h]
  by_cases h2:a<b
  ·rw[SH h2,SH (qcO h2)]
  ·rw[SK h2,SK λh=>h2 (qcP h)]
 ·have h0:=Int.lt_iff_le_and_ne.mpr ⟨Xm.mp h,hc⟩
  rw[SK h,RJ h,ZQ,Ry h0,WC,←key (Int.neg_pos_of_neg h0)]
  by_cases h2:a>b
  ·rw[SH h2,SH (qcO h2)]
  ·rw[SK h2,SK λh=>h2 (qcP h)]
theorem zt{a b c:RW}{j:QN}{v:PV}(e:(gn a b c)[j]?=QG v):j<cF a b c∧v=.A (a+c*(j:RW)):=by
 unfold gn at e;rw[Rn] at e
 (refine ag (λk i f=> ?_) (mS e);subst f)
 refine oE (λh g=> ?_) (Te.mp i);rw[WW] at g;rw[RC] at h;exact⟨h,g▸QJ⟩
theorem JZ{a b c:RW}{j:QN}(h:j<cF a b c):c≠0:=λe=>by subst e;exact Ro h (VS _)
theorem Kb(r:RK)(a b c:RW)(t u v:Tok)(k:RW)(q:Tok)(e:0≤k)(f:k<Ut a b c):
  Meets (Builtin.«range.__getitem__» ⟨[.ref r,.int k q],[]⟩) λZ R s=>IsRange s.heap r a b c t u v∧R (.ok (.ret (.int (a+k*c) s.toks))) {s with toks:=s.toks+1}:=by
 refine Meets.of_wp λprog w A R s S=> ?_
 (revert S;refine oA λi h=> ?_)
 obtain⟨p,g,j,l,o⟩:=s
 wp_walk
 refine YZ int_index ?_;refine QH (YZ QJ ?_);dsimp only;rw[SK (by omega:¬k<0),(by simp;omega:(decide (k<0)||decide (k≥Builtin.Range.rangeSize a b c))=false)]
 wp_walk
 exact(ai _ QJ h)
end
noncomputable def DT:Bool:=vP.all λp=>match bj p.1 with
 |some x=>(match bj p.2 with|some y=>(x.cps[0]?).any λz=>y==⟨#[z]⟩|none=>QR)
 |none=>QR
theorem DU:DT=true:=by decide+kernel
theorem ff{α B:Type}[BEq α][qcg α]{x:α}{a:B}:∀{l:QI (α×B)},l.lookup x=QG a→(x,a)∈l
 |p::Z,h=>by
  rw[Tn] at h
  induction b:x==p.1 using QL with
  |true=>rw[b] at h;obtain rfl:=Sk.mp b;obtain rfl:=QS h;exact .head _
  |false=>rw[b] at h;exact .tail _ (ff h)
theorem DV{c a:QN}{x:Ux}(f:bj c=QG x)(h:kM c=QG a):∃z,x.cps[0]?=QG z∧bj a=QG ⟨#[z]⟩:=by
 have:=SX.mp DU _ (ff h);dsimp only at this;rw[f] at this;dsimp only at this
 induction b:bj a using QQ with
 |none=>rw[b] at this;exact aD this
 |some y=>
  rw[b] at this;refine ag (λz g e=> ?_) (Option.any_eq_true .. |>.mp this);exact(ai z g (RH QG (Sk.mp e)))
theorem td{k n:QN}(h:k<n):seqIndex? (k:RW) n=QG k:=by
 unfold seqIndex?;rw[SK (Xm.mpr (Rx k))];exact SH (Sv.mpr ⟨Ry (Rx k),Ry (Ug.mpr h)⟩)
section
variable{prog:RP}{w:Sn}{hs:RI}{ads:aH}{σ:af}{A:SY}{E:QU→QZ→Prop}{s:QZ}{q:RG}{d:QN}
theorem kN{k:QN}: -(2^63)≤(k:RW):=RN (by decide) (Rx k)
theorem ra{k:QN}(h:k<4096):(k:RW)<2^63:=Yl (Ug.mpr h) (by decide)
theorem Fu{o i:PV}{vo vi:QU}(R:ah prog w hs s.heap ads σ)(ro:av s.heap ads o vo)(U:av s.heap ads i vi):SP prog w hs q s ads σ (ie o i) (λQ=>Rh (Rf prog w) A (Tz vo vi) Q E s) av:=by
 induction o using PV.casesOn with
 |F l=>
  (revert ro;refine cv λa o vs n y G=> ?_;subst y;revert G;refine eu λg c dd X hl=> ?_)
  refine SP.r (f:=λk=>M.h l[k]?) (V:=λv Q=>Rh (Rf prog w) A (Tz (.ref a) v) Q E s) U λk t=>SP.n λH e=> ?_;refine ag (λv m J=> ?_) (X.d e);have W:k<vs.length:=(gL m);have hb:k<4096:=Rj W (X.a▸hl);exact SP.a (tk:=s.toks) R J λQ h=>getItem_tuple (gF o g c n dd) kN (ra hb) (j:=k) (td (by rw[RZ];exact W)) (by simpa using m) h
 |I a b c=>
  (revert ro;refine cv λp t u x K g=> ?_;subst K)
  refine SP.r (f:=λk=>M.h (gn a b c)[k]?) (V:=λv Q=>Rh (Rf prog w) A (Tz (.ref p) v) Q E s) U λk t'=>SP.n λH e=> ?_
  (refine oA (λhj L=> ?_) (zt e);subst L)
  have hz:=oW a b c (JZ hj);refine SP.a (v:=.int (a+(k:RW)*c) s.toks) (tk:=s.toks+1) R ⟨_,by rw[Int.mul_comm]⟩ λQ h=>getItem_meets (ai _ g QJ) (by decide) qaX F.entry_range_getitem (F.args_range_getitem_2 _ _) (Kb p a b c t u x k t' (Rx k) (by rw[hz];exact Ug.mpr hj)) ⟨g,h⟩
 |C c=>
  (revert ro;refine bq λx t hx N=> ?_;subst N)
  refine SP.r (f:=λk=>M.c (SW k 0) (M.h ((kM c).map PV.C))) (V:=λv Q=>Rh (Rf prog w) A (Tz (.str x t) v) Q E s) U λk t'=>SP.c λW=>SP.n λH e=> ?_;obtain rfl:k=0:=SN W
  (refine ag (λc' a0 O=> ?_) (mS e);subst O)
  refine ag (λz hz hy=> ?_) (DV hx a0);refine SP.a R (fy _ _ hy QJ) λQ h=>P.getItem_str (c:=z) (by decide) ?_ h;exact(RH (QX · (x.cps[·]?)) (td (k:=0) (show 0<PySem.Str.length x from(WQ.mp hz).1))).trans hz
 |B n=>
  (revert ro;refine ag λp hp S=> ?_;subst S)
  dsimp only[ie];refine SP.k λob ho=> ?_
  induction ob using AO.casesOn with
  |A l=>
   refine cj (λZ vs g X hl=> ?_) (R.NW n p _ hp ho);refine SP.r (f:=λk=>M.h l[k]?) (V:=λv Q=>Rh (Rf prog w) A (Tz (.ref p.1) v) Q E s) U λk t=>SP.n λH e=> ?_;refine ag (λv m J=> ?_) (X.d e);have W:k<vs.length:=(gL m);have hb:k<4096:=Rj W (X.a▸hl);exact SP.a (tk:=s.toks) R J λQ h=>wpAny_getItem_list g.isList (Rx k) (ra hb) (by simpa using m) h
  |B Y=>
   refine cj (λZ ks g rk Z=> ?_) (R.NW n p _ hp ho);refine SP.g (f:=λk=>M.h (bG Y k)) (V:=λv Q=>Rh (Rf prog w) A (Tz (.ref p.1) v) Q E s) U λk t=>SP.n λH e=> ?_;refine ag (λv m J=> ?_) ((rk.c (nG k)).1 H e);exact SP.a R J λQ h=>qeb (knd:=Ub prog w) (gG k t) g.mapOf m h
  |D Y=>
   refine cj (λZ ks g rk Z=> ?_) (R.NW n p _ hp ho)
   induction i using PV.casesOn with
   |C k=>
    (revert U;refine bq λx t hx T=> ?_;subst T)
    refine SP.n λH e=> ?_;refine ag (λv m J=> ?_) ((rk.c (Aa hx)).1 H e);exact SP.a R J λQ h=>qeb (knd:=strKind prog w) (tC x t) g.mapOf m h
   |_=>exact SP.b
  |_=>exact SP.b
 |_=>exact SP.b
theorem jX{a:RK}{h c:RI}(f:Su a h c):∀b o,b≠a→h.get? b=QG o→c.get? b=QG o:=λb Z n e=>(f.2 b n).trans e
theorem ba.f{h:RI}{κ κ':Type}{rk:κ'→κ→Prop}{m:QI (κ'×PV)}{g:QI (κ×QU)}(k:ba h ads rk m g):∀{l:QI (κ'×PV)} {kvs:QI (κ×QU)},ba h ads rk l kvs→ba h ads rk (l++m) (kvs++g)
 |[],Z,r=>(show _=[] from r)▸k
 |Z::U,Y,z=>by revert z;exact fg λa v r e b c d=>(er a v (r++g) (e▸QJ) b c (ba.f k d))
theorem ba.l{h:RI}{k:RW}{v:QU}{pv:PV}(rv:av h ads pv v){l:QI (RW×PV)}{kvs:QI (RW×QU)}(r:ba h ads (·=·) l kvs):ba h ads (·=·) (eD l k pv) (stored kvs k v):=by
 have any:∀{l:QI (RW×PV)} {kvs:QI (RW×QU)},ba h ads (·=·) l kvs→(kvs.any λkv=>Rc (kv.1=k))=l.any λp=>Rc (p.1=k):=λ{l}=>by
  induction l with
  |nil=>exact λr=>(show _=[] from r)▸QJ
  |cons b l ih=>exact fg λa u t e h1 Z h3=>by subst e;rw[UO,UO,ih h3,h1]
 have map:∀{l:QI (RW×PV)} {kvs:QI (RW×QU)},ba h ads (·=·) l kvs→ba h ads (·=·) (l.map λp=>Sr (Rc (p.1=k)) (p.1,pv) p) (kvs.map λkv=>if kv.1=k then(kv.1,v) else kv):=λ{l}=>by
  induction l with
  |nil=>exact λr=>(show _=[] from r)▸QJ
  |cons b l ih=>
   exact fg λa u t e h1 h2 h3=>by
    subst e;rw[Tq,Tq]
    by_cases z:b.1=k
    ·rw[Ry z,SH (h1.symm.trans z:(a,u).1=k)];exact(er a v _ QJ h1 rv (ih h3))
    ·rw[RJ z,SK (λy=>z (h1.trans y):¬(a,u).1=k)];exact(er a u _ QJ h1 h2 (ih h3))
 unfold stored eD;rw[any r]
 induction l.any λp=>Rc (p.1=k) using QL with
 |true=>exact map r
 |false=>exact ba.f (m:=[(k,pv)]) (er k v ([]) QJ QJ rv QJ) r
theorem ba.g{h:RI}{k:RW}:∀{l:QI (RW×PV)} {kvs:QI (RW×QU)},ba h ads (·=·) l kvs→ba h ads (·=·) (ib l k) (without kvs k)
 |[],Z,r=>(show _=[] from r)▸QJ
 |b::l,Z,zz=>by
  revert zz;refine fg λa v r e h1 h2 h3=> ?_;subst e;refine have ih:=ba.g (k:=k) h3;?_;unfold without ib at ih⊢;rw[TU,TU]
  by_cases z:b.1=k
  ·rw[SK (by simpa using z),SK (by simpa using h1.symm.trans z)];exact ih
  ·rw[SH (by simpa using z),SH (by simpa using λy=>z (h1.trans y))];exact(er a v _ QJ h1 h2 ih)
theorem vG(l:QI (RW×PV))(k:RW)(v:PV):(eD l k v).length≤l.length+1:=by
 unfold eD
 induction l.any λp=>Rc (p.1=k) using QL with
 |true=>rw[WC,QP];exact Uk _
 |false=>rw[ZQ,QW];exact Sd _
def RU(_:RI)(_:aH)(_:PV)(_:UE):Prop:=YB
theorem Lc{o i y:PV}{z f v:QU}(R:ah prog w hs s.heap ads σ)(T:av s.heap ads o z)(M:av s.heap ads i f)(N:av s.heap ads y v):
  SP prog w hs QR s ads σ (mz o i y) (λQ=>Rh (Rf prog w) A (Xq z f v) Q E s) RU:=by
 refine SP.p (V:=λz Q=>Rh (Rf prog w) A (Xq z f v) Q E s) T λn p C=>SP.k λU O=> ?_
 induction U using AO.casesOn with
 |A l=>
  refine cj (λF W g P D=> ?_) (R.NW n p _ C O);refine SP.r (V:=λf Q=>Rh (Rf prog w) A (Xq (.ref p.1) f v) Q E s) M λk t=>SP.c λm=> ?_;have m:k<l.length:=lB m;have X:k<4096:=Rj m D;intro Z Z e Q H;refine Lb g QJ (fitsIndex_of (Rx k) (ra X)) (by rw[RZ,P.a];exact m) λG I J=> ?_;have j:∀b o,b≠p.1→b≠p.2→s.heap.get? b=QG o→G.get? b=QG o:=λb o K Z e=>jX J b o K e;exact SP.u (o:=.A (l.set k y)) R C j (λx=>(cW F (W.set k v) (List.setIfInBounds_toArray .. ▸I) (aA.l (av.a x _ N) k (aA.b x _ P)) (by rw[Vc];exact D))) Tu (λZ h=>h) _ _ e Q H
 |B L=>
  refine cj (λF Y g S D=> ?_) (R.NW n p _ C O);refine SP.g (V:=λf Q=>Rh (Rf prog w) A (Xq (.ref p.1) f v) Q E s) M λk t=>SP.c λm=> ?_;intro Z Z e Q H;refine wpAny_setItem_pairs (gG k t) g (λG I J=> ?_) (by rw[S.a];exact dT D);have j:∀b o,b≠p.1→b≠p.2→s.heap.get? b=QG o→G.get? b=QG o:=λb o K Z e=>jX J b o K e;exact SP.u (o:=.B (eD L k y)) R C j (λx=>(cW F _ I (ba.l (av.a x _ N) (S.b x)) (QK (vG ..) (lB m)))) Tu (λZ h=>h) _ _ e Q H
 |_=>exact SP.b
end
end Mine
end
section
open PySem PySem.W PySem.Calls PyProof.Rows
open Builtin Builtin.ObjectAttr
namespace Mine
structure fZ(K:VH):Prop where
 Nq:∀c a,ma c=QG a→makesIn K c=QO∧ZU K (.ref c) "__init__" =QG (QG (.ref a))∧typeIn K (.ref a)=QG (.type "function")
 Np:∀c a,kG c a=QO→∃x,bj a=QG x∧qdb K c x=QO∧hasDictIn K c=QO∧ZU K (.ref c) x=QG RM∧
  ZU K (.ref c) "__setattr__" =QG (QG (.builtin "object.__setattr__"))∧plainOver K c=QO∧takerIn K c x=QG RM
 Nr:∀c m f,mj c m=QG f→∃x,bj m=QG x∧qdb K c x=QO∧ZU K (.ref c) x=QG (QG (.ref f))∧isFn K (.ref f)=QO
section
variable{prog:RP}{w:Sn}{hs:RI}{ads:aH}{σ:af}{A:SY}{E:QU→QZ→Prop}{s:QZ}{q:RG}{d:QN}{K:VH}
theorem cA.b{h:RI}:∀{f:QI (QN×PV)} {a:QI VP},cA w h ads f a→a.any (·.refKey)=QR
 |[],Z,r=>(show _=[] from r)▸QJ
 |Z::U,Y,z=>by
  revert z;refine dw λe r q n Z c=> ?_;revert n;refine cm λZ Z Z g Z=> ?_;subst q;rw[UO,cA.b c,VO];unfold DictEntry.refKey;rw[g]
theorem cA.g{h:RI}:∀{f:QI (QN×PV)} {e:QI VP},cA w h ads f e→e.length=f.length
 |[],Z,r=>(show _=[] from r)▸QJ
 |Z::U,Y,r=>r.elim λZ x=>x.elim λZ x=>x.1▸RH (·+1) (cA.g x.2.2.2)
theorem xk{e:VP}{y x:Ux}{t:Tok}(h:e.key=.str y t):e.key.isStr x=(y==x):=by rw[h];rfl
theorem cA.c{h:RI}{x:Ux}{a:QN}(hx:bj a=QG x):∀{fs:QI (QN×PV)} {es:QI VP},cA w h ads fs es→
  (∀pv,bG fs a=QG pv→∃e,es.find? (·.key.isStr x)=QG e∧av h ads pv e.val)∧(bG fs a=RM→es.find? (·.key.isStr x)=RM)
 |[],Z,r=>(show _=[] from r)▸⟨λZ q=>(aI q),λZ=>QJ⟩
 |f::fs,Z,zz=>by
  revert zz;refine dw λe r q zn h4 h5=> ?_;revert zn;refine cm λy t h1 h2 Z=> ?_;subst q;refine have ih:=cA.c hx h5;?_;unfold bG at ih⊢;rw[TP,TP,xk h2]
  by_cases z:f.1=a
  ·obtain rfl:y=x:=QS (h1.symm.trans (z▸hx))
   rw[Ry z,UY];exact⟨λpv q=>(ai e QJ (QS q▸h4)),λq=>bV q⟩
  ·rw[RJ z,Tp.mpr λ(q:y=x)=>z (jG h1 (q▸hx))]
   exact ih
theorem cA.f{h:RI}{x:Ux}{a:QN}(j:bj a=QG x){g:QI (QN×PV)}{i:QI VP}(r:cA w h ads g i):
  (∀p,bG g a=QG p→∃v,getL x i=QG (QG v)∧av h ads p v)∧(bG g a=RM→getL x i=QG RM):=by
 have k:=r.c j;unfold getL;refine⟨λp e=>(k.1 p e).elim λn z=>(ai n.val (by rw[z.1]) z.2),λe=> ?_⟩;rw[k.2 e];rw[r.b]
 rfl
theorem qG{k:QN}{v:PV}{p:QN×PV}{r:QI (QN×PV)}:iI k v (p::r)=Sr (p.1==k) ((p.1,v)::r) (p::iI k v r):=QJ
theorem cA.i{h:RI}{x:Ux}{a:QN}{v:QU}{pv:PV}{t:Tok}(hx:bj a=QG x)(rv:av h ads pv v):∀{fs:QI (QN×PV)} {es:QI VP},cA w h ads fs es→
  cA w h ads (iI a pv fs) (putL x (Vz w.params x) (.str x t) v es)
 |[],Z,r=>(show _=[] from r)▸(eF _ ([]) QJ (cX x t hx QJ QJ) rv QJ)
 |f::fs,Z,zz=>by
  revert zz;refine dw λe r q zn h4 h5=> ?_;revert zn;refine cm λy u h1 h2 h3=> ?_;subst q;unfold putL;rw[qG];rw[xk h2]
  by_cases z:f.1=a
  ·obtain rfl:y=x:=QS (h1.symm.trans (z▸hx))
   rw[Sk.mpr z,UY,SH QJ];exact(eF _ r QJ (cX y u h1 h2 h3) rv h5)
  ·rw[Tp.mpr z,Tp.mpr λ(q:y=x)=>z (jG h1 (q▸hx)),SK UU]
   exact(eF e _ QJ (cX y u h1 h2 h3) h4 (cA.i hx rv h5))
theorem vU(a:QN)(v:PV):∀b:QI (QN×PV),(iI a v b).length≤b.length+1
 |[]=>Sd _
 |f::b=>by
  rw[qG]
  induction f.1==a using QL with
  |true=>exact Uk _
  |false=>exact Tg (vU a v b)
theorem vT{P:QN→Prop}{a:QN}{v:PV}(i:P a):∀{c:QI (QN×PV)},(∀f∈c,P f.1)→∀f∈iI a v c,P f.1
 |[],Z,f,b=>m1 b▸i
 |g::c,h,f,b=>by
  rw[qG] at b
  induction z:g.1==a using QL with
  |true=>rw[z] at b;exact(mC b).elim (λe=>e▸h g (.head _)) λm=>h f (.tail _ m)
  |false=>rw[z] at b;exact(mC b).elim (λe=>e▸h g (.head _)) λm=>vT i (λf b=>h f (.tail _ b)) f m
theorem FI{h:RI}{v:QU}:∀{p:PV},av h ads p v→handedIn v=QO
 | .G,r=>(show v=.none from r)▸QJ
 | .D b,r=>(show v=.bool b from r)▸QJ
 | .A Z,r=>r.elim λZ e=>e▸QJ
 | .C Z,r=>r.elim λZ x=>x.elim λZ e=>e.2▸QJ
 | .F Z,r=>r.elim λZ x=>x.elim λZ x=>x.elim λZ x=>x.elim λZ e=>e.1▸QJ
 | .H Z,r=>r.elim λZ e=>e.1▸QJ
 | .I Z U Y,r=>r.elim λZ x=>x.elim λZ x=>x.elim λZ x=>x.elim λZ e=>e.1▸QJ
 | .B Z,r=>r.elim λZ e=>e.2▸QJ
 | .J g,r=>(show v=g.qa from r)▸by induction g using GV.casesOn<;>rfl
theorem qV{h:RI}{x a:RK}{c:QN}{e:QI VP}{n:QN}(b:h.get? x=QG (XR c a))(f:h.get? a=QG (qcr e n)):W.InstAt h x (XR c a) c (QG (qcr e n)):=
 ⟨b,QJ,QJ,f⟩
theorem Fq{o:PV}{i:QU}{a:QN}{x:Ux}{b:RG}(S:fZ K)(X:K.In hs){L:RK}{m:Ux→Rz QU}(F:Fr hs L s.heap m)(l:bj a=QG x)(R:ah prog w hs s.heap ads σ)(y:av s.heap ads o i):
  SP prog w hs q s ads σ (qN o a) (λQ=>Rh (Rf prog w) A (qaC i x b) Q E s) av:=by
 refine SP.p (V:=λi Q=>Rh (Rf prog w) A (qaC i x b) Q E s) y λn p B=>SP.k λD G=> ?_
 induction D using AO.casesOn with
 |C c Y=>
  (refine eu (λH I z Z t=> ?_) (R.NW n p _ B G);revert z;refine bq λes m' J M=> ?_)
  refine SP.n λN e=> ?_;refine ag (λv O r=> ?_) ((M.f l).1 N e)
  have g:kG c a=true:=by
   refine ag (λf u Z=> ?_) (mS e);have P:f.1=a:=Rl (Yj (p:=λp:QN×PV=>Rc (p.1=a)) u);exact P▸t f (VJ u)
  refine jw (λx' j T U W Z=> ?_) (S.Np c a g);obtain rfl:=QS (l.symm.trans j);exact SP.a R r λQ h=>get_own F X (qV I J) T U W QJ O (FI r) h
 |_=>exact SP.b
theorem Fx{n c:QN}{p:RK×RK}{a:QI (QN×PV)}{m f:QN}{x:Ux}{l:Sem RG}{Q:QU×QI QU→QZ→Prop}(S:fZ K)(X:K.In hs){L:RK}{e:Ux→Rz QU}(F:Fr hs L s.heap e)(b:bj m=QG x)
  (hm:mj c m=QG f) (o:bG a m=RM) (R:ah prog w hs s.heap ads σ) (g:ads[n]?=QG p) (i:σ[n]?=QG (.C c a)) (H:Q (.ref f,[.ref p.1]) s):Rh (Rf prog w) A (XF (.ref p.1) x l) Q E s:=by
 (refine cY (λj k z Z=> ?_) (R.NW n p _ g i);revert z;refine bq λB D r t=> ?_)
 refine jv (λG h u v y=> ?_) (S.Nr c m f hm);obtain rfl:=QS (b.symm.trans h);exact method_inst F X (qV k r) u v y ((t.f b).2 o) H
theorem KZ{x a:RK}{C:QN}{e:QI VP}{n:QN}{name:Ux}{v:QU}{Q:UE→QZ→Prop}(X:K.In s.heap)(j:s.heap.get? x=QG (XR C a))(g:s.heap.get? a=QG (qcr e n))
  (t:ZU K (.ref C) "__setattr__" =QG (QG (.builtin "object.__setattr__"))) (k:plainOver K C=QO) (l:takerIn K C name=QG RM) (m:hasDictIn K C=QO) (r:e.any (·.refKey)=QR)
  (z:(putL name (Vz w.params name) (.str name (s.toks+1)) v e).length≤1000)
  (h:∀f,Su a s.heap f→f.get? a=QG (qcr (putL name (Vz w.params name) (.str name (s.toks+1)) v e) (putN name e n))→Q () {s with heap:=f,toks:=s.toks+2}):
  Rh (Rf prog w) A (qaA (.ref x) name v) Q E s:=by
 have I:=qV j g;refine set_plain X I t (osa_open X I k l λb=> ?_);refine ag (λu o i=> ?_) (any_some m);have L:=looks_clsIn (M:=Rf prog w) X o
 have p:(s.heap.update a (Obj.putName name (Vz w.params name) (.str name (s.toks+1)) v)).get? a=QG (qcr (putL name (Vz w.params name) (.str name (s.toks+1)) v e) (putN name e n)):=by
  rw[UW _ g (by rw[putName_dict];rfl),putName_dict]
 refine QH (QT (QH (QH (wpAny_loadPart j (QH (Looks.at L ?_))))));rw[i];refine QT (QH (QT (QH ?_)));refine QH (QH (qaz (QT (QH (qcl (QH (wpAny_loadPart g ?_)))))))
 have c:aRefKeyMayBeTheName name e.toArray=false:=by
  rw[aRefKeyMayBeTheName_at,show e.toArray.any (·.refKey)=QR from by rw[←Array.any_toList];exact r,qax]
 dsimp only;rw[c];refine wpAny_updatePart g ?_;refine QH (wpAny_lookBehind p (pastItsLine_dict (by rw[RZ,WN];exact QK z (Sq _ _))) ?_);exact QT (h _ (UZ ..) p)
theorem La{o pv:PV}{vo v:QU}{a:QN}{x:Ux}(SC:fZ K)(X:K.In hs)(hx:bj a=QG x)(R:ah prog w hs s.heap ads σ)(ro:av s.heap ads o vo)(rv:av s.heap ads pv v):
  SP prog w hs QR s ads σ (pd o a pv) (λQ=>Rh (Rf prog w) A (qaA vo x v) Q E s) RU:=by
 refine SP.p (V:=λvo Q=>Rh (Rf prog w) A (qaA vo x v) Q E s) ro λn p hp=>SP.k λob ho=> ?_
 induction ob using AO.casesOn with
 |C c fs=>
  (refine eu (λhne g1 z_44 Z hat=> ?_) (R.NW n p _ hp ho);revert z_44;refine bq λes m' g2 fr=> ?_)
  refine SP.c λhc=> ?_;have hc:=aT hc;have hl:fs.length<50:=lB hc.1;refine yk (λx' hx' s1 s2 s3 s4 s5 s6=> ?_) (SC.Np c a hc.2);obtain rfl:=QS (hx.symm.trans hx');have fp:=fr.i (t:=s.toks+1) hx rv;have hz:=vU a pv fs;intro Z Z e Q H;refine KZ (λb o e=>R.NX b o (X b o e)) g1 g2 s4 s5 s6 s2 fr.b (by rw[fp.g];exact QK hz (QK hl (by decide))) λh' sb g2'=> ?_;have hk:∀b o,b≠p.1→b≠p.2→s.heap.get? b=QG o→h'.get? b=QG o:=λb o Z h2 e=>jX sb b o h2 e;exact SP.u (o:=.C c (iI a pv fs)) R hp hk (λk=>(qQ hne (jX sb _ _ hne g1) (fy _ _ g2' (fp.a k)) (QK hz hl) (vT (P:=λa=>kG c a=QO) hc.2 hat))) Tu (λZ h=>h) _ _ e Q H
 |_=>exact SP.b
end
end Mine
end
section
open PySem PySem.W PySem.Calls PyProof.Rows
namespace Mine
structure fF(prog:RP)(w:Sn):Prop where
 Qy:∀(A:SY) (E:QU→QZ→Prop) (s:QZ) (Q:QU→QZ→Prop),A.handled=RM→
  (∀v h' tk,eU s.heap h'→cC h' v 0→Q (.ref v) {s with heap:=h',toks:=tk})→Rh (Rf prog w) A (Ur (.type "frozenset") []) Q E s
 of:∀(A:SY) (E:QU→QZ→Prop) (s:QZ) (a:RK) (vs:QI QU) (l:QI PV) (m:QN) (Q:QU→QZ→Prop),A.handled=RM→
  s.heap.PlainList a vs.toArray→aA s.heap [] l vs→hU l=QG m→l.length≤aR→
  (∀v h' tk,eU s.heap h'→cC h' v m→Q (.ref v) {s with heap:=h',toks:=tk})→Rh (Rf prog w) A (Ur (.type "frozenset") [.ref a]) Q E s
theorem qU(x:RW):∀l:QI RW,(iK x l).Perm (x::l)
 |[]=>.refl _
 |z::r=>by
  rw[wU]
  induction Rc (x≤z) using QL with
  |true=>exact .refl _
  |false=>exact((qU x r).cons z).trans (.swap x z r)
theorem wV{x:RW}:∀{l:QI RW},l.Pairwise (·≤·)→(iK x l).Pairwise (·≤·)
 |[],Z=>List.pairwise_singleton _ _
 |z::r,h=>by
  have p:=WV.mp h;rw[wU]
  induction e:Rc (x≤z) using QL with
  |true=>
   have a:=Rl e;exact WV.mpr ⟨λy b=>(mC b).elim (λq=>q▸a) λm=>RN a (p.1 y m),h⟩
  |false=>
   have a:=Vb e;exact WV.mpr ⟨λy b=>(mC ((qU x r).mem_iff.mp b)).elim (λq=>q▸qek (Int.not_le.mp (Vb e))) (p.1 y),wV p.2⟩
theorem tn:∀l:QI RW,(jD l).Perm l
 |[]=>.refl _
 |x::r=>(qU x _).trans ((tn r).cons x)
theorem zR:∀l:QI RW,(jD l).Pairwise (·≤·)
 |[]=>qeh
 |Z::r=>wV (zR r)
theorem Lk{l ns:QI RW}(p:ns.Perm l)(hs:ns.Pairwise (·≤·)):ns=jD l:=
 (p.trans (tn l).symm).eq_of_pairwise (λZ Z Z Z h a=>Int.le_antisymm h a) hs (zR l)
theorem ru{n:QN}(h:n≤aR):(n:RW)<2^63:=by exact Zo (Sz.mpr h) (by decide)
section
variable{prog:RP}{w:Sn}{hs:RI}{ads:aH}{σ:af}{A:SY}{E:QU→QZ→Prop}{s:QZ}{q:RG}{d:QN}
theorem xc{h:RI}:∀{vs:QI QU} {ns:QI RW},IntsAre vs ns→aA h ads (ns.map .A) vs
 |_,_,.nil=>QJ
 |_,_,.cons _ t r=>(cX _ _ QJ ⟨t,QJ⟩ (xc r))
theorem xr{h:RI}:∀{a:QI QU} {kvs:QI (RW×PV)} {n:QI (RW×QU)},a.length=n.length→ba h ads (·=·) kvs n→
  (∀(j:QN) (u:QU),a[j]?=QG u→∃k x,n[j]?=QG (k,x)∧(Ub prog w).is k u=QO)→IntsAre a (kvs.map (·.1))
 |a,[],Z,m,r,U=>by
  obtain rfl:=(show _=[] from r);obtain rfl:a=[]:=TX m;exact .nil
 |a,b::kvs,Z,m,z,f=>by
  revert z;refine fg λk v r e o Z p=> ?_;subst e
  induction a using Rm with
  |nil=>cases m
  |cons u a=>
   refine bq (λD F y B=> ?_) (f 0 u QJ)
   (refine oA (λc g=> ?_) (sP y);subst c;revert g;intro i;subst i)
   (refine oE (λt l=> ?_) (qbY B);subst l)
   rw[Tq,o];exact .cons _ _ (xr (Ve m) p λj u C=>f (j+1) u C)
theorem SP.l{C D:Type}{f:PV→M C}{V:QI QU→(D→QZ→Prop)→Prop}{RV:RI→aH→C→D→Prop}{h:RI}{B:aH}{args:QI PV}{c:QI QU}(e:aA h B args c)
  (k:∀x v,args=[x]→av h B x v→SP prog w hs q s ads σ (f x) (V [v]) RV):SP prog w hs q s ads σ ((fh args).a f) (V c) RV:=by
 induction args using Rm with
 |nil=>exact SP.b
 |cons x r=>
  induction r using Rm with
  |nil=>exact e.elim λv z=>z.elim λr z=>z.1▸(show r=[] from z.2.2)▸k x v QJ z.2.1
  |cons Z U=>exact SP.b
theorem SP.F{l:QI PV}{vs:QI QU}{a:RK}{c:RI}{tk:QN}{W:(QU→QZ→Prop)→Prop}(R:ah prog w hs s.heap ads σ)(k:eU s.heap c)(n:s.heap.get? a=RM)(f:3<a)(g:c.PlainList a vs.toArray)
  (r:aA s.heap ads l vs) (i:l.length≤aR) (h:∀Q,Q (.ref a) {s with heap:=c,toks:=tk}→W Q):SP prog w hs q s ads σ (.j (.A l)) W av:=
 SP.B (p:=(a,a)) R k ⟨n,f⟩ ⟨n,f⟩ (cW QJ vs g (aA.b ⟨UT ..,λb o e Z=>k b o e⟩ l r) i) h
theorem Ll{n:QN}{p:RK×RK}{kvs:QI (RW×PV)}(hm:br A d)(R:ah prog w hs s.heap ads σ)(D:ads[n]?=QG p)(e:σ[n]?=QG (.B kvs))(m:kvs.length≤40):
  SP prog w hs q s ads σ (.j (.A ((jD (kvs.map (·.1))).map .A))) (λQ=>Rh (Rf prog w) A (Ur (.builtin "sorted") [.ref p.1]) Q E s) av:=by
 refine cj (λZ G J I Z=> ?_) (R.NW n p _ D e);refine oE (λW v=> ?_) (J.dictAt);have l:G.length=kvs.length:=I.a;intro Z Z K Q H;refine Calls.call_function_entry kind_sorted plain_sorted entry_sorted (args_sorted1 _) ?_;refine QH (QT ?_);refine QH (kdu_collect (kdl_dict (R.Oe (ai p (Rg D) (.inl QJ)))) hm.Qh v (by rw[l,WN];exact QK m (Sq _ _)) λr X c x f=> ?_);have g:c.toList.length=G.length:=by rw[RT];exact f.1
 refine QH (wpAny_newList ?_ (by rw[g,l,WN];exact QK m (Sq _ _)));have y:IntsAre c.toList (kvs.map (·.1)):=xr g I λj u L=>f.2 j u (by rw[←Wi];exact L);have z:(r.push {cls:=.type "list",data:=.seq c.toList.toArray}).get? r.objs.size=QG (seqObj "list" c.toList.toArray 0):=RY _ QJ;refine QH (RA (Vo slot_list_sort (ai _ z QJ) entry_list_sort (list_sort_tree z y (by rw[g,l];exact Rp m (by decide)) λout M N O P=>(ai _ QJ ?_)) (args_list_sort _)));refine oE (λS C=> ?_) (sortedHeap_at (out:=out) z);refine oE (λY T=> ?_) (R.Og);refine QT (ai _ QJ (SP.F R (λb o U=> ?_) ?_ (SS (x _ _ (R.NX _ _ T))) ⟨S,by simpa using C⟩ (Lk O P▸xc N) ?_ (λZ h=>h) _ _ K Q H))
 ·have i:=x b o U
  have t:=SS i;have k:b≠r.objs.size:=Tj t;rw[sortedHeap_old k (by rw[size_push'];exact VA t),Heap.get?_push_ne _ _ _ k];exact i
 ·induction V:s.heap.get? r.objs.size using QQ with
  |none=>rfl
  |some o=>exact Ro (SS (x _ _ V)) (Ts _)
 ·rw[QP,(tn _).length_eq,QP]
  exact QK m (by decide)
theorem xn{u:QU}{x:PV}{T:WD}{b:RG}(p:ij x=QO)(r:av s.heap ads x u)(k:(T="bool" ∧b=nT x)∨(T="tuple" ∧b=iM x)){Q:QU→QZ→Prop}
  (H:∀tk,Q (.bool b) {s with toks:=tk}):Rh (Rf prog w) A (Ur (.builtin "isinstance") [u,.type T]) Q E s:=by
 have y:∀{t:WD} {b1 b2:RG},nT x=b1→iM x=b2→kitOne [] (.type t) (.type "bool")=QG b1→kitOne [] (.type t) (.type "tuple")=QG b2→kitOne [] (.type t) (.type T)=QG b:=λm v B I=>
  k.elim (λz=>z.1▸z.2.trans m▸B) λz=>z.1▸z.2.trans v▸I
 induction x using PV.casesOn with
 |G=>exact(show u=.none from r)▸qcq kitx_none (λZ Z h=>by exact aI h) Tu (y QJ QJ (by decide+kernel) (by decide+kernel)) (by simp) H
 |D c=>exact(show u=.bool c from r)▸qcq kitx_bool (λZ Z h=>by exact aI h) Tu (y (b1:=QO) (b2:=QR) QJ QJ (by decide+kernel) (by decide+kernel)) (by simp) H
 |A i=>exact r.elim λt e=>e▸qcq kitx_int (λZ Z h=>by exact aI h) Tu (y (b1:=QR) (b2:=QR) QJ QJ (by decide+kernel) (by decide+kernel)) (by simp) H
 |C c=>exact r.elim λx z=>z.elim λt z=>z.2▸qcq kitx_str (λZ Z h=>by exact aI h) Tu (y (b1:=QR) (b2:=QR) QJ QJ (by decide+kernel) (by decide+kernel)) (by simp) H
 |F l=>
  (revert r;refine cv λa o J n f j=> ?_;subst f;revert j;refine bk λg c Z=> ?_)
  exact qcq kitx_tuple (λZ Z h=>by exact aI h) (ai _ g c) (y (b1:=QR) (b2:=QO) QJ QJ (by decide+kernel) (by decide+kernel)) (by simp) H
 |_=>exact aD p
theorem uL:∀{l:QI PV} {vs:QI QU} {m:QN},aA s.heap ads l vs→hU l=QG m→aA s.heap [] l vs
 |[],Z,U,r,Y=>r
 |x::l,Z,m,f,h=>by
  revert f;refine cm λv t e a b=> ?_
  induction x using PV.casesOn with
  |A i=>
   have h:Sr (Rc (0≤i∧i<9)) ((hU l).map λm=>m|||2^i.toNat) RM=QG m:=h
   induction c:Rc (0≤i∧i<9) using QL with
   |true=>
    rw[c] at h;exact(mS h).elim λg z=>(cX v t e a (uL b z.1))
   |false=>rw[c] at h;exact aI h
  |_=>exact aI h
theorem sS{a b c:RW}{t u v:Tok}{tk:QN}{W:(QU→QZ→Prop)→Prop}(R:ah prog w hs s.heap ads σ)
  (h:∀Q,Q (.ref s.heap.objs.size) {s with heap:=s.heap.push {cls:=.type "range",data:=.fields #[.int a t,.int b u,.int c v]},toks:=tk}→W Q):SP prog w hs q s ads σ (.b (.I a b c)) W av:=
 SP.y (λZ Z e=>Rw _ e) R (fP _ t u v QJ (RY _ QJ)) h
theorem Kc{args:QI PV}{l:QI QU}(R:ah prog w hs s.heap ads σ)(e:aA s.heap ads args l):SP prog w hs q s ads σ (sR args) (λQ=>Rh (Rf prog w) A (Ur (.type "range") l) Q E s) av:=by
 induction args using Rm with
 |nil=>exact SP.b
 |cons x r=>
  (revert e;refine bq λv B i j=> ?_;subst i;revert j;refine oA λD e=> ?_)
  dsimp only[sR];refine SP.g (V:=λv Q=>Rh (Rf prog w) A (Ur (.type "range") (v::B)) Q E s) D λa t=> ?_
  induction r using Rm with
  |nil=>
   obtain rfl:B=[]:=e;exact SP.c λZ=>sS R λQ h=>call_range_1 h
  |cons y r=>
   (revert e;refine bq λC k m n=> ?_;subst m;revert n;refine oA λF e=> ?_)
   refine SP.g (V:=λC Q=>Rh (Rf prog w) A (Ur (.type "range") (.int a t::C::k)) Q E s) F λb G=> ?_
   induction r using Rm with
   |nil=>
    obtain rfl:k=[]:=e;exact SP.c λZ=>sS R λQ h=>call_range_2 h
   |cons z r=>
    (revert e;refine bq λo f p u=> ?_;subst p;revert u;refine oA λH e=> ?_)
    refine SP.g (V:=λo Q=>Rh (Rf prog w) A (Ur (.type "range") (.int a t:: .int b G::o::f)) Q E s) H λc I=> ?_
    induction r using Rm with
    |nil=>
     obtain rfl:f=[]:=e;refine SP.c λJ=> ?_;obtain rfl:=Rl (aT J).2;exact sS R λQ h=>call_range_3 (by decide) h (.inl (xN (by decide)))
    |cons Z U=>exact SP.b
theorem GQ{x:PV}{v:QU}(R:ah prog w hs s.heap ads σ)(C:av s.heap ads x v):SP prog w hs q s ads σ ((oc x).a λn=>.b (.A n)) (λQ=>Rh (Rf prog w) A (Ur (.builtin "len") [v]) Q E s) av:=by
 induction x using PV.casesOn with
 |I a b c=>
  (revert C;refine cv λp t u x i g=> ?_;subst i)
  have:(oc (.I a b c)).a (λn=>.b (PV.A n))=M.c (Um (cF a b c) aR&&Rc (c≠0)) (.b (PV.A (cF a b c))):=by
   funext σ
   show QX (Sr _ _ _) _=Sr _ _ _
   induction (Um (cF a b c) aR&&Rc (c≠0)) using QL<;>rfl
  rw[this];refine SP.c λm=> ?_;have m:=aT m;exact SP.a R ⟨_,QJ⟩ λQ h=>call_len_range g (oW a b c (Rl m.2)) (ru (lB m.1)) h
 |B n=>
  (revert C;refine ag λp r j=> ?_;subst j)
  have:(oc (.B n)).a (λk=>.b (PV.A k))=(M.f n).a λo=>(match o with| .A l=>(.b (l.length:RW):M RW)| .B y=>.b (y.length:RW)|_=>.g).a λk=>.b (.A k):=by
   funext σ;exact YY ..
  rw[this];refine SP.k λH D=> ?_
  induction H using AO.casesOn with
  |A l=>
   refine cj (λZ F g J z=> ?_) (R.NW n p _ r D);have e:F.toArray.size=l.length:=by rw[RZ,J.a]
   exact SP.a (RV:=av) (a:=PV.A l.length) (v:=VR F.toArray.size (s.toks+1)) R ⟨s.toks+1,by rw[e]⟩ λQ h=>Calls.call_len_list g.isList (by rw[e];exact ru z) h
  |B l=>
   refine cj (λZ G g K z=> ?_) (R.NW n p _ r D);have e:G.length=l.length:=K.a;exact SP.a (RV:=av) (a:=PV.A l.length) (v:=VR G.length (s.toks+1)) R ⟨s.toks+1,by rw[e]⟩ λQ h=>call_len_dict (knd:=Ub prog w) (R.Oe (ai p (Rg r) (.inl QJ))) g (by rw[e];exact ru z) h
  |_=>exact SP.b
 |_=>exact SP.b
theorem GR{x:PV}{v:QU}(R:ah prog w hs s.heap ads σ)(y:av s.heap ads x v):SP prog w hs q s ads σ ((fV x).a cR) (λQ=>Rh (Rf prog w) A (Ur (.type "list") [v]) Q E s) av:=by
 induction x using PV.casesOn with
 |F l=>
  (revert y;refine cv λa o z n f r=> ?_;subst f;revert r;refine eu λg c C i Z=> ?_)
  refine SP.c λe=> ?_;have e:=lB e;intro Z Z j Q H;refine call_list_seq _ (.inr QJ) g c C (λD k t u=> ?_) (by rw[RZ,i.a];exact dT e);exact SP.F R t (dI _) R.Oc ⟨k,u⟩ i e (λZ h=>h) _ _ j Q H
 |B n=>
  refine SP.o (V:=λv Q=>Rh (Rf prog w) A (Ur (.type "list") [v]) Q E s) R y λZ p l z Z Z Z g i Z=>SP.c λe=> ?_;have e:=lB e
  (revert g;refine oE λm g=> ?_)
  intro Z Z j Q H;refine call_list_seq _ (.inl QJ) g QJ QJ (λD k t u=> ?_) (by rw[RZ,i.a];exact dT e);exact SP.F R t (dI _) R.Oc ⟨k,u⟩ i e (λZ h=>h) _ _ j Q H
 |_=>exact SP.b
theorem Mg{x:PV}{v:QU}(R:ah prog w hs s.heap ads σ)(j:av s.heap ads x v):SP prog w hs q s ads σ ((fV x).a iN) (λQ=>Rh (Rf prog w) A (Ur (.type "tuple") [v]) Q E s) av:=by
 induction x using PV.casesOn with
 |F l=>
  refine SP.c λf=> ?_;have m:=j
  (revert j;refine cv λa o t n i r=> ?_;subst i;revert r;refine eu λg c z Z Z=> ?_)
  exact SP.a R m λQ h=>call_tuple_tup (gF o g c n z) h
 |B n=>
  refine SP.o (V:=λv Q=>Rh (Rf prog w) A (Ur (.type "tuple") [v]) Q E s) R j λZ p l t Z Z Z g u Z=>SP.c λf=> ?_;have f:=lB f;intro Z Z C Q H;refine call_tuple_list g.isList (λD G=> ?_) (by rw[RZ,u.a];exact dT f);have k:eU s.heap (D.push {cls:=qbJ "tuple",data:=Data.seq t.toArray}):=λb o e=>Rw _ (G b o e);exact SP.y k R (jn _ _ t _ QJ (RY _ QJ) QJ QJ (aA.b (aP.MM ads k).MN l u) f) (λZ h=>h) _ _ C Q H
 |_=>exact SP.b
theorem DB{n:QN}{p:RK×RK}{kvs:QI (RW×PV)}(R:ah prog w hs s.heap ads σ)(f:ads[n]?=QG p)(e:σ[n]?=QG (.B kvs))(l:kvs.length≤aR):
  SP prog w hs q s ads σ (.j (.B kvs)) (λQ=>Rh (Rf prog w) A (Ur (.type "dict") [.ref p.1]) Q E s) av:=by
 refine cj (λZ m r k Z=> ?_) (R.NW n p _ f e);intro Z Z v Q H;refine kt_call_dict (R.Oe (ai p (Rg f) (.inl QJ))) r (by rw[k.a];exact dT l) λt c u=> ?_;have g:eU s.heap t:=λb o i=>(u.2 b (Tj (SS i))).trans (Rw _ i)
 exact SP.B (o:=.B kvs) (p:=(s.heap.objs.size,s.heap.objs.size)) R g ⟨dI _,R.Oc⟩ ⟨dI _,R.Oc⟩
  (cW QJ m c (k.b ⟨UT ..,λb o e Z=>g b o e⟩) l) (λZ h=>h) _ _ v Q H
theorem EX{args:QI PV}{b:QI QU}(M:fF prog w)(hm:br A d)(R:ah prog w hs s.heap ads σ)(j:aA s.heap ads args b):SP prog w hs q s ads σ (qM args) (λQ=>Rh (Rf prog w) A (Ur (.type "frozenset") b) Q E s) av:=by
 induction args using Rm with
 |nil=>
  obtain rfl:b=[]:=j;intro Z Z k Q H;exact M.Qy A E s Q hm.Qh λv B C t f=>SP.y (RV:=av) (a:=PV.H 0) t R (ai v QJ f) (λZ h=>h) _ _ k Q H
 |cons x r=>
  dsimp only[qM];refine SP.l (V:=λu Q=>Rh (Rf prog w) A (Ur (.type "frozenset") u) Q E s) j λx v Z D=>SP.o (V:=λv Q=>Rh (Rf prog w) A (Ur (.type "frozenset") [v]) Q E s) R D λZ p l u Z Z Z g j F=>SP.c λZ=>SP.n λG e=> ?_
  (refine ag (λm z i=> ?_) (mS e);subst i)
  intro Z Z k Q H;exact M.of A E s _ u l m Q hm.Qh g (uL j z) z F λv B C t f=>SP.y (RV:=av) (a:=PV.H m) t R (ai v QJ f) (λZ h=>h) _ _ k Q H
theorem Ap{c b:RG}:((M.c c (M.b b)).a λb=>M.b (PV.D b))=M.c c (M.b (PV.D b)):=by induction c using QL<;>rfl
theorem Gr{args:QI PV}{l:QI QU}(R:ah prog w hs s.heap ads σ)(f:aA s.heap ads args l):SP prog w hs q s ads σ (xi args) (λQ=>Rh (Rf prog w) A (Ur (.builtin "isinstance") l) Q E s) av:=by
 induction args using Rm with
 |nil=>exact SP.b
 |cons x r=>
  (revert f;refine bq λv L h i=> ?_;subst h;revert i;refine oA λG f=> ?_)
  induction r using Rm with
  |nil=>exact SP.b
  |cons y r=>
   (revert f;refine bq λI z j k=> ?_;subst j;revert k;refine oA λK f=> ?_)
   induction y using PV.casesOn with
   |J g=>
    obtain rfl:I=g.qa:=K
    induction r using Rm with
    |nil=>
     obtain rfl:z=[]:=f
     induction g using GV.casesOn with
     |J=>
      show SP prog w hs q s ads σ ((M.c (ij x) (.b (nT x))).a λb=>.b (PV.D b)) _ av;rw[Ap];refine SP.c λB=> ?_
      exact λZ Z e Q H=>xn B G (.inl ⟨QJ,QJ⟩) λF=>by
       (refine oA (λm n=> ?_) (sP e);subst m;revert n;intro o;subst o)
       exact H _ s.heap ads F R (Mv.Qr ..) QJ
     |C=>
      show SP prog w hs q s ads σ ((M.c (ij x) (.b (iM x))).a λb=>.b (PV.D b)) _ av;rw[Ap];refine SP.c λB=> ?_
      exact λZ Z e Q H=>xn B G (.inr ⟨QJ,QJ⟩) λF=>by
       (refine oA (λp t=> ?_) (sP e);subst p;revert t;intro u;subst u)
       exact H _ s.heap ads F R (Mv.Qr ..) QJ
     |_=>exact SP.b
    |cons Z U=>induction g using GV.casesOn<;>exact SP.b
   |_=>exact SP.b
theorem CX{g:GV}{args:QI PV}{j:QI QU}(K:fF prog w)(hm:br A d)(R:ah prog w hs s.heap ads σ)(f:aA s.heap ads args j):
  SP prog w hs q s ads σ (lR g args) (λQ=>Rh (Rf prog w) A (Ur g.qa j) Q E s) av:=by
 induction g using GV.casesOn with
 |D=>
  exact SP.l (V:=λe Q=>Rh (Rf prog w) A (Ur (.builtin "len") e) Q E s) f λx v Z r=>GQ R r
 |M=>
  exact SP.l (V:=λe Q=>Rh (Rf prog w) A (Ur (.type "list") e) Q E s) f λx v Z r=>GR R r
 |C=>
  exact SP.l (V:=λe Q=>Rh (Rf prog w) A (Ur (.type "tuple") e) Q E s) f λx v Z r=>Mg R r
 |F=>
  dsimp only[lR,GV.qa];refine SP.l (V:=λe Q=>Rh (Rf prog w) A (Ur (.type "dict") e) Q E s) f λx v Z r=>SP.p (V:=λv Q=>Rh (Rf prog w) A (Ur (.type "dict") [v]) Q E s) r λn p u=>SP.k λo y=> ?_
  induction o using AO.casesOn with
  |B z=>exact SP.c λJ=>DB R u y (lB J)
  |_=>exact SP.b
 |N=>exact Kc R f
 |I=>
  dsimp only[lR,GV.qa];refine SP.l (V:=λe Q=>Rh (Rf prog w) A (Ur (.builtin "sorted") e) Q E s) f λx v Z r=>SP.p (V:=λv Q=>Rh (Rf prog w) A (Ur (.builtin "sorted") [v]) Q E s) r λn p u=>SP.k λo y=> ?_
  induction o using AO.casesOn with
  |B z=>exact SP.c λJ=>Ll hm R u y (lB J)
  |_=>exact SP.b
 |L=>exact Gr R f
 |H=>
  refine SP.l (V:=λe Q=>Rh (Rf prog w) A (Ur (.type "int") e) Q E s) f λx v Z r=> ?_
  induction x using PV.casesOn with
  |A i=>(revert r;refine oE λt m=> ?_;subst m);exact SP.a R ⟨t,QJ⟩ λQ h=>call_int_int h
  |D b=>obtain rfl:v=.bool b:=r;induction b using QL<;>exact SP.a R ⟨_,QJ⟩ λQ h=>call_int_bool h
  |_=>exact SP.b
 |G=>exact EX K hm R f
 |_=>exact SP.b
end
theorem nO:Manifest.owners.lookup (String.ofList ['t','e','s','n','e','z','o','r','f'].reverse)=QG Manifest.sig_frozenset:=QJ
theorem wx:Slot "frozenset" (dunder "or") "frozenset.__or__" :=
 .of (owner:="frozenset") (n:="__or__") (by rw[Uw,To];kernel_rfl) (by decide+kernel) (by decide+kernel) (by decide+kernel)
  (by first|exact .inl (by decide+kernel)|exact .inr (by decide+kernel)) (by rw[VM];kernel_rfl)
theorem wy:Slot "frozenset" (dunder "sub") "frozenset.__sub__" :=
 .of (owner:="frozenset") (n:="__sub__") (by rw[Uw,To];kernel_rfl) (by decide+kernel) (by decide+kernel) (by decide+kernel)
  (by first|exact .inl (by decide+kernel)|exact .inr (by decide+kernel)) (by rw[VM];kernel_rfl)
theorem wu:Slot "frozenset" (cmpInfo .NotEq).2.1 "frozenset.__ne__" :=
 .of (owner:="frozenset") (n:="__ne__") (by rw[Uw,To];kernel_rfl) (by decide+kernel) (by decide+kernel) (by decide+kernel)
  (by first|exact .inl (by decide+kernel)|exact .inr (by decide+kernel)) (by rw[VM];kernel_rfl)
theorem wt:Slot "frozenset" "__contains__" "frozenset.__contains__" :=
 .of (owner:="frozenset") (n:="__contains__") (by rw[Uw,To];kernel_rfl) (by decide+kernel) (by decide+kernel) (by decide+kernel)
  (by first|exact .inl (by decide+kernel)|exact .inr (by decide+kernel)) (by rw[VM];kernel_rfl)
theorem Eu:fillsNumberSlot (.type "frozenset") "or" =UK true:=
 qdL (id:="frozenset.__or__") (r:=QG (.builtin "frozenset.__ror__")) (by rw[Uw,To];kernel_rfl) (by decide+kernel) (by rw[Uw,To];kernel_rfl)
theorem Ew:fillsNumberSlot (.type "frozenset") "sub" =UK true:=
 qdL (id:="frozenset.__sub__") (r:=QG (.builtin "frozenset.__rsub__")) (by rw[Uw,To];kernel_rfl) (by decide+kernel) (by rw[Uw,To];kernel_rfl)
theorem El(a b:QU):qaD "frozenset.__or__" ⟨[a,b],[]⟩:=by
 unfold qaD;rw[ZK (id:="frozenset.__or__") (n:=['_','_','r','o','_','_']) (o:=['t','e','s','n','e','z','o','r','f']) (by kernel_rfl) nO];kernel_rfl
theorem Em(a b:QU):qaD "frozenset.__sub__" ⟨[a,b],[]⟩:=by
 unfold qaD;rw[ZK (id:="frozenset.__sub__") (n:=['_','_','b','u','s','_','_']) (o:=['t','e','s','n','e','z','o','r','f']) (by kernel_rfl) nO];kernel_rfl
theorem Ek(a b:QU):qaD "frozenset.__ne__" ⟨[a,b],[]⟩:=by
 unfold qaD;rw[ZK (id:="frozenset.__ne__") (n:=['_','_','e','n','_','_']) (o:=['t','e','s','n','e','z','o','r','f']) (by kernel_rfl) nO];kernel_rfl
theorem Ej(a b:QU):qaD "frozenset.__contains__" ⟨[a,b],[]⟩:=by
 unfold qaD;rw[ZK (id:="frozenset.__contains__") (n:=['_','_','s','n','i','a','t','n','o','c','_','_']) (o:=['t','e','s','n','e','z','o','r','f']) (by kernel_rfl) nO];kernel_rfl
theorem Es:qbh table "frozenset.__or__" =QG Builtin.«frozenset.__or__»:=WE QJ
theorem Et:qbh table "frozenset.__sub__" =QG Builtin.«frozenset.__sub__»:=WE QJ
theorem Er:qbh table "frozenset.__ne__" =QG Builtin.«frozenset.__ne__»:=WE QJ
theorem Ep:qbh table "frozenset.__contains__" =QG Builtin.«frozenset.__contains__»:=WE QJ
theorem wg:qbh table "frozenset.__new__" =QG Builtin.«frozenset.__new__»:=WE QJ
theorem wz:isSubtype (.type "frozenset") (.type "set")=UK false:=by rw[VM];kernel_rfl
theorem kQ:isSubtype (.type "frozenset") (.type "frozenset")=UK true:=by rw[VM];kernel_rfl
noncomputable def nx:QN→QN→QN
 |0,i=>i
 |d+1,i=>nx d ((i*5+1)%8)
theorem HU:((RE 8).all λi=>(RE 8).all λj=>(RE 8).any λd=>nx d i==j)=true:=by decide
theorem HV{i j:QN}(a:i<8)(b:j<8):∃d,d<8∧nx d i=j:=by
 have h:=SX.mp (SX.mp HU i (Vh.mpr a)) j (Vh.mpr b);refine ag (λd c e=> ?_) (UQ.mp h);exact(ai d (Vh.mp c) (VC e))
theorem vV{s f i p:QN}{o:TS (Rz QN)}:TA s o (f+1) i p=((RE (Vj s i+1-i)).find? λk=>(o.getD (i+k) (QG 0)).isNone).elim (TA s o f (qcs s i p).1 (qcs s i p).2) λk=>QG (i+k):=by kernel_rfl
theorem vW{k f i p:QN}{o:TS (Rz QN)}(h:o.getD i (QG 0)=RM):TA k o (f+1) i p=QG i:=by
 have r:i≤Vj k i:=by unfold Vj;split;exact Sh _ _;exact Sd _
 rw[vV];rw[show Vj k i+1-i=(Vj k i-i)+1 from Nat.sub_add_comm r,List.range_succ_eq_map,TP,qbu,h]
 rfl
theorem vX{o:TS (Rz QN)}:∀(d f i p:QN),d<f→p<32→i<8→o.getD (nx d i) (QG 0)=RM→∃j,TA 7 o f i p=QG j∧o.getD j (QG 0)=RM
 |d,0,Z,U,h,Y,O,c=>Ro h (VS d)
 |d,f+1,i,p,b,g,l,a=>by
  induction e:o.getD i (QG 0) using QQ with
  |none=>exact(ai i (vW e) e)
  |some k=>
   induction d using Uo with
   |zero=>rw[show o.getD (nx 0 i) (QG 0)=o.getD i (QG 0) from QJ,e] at a;exact bV a
   |succ d=>
    rw[vV];rw[show Vj 7 i=i by unfold Vj;rw[SK (by simp)],qbd,show RE 1=[0] from QJ,TP,qbu,e];show∃j,TA 7 o f ((i*5+1+p/32)%8) (p/32)=QG j∧_;rw[show p/32=0 by simp_all,qbu];exact vX d f _ 0 (Yh b) (by decide) (qaI _ (by decide)) a
def gZ(s k:QN)(o:TS (Rz QN)):Prop:=o.size=s+1∧(o.toList.filterMap id).Perm (RE k)
theorem zO{k:QN}:∀(l:QI (Rz QN)) (j:QN),l[j]?=QG RM→((l.set j (QG k)).filterMap id).Perm (k::l.filterMap id)
 |[],Z,h=>aI h
 |a::l,0,h=>by
  obtain rfl:a=none:=QS h;exact .refl _
 |a::l,j+1,h=>by
  have i:=zO (k:=k) l j h
  induction a using QQ with
  |none=>exact i
  |some x=>exact(i.cons x).trans (.swap k x _)
theorem Fs{o:TS (Rz QN)}{j:QN}(h:o.getD j (QG 0)=RM):j<o.size∧o.toList[j]?=QG none:=by
 rw[Wi];rw[Uj] at h
 induction e:o[j]? using QQ with
 |none=>rw[e] at h;exact bV h
 |some x=>
  rw[e] at h;exact⟨(WQ.mp e).1,RH QG h⟩
theorem gZ.b{s k j:QN}{o:TS (Rz QN)}(h:gZ s k o)(a:o.getD j (QG 0)=RM):gZ s (k+1) (o.setIfInBounds j (QG k)):=by
 refine⟨(Array.size_setIfInBounds ..).trans h.1,?_⟩;rw[Array.toList_setIfInBounds,Yi];exact((zO _ _ (Fs a).2).trans (h.2.cons k)).trans (List.perm_append_singleton k _).symm
theorem zQ:∀{l:QI (Rz QN)},(∀j:QN,l[j]?≠QG RM)→(l.filterMap id).length=l.length
 |[],Z=>QJ
 |none::l,h=>Ro QJ (h 0)
 |some x::l,h=>RH (·+1) (zQ λj=>h (j+1))
theorem gZ.a{s k:QN}{o:TS (Rz QN)}(h:gZ s k o)(b:k≤s):∃j,j≤s∧o.getD j (QG 0)=none:=by
 refine ZP λn=> ?_
 have:=zQ (l:=o.toList) λj e=>by
  rw[Wi] at e;have c:=(WQ.mp e).1;refine n (ai j (SM (VT c h.1)) ?_);rw[Uj,e]
  rfl
 rw[h.2.length_eq,RC,RT,h.1] at this;exact Ro (QK (Sx this.symm) b) (YK s)
theorem Bx{i:QN}(h:i<9):Vl (i:RW)=i:=by
 unfold Vl;rw[Int.emod_eq_of_lt (by simp) (Yl (Ug.mpr h) (by decide))]
 rfl
theorem xv{s:QN}:∀(c:QI RW) (k:QN) (o:TS (Rz QN)),gZ s k o→(∀h∈c,∃i:QN,i<9∧h=i)→c.Nodup→(9≤s∧(∀i:QN,(i:RW)∈c→o.getD i (QG 0)=RM)∨s=7∧k+c.length≤7)→
  ∃n,c.foldl (λacc h=>do let(owner,k)←acc;let j←TA s owner (XS s) (Vl h%(s+1)) (Vl h);UK (owner.setIfInBounds j (QG k),k+1)) (QG (o,k))=QG (n,k+c.length)∧gZ s (k+c.length) n
 |[],k,o,h,Z,U,Y=>(ai o QJ h)
 |x::c,k,o,h,A,p,q=>by
  (refine ag (λi v f=> ?_) (A x (QM ..));subst f)
  refine have p:=SO.mp p;?_
  have:∃j,TA s o (XS s) (Vl i%(s+1)) (Vl i)=QG j∧o.getD j (QG 0)=RM∧(9≤s→j=i):=by
   rw[Bx v]
   (revert q;refine oO (oA λr t=> ?_) (oA λg u=> ?_)<;>try subst g)
   ·rw[Nat.mod_eq_of_lt (VA (Rj v r))]
    exact(bz i (vW (t i (QM ..))) (t i (QM ..)) λZ=>QJ)
   ·refine ag (λj C D=> ?_) (h.a (show k≤7 by rw[Se] at u;exact QK (Sh _ _) u))
    refine ag (λd E e=> ?_) (HV (qaI i (by decide)) (Xz C));refine ag (λF w y=> ?_) (vX d (XS 7) (i%8) i (by show d<22;exact QK E (Sq _ _)) (QK v (Sq _ _)) (qaI i (by decide)) (by rw[e];exact D));exact(bz F w y λh=>Ro h (by decide))
  (revert this;refine du λj w y G=> ?_)
  refine ag (λn H I=> ?_) (xv c (k+1) _ (h.b y) (λh q=>A h (QV _ q)) p.2 (by
   rcases q with⟨r,t⟩|⟨u,l⟩
   ·refine .inl ⟨r,λB m=> ?_⟩
    refine have z:j≠B:=λe=>p.1 (by rw[←G r,e];exact m);?_;rw[Uj,Array.getElem?_setIfInBounds_ne z,←Uj];exact t B (QV _ m)
   ·exact .inr ⟨u,by rw[Se] at l;rw[RO];exact l⟩))
  refine(ai n ?_ (by rw[Se,←TQ,RO];exact I));rw[qdu,Se,←TQ,RO,←H];show List.foldl _ (QX (TA s o (XS s) (Vl i%(s+1)) (Vl i)) _) c=_;rw[w]
  rfl
theorem GW(n:QN)(o:TS (Rz QN))(h:o.size=n):((RE n).filterMap λj=>(o.getD j RM).map (j,·)).map (·.2)=o.toList.filterMap id:=by
 rw[←h,←Zz o,List.filterMap_filterMap,List.map_filterMap];refine RH (λf=>qaw f (RE o.size)) (XW λj=> ?_);rw[Uj]
 induction o[j]? using QQ with
 |none=>rfl
 |some x=>induction x using QQ<;>rfl
def mN(k n:QN):Prop:=9≤k∨k=7∧n≤4
theorem Gw{k finger moves:QN}{led plain:RG}{s:TS RW}(c:∀h∈s.toList,∃i:QN,i<9∧h=i)(n:s.toList.Nodup)(f:s.size≤9)(hm:mN k s.size):
  ∃t r,qac k finger moves led plain s=QG (t,r)∧t.mask=k∧t.dummies=#[]∧t.place.size=s.size∧t.fits s.size=QO∧r.toList.Perm (RE s.size):=by
 have g:gZ k 0 (qcS (k+1) RM):=⟨Array.size_replicate,by
  rw[Array.toList_replicate,List.filterMap_replicate_of_none QJ]
  exact .refl _⟩
 have l:∀i:QN,i≤k→(qcS (k+1) (RM:Rz QN)).getD i (QG 0)=none:=λi b=>by
  rw[Uj,Array.getElem?_replicate,SH (Xz b)]
  rfl
 refine ag (λo d a=> ?_) (xv s.toList 0 _ g c n (by
  rcases hm with hm|⟨hm,m⟩
  ·exact .inl ⟨hm,λi b=>l i ((c _ b).elim λj e=>Vk e.2▸QK (Sm e.1) hm)⟩
  ·exact .inr ⟨hm,by rw[RT,SG];exact QK m (by decide)⟩))
 rw[SG,RT] at d a
 have p:qbl k s=QG o:=by
  unfold qbl;rw[←Array.foldl_toList];exact RH (QY (·.1)) d
 have e:=GW (k+1) o a.1;refine⟨_,_,by unfold qac;rw[p];rfl,QJ,QJ,?_,?_,?_⟩
 ·have:=RH Wz e
  rw[QP,a.2.length_eq,RC] at this;simp only[RZ,QP];exact this
 ·have:=RH Wz e
  rw[QP,a.2.length_eq,RC] at this;simp only[WS,WT,RZ,QP,this,UY,YQ,Ua];show s.size+0≤k;exact hm.elim (λhm=>QK f hm) λhm=>hm.1▸QK hm.2 (by decide)
 ·rw[e]
  exact a.2
structure az(es:TS (RW×QU))(t:UA)(S:QN→RG):Prop where
 MU:∀e∈es.toList,∃(i:QN) (tk:Tok),i<9∧e=((i:RW),VR i tk)
 MZ:(es.toList.map (·.1)).Nodup
 MV:∀i:QN,S i=QO↔∃e∈es.toList,e.1=(i:RW)
 MX:t.fits es.size=QO
def bA(h:RI)(a:RK)(es:TS (RW×QU))(ep:QN)(t:UA):Prop:=∃o,h.get? a=QG o∧o.cls=.type "frozenset" ∧o.dict=RM∧o.slots=#[]∧o.data=.set es ep t
def aU(h:RI)(a:RK)(S:QN→RG):Prop:=∃es ep t,bA h a es ep t∧az es t S
theorem cC.b{h:RI}{a:RK}{m:QN}(f:cC h a m):aU h a m.testBit:=
 by revert f;exact yp λo es ep t c d e i j g=>⟨es,ep,t,(iJ o c d e i j),g.OJ,g.OM,g.OL,g.OK⟩
theorem aU.d{h:RI}{a:RK}{S:QN→RG}{m:QN}(f:aU h a S)(e:∀i,S i=m.testBit i):cC h a m:=
 by revert f;exact bc λes ep t z g=>z.elim λo z=>⟨o,es,ep,t,z.1,z.2.1,z.2.2.1,z.2.2.2.1,z.2.2.2.2,g.MU,g.MZ,λi=>(e i)▸g.MV i,g.MX⟩
theorem nQ{i:QN}(h:i<9):qak (i:RW)=i:=by
 exact(by decide+kernel:∀i:Nat,i<9→hashInt (i:Int)=i) i h
theorem xE{n:QN}(h:n≤9):n<scanBound:=Rp h (by decide)
theorem FU{l:QI RW}(d:l.Nodup)(h:∀x∈l,∃i:QN,i<9∧x=i):l.length≤9:=by
 have:=d.length_le_of_subset λx b=>by
  (refine ag (λi c e=> ?_) (h x b);subst e)
  exact VZ.mpr (ai i (Vh.mpr c) QJ)
 rwa[QP,RC] at this
section
variable{es es':TS (RW×QU)}{t t':UA}{S:QN→RG}
theorem az.Nc(g:az es t S):∀x∈es.toList.map qav,∃i:QN,i<9∧x=(i:RW):=λx h=>by
 (refine ag (λe d b=> ?_) (mM h);subst b)
 (refine bq (λi k f c=> ?_) (g.MU e d);subst c)
 exact(ai i f QJ)
theorem az.MW(g:az es t S):es.size≤9:=by
 have:=FU g.MZ g.Nc;rwa[QP,RT] at this
theorem az.Nf(g:az es t S)(p:es'.toList.Perm es.toList)(f:t'.fits es'.size=QO):az es' t' S:=
 ⟨λe h=>g.MU e (p.mem_iff.mp h),(p.map _).nodup_iff.mpr g.MZ,λi=>(g.MV i).trans ⟨ag λe h q=>(ai e (p.mem_iff.mpr h) q),ag λe h q=>(ai e (p.mem_iff.mp h) q)⟩,f⟩
theorem az.MY(g:az es t S){b:QN→RG}(e:∀i,b i=S i):az es t b:=⟨g.MU,g.MZ,λi=>(e i)▸g.MV i,g.MX⟩
theorem az.Nl(g:az es t S){i:QN}{tk:Tok}(l:i<9)(k:S i=QR)(p:es'.toList.Perm (es.push ((i:RW),VR i tk)).toList)(f:t'.fits es'.size=QO):az es' t' λj=>S j||j==i:=by
 rw[qci] at p;refine⟨λe b=> ?_,?_,λj=> ?_,f⟩
 ·(refine oO (λb=> ?_) (λb=> ?_) (mA (p.mem_iff.mp b)))
  ·exact g.MU e b
  ·exact(fy i tk l (m1 b))
 ·rw[(p.map _).nodup_iff,Sg,VY]
  refine(aL g.MZ (SO.mpr ⟨Rb,UD⟩) λx m y n e=> ?_)
  (refine ag (λz o c=> ?_) (mM m);subst c)
  obtain rfl:y=(i:RW):=m1 n;rw[(g.MV i).mpr (ai z o e)] at k;exact fT k
 ·rw[Vs,g.MV j,Sk]
  refine⟨λh=> ?_,ag λe b q=> ?_⟩
  ·(revert h;refine oO (ag λe b q=> ?_) (λd=> ?_)<;>try subst d)
   ·exact(ai e (p.mem_iff.mpr (TM _ b)) q)
   ·exact(ai _ (p.mem_iff.mpr (SF _ (Ti.mpr QJ))) QJ)
  ·(refine oO (λb=> ?_) (λb=> ?_) (mA (p.mem_iff.mp b)))
   ·exact .inl (ai e b q)
   ·rw[m1 b] at q
    exact .inr (Vk q).symm
theorem az.Ni(g:az es t S)(prog:RP)(w:Sn):ElemsOf (Ub prog w) es.toList:=λe h=>by
 (refine bq (λi k c b=> ?_) (g.MU e h);subst b)
 exact⟨(ai (i:RW) (XB _ _ _ _) ((nQ c).symm)),QJ⟩
end
section
variable{prog:RP}{w:Sn}{A:SY}{E:QU→QZ→Prop}{s:QZ}{a:RK}{es es':TS (RW×QU)}{ep:QN}{t t':UA}{S:QN→RG}
theorem fN{Q:(TS (RW×QU)×QN×UA)→QZ→Prop}(h:bA s.heap a es ep t)(g:az es t S)(q:Q (es,ep,t) s):Rh (Rf prog w) A (setState a) Q E s:=
 let⟨_,b,_,_,_,c⟩:=h;wpAny_setState_of b c g.MX q
theorem jg{Q:QN→QZ→Prop}(h:bA s.heap a es ep t)(g:az es t S)(q:Q ep s):Rh (Rf prog w) A (setEpoch a) Q E s:=
 let⟨_,b,_,_,_,c⟩:=h;wpAny_setEpoch_of b c g.MX q
theorem kP{Q:TS (RW×QU)→QZ→Prop}(h:bA s.heap a es ep t)(g:az es t S)(q:Q es s):Rh (Rf prog w) A (setEntries a) Q E s:=
 let⟨_,b,_,_,_,c⟩:=h;wpAny_setEntries_of b c g.MX q
theorem jU{Q:UE→QZ→Prop}(h:bA s.heap a es ep t)(z:es'.size≤9)(q:∀b,Su a s.heap b→bA b a es' (ep+1) t'→Q () {s with heap:=b}):Rh (Rf prog w) A (storeSet a es' t') Q E s:=by
 (revert h;refine jw λo d e f g c=> ?_)
 refine wpAny_storeSet_of d c (q _ (UZ ..) (iJ (Obj.putSet es' t' o) ?_ ?_ ?_ ?_ ?_)) (fits_of_scanBound (xE z))
 ·exact UW _ d (by rw[putSet_of es' t' c];rfl)
 all_goals rw[putSet_of es' t' c]
 ·exact e
 ·exact f
 ·exact g
def mJ(es:TS (RW×QU))(S:QN→RG)(i:QN)(r:Rz QN):Prop:=r=RM∧S i=QR∨∃j e,r=QG j∧S i=QO∧es.toList[j]?=QG e∧e.1=(i:RW)
theorem Eh(g:az es t S)(i:QN):mJ es S i (es.toList.findIdx? λe=>(Ub prog w).is (i:RW) e.2):=by
 induction r:es.toList.findIdx? λe=>(Ub prog w).is (i:RW) e.2 using QQ with
 |none=>
  refine .inl ⟨QJ,?_⟩
  induction f:S i using QL with
  |false=>rfl
  |true=>
   refine ag (λe c q=> ?_) ((g.MV i).mp f);have:=List.findIdx?_eq_none_iff.mp r e c
   (refine bq (λk l Z b=> ?_) (g.MU e c);subst b)
   rw[show(k:RW)=i from q,XB] at this;exact fT this
 |some j=>
  (refine ag (λh p z=> ?_) (List.findIdx?_eq_some_iff_getElem.mp r))
  refine bq (λk l Z e=> ?_) (g.MU _ (UP h));rw[e] at p;have d:(i:RW)=k:=(Ub prog w).inj _ _ _ p (XB _ _ _ _);exact .inr (eF j _ QJ ((g.MV i).mpr (ai _ (UP h) (by rw[e];exact d.symm))) (Rk h) (by rw[e];exact d.symm))
theorem wo{i:QN}{tk:Tok}{n:RG}{Q:ScanMet→QZ→Prop}(h:bA s.heap a es ep t)(g:az es t S)(q:∀r,mJ es S i r→Q (match r with|some j=>.found (0+j)|none=>.absent) s):
  Rh (Rf prog w) A (setScan a (.int i tk) (qak i) n es) Q E s:=
 let⟨_,b,_,_,_,c⟩:=h;wpAny_setScan_of (XB _ _ _ _) b c g.MX (g.Ni prog w) (q _ (Eh g i))
theorem wb(prog:RP)(w:Sn)(g:az es t S)(i:RW)(tk:Tok):byScan (.int i tk) es=true:=byScan_of QJ (xE g.MW) (g.Ni prog w)
end
section
variable{prog:RP}{w:Sn}{A:SY}{E:QU→QZ→Prop}{s:QZ}{a:RK}{es es':TS (RW×QU)}{ep:QN}{t t':UA}{S:QN→RG}
theorem wh{i:QN}{tk:Tok}{Q:Rz QN→QZ→Prop}(h:bA s.heap a es ep t)(g:az es t S)(q:∀r,mJ es S i r→Q r s):Rh (Rf prog w) A (setFind a (.int i tk) (qak i)) Q E s:=by
 refine QH (fN h g ?_);dsimp only;rw[wb prog w g i tk,SH QJ];refine QH (Wb (QH (wo h g λr b=> ?_)))
 induction r using QQ with
 |none=>exact QT (q _ b)
 |some j=>exact QT (by rw[SG];exact q _ b)
theorem wA{g:RG→Sem UE}(j:∀(b:RG) (c:QZ) (Q:UE→QZ→Prop),Q () c→Rh (Rf prog w) A (g b) Q E c)(h:bA s.heap a es ep t)(d:az es' t' S){l:RG}{R:Rz RG→QZ→Prop}
  (q:∀e,Su a s.heap e→aU e a S→R (QG QO) {s with heap:=e}):
  Rh (Rf prog w) A (do
    storeSet a es' t'
    if(!l&&t'.tooFull)=QO then do
      g (relayAll t' es' (Vt es'.size)).2.2
      storeSet a (relayAll t' es' (Vt es'.size)).1 (relayAll t' es' (Vt es'.size)).2.1
      UK (QG QO)
     else UK (QG QO)) R E s:=by
 refine QH (jU h d.MW λm f k=> ?_);split
 ·have i:=d.Nf (relayAll_perm t' es' (Vt es'.size)) (relayAll_fits t' es' (Vt es'.size))
  exact QH (j _ _ _ (QH (jU k i.MW λn o p=>QT (q n (f.trans o) (cy _ _ _ p i)))))
 ·exact QT (q m f (cy _ _ _ k d))
theorem vY{i:QN}{tk:Tok}{Q:RG→QZ→Prop}(h:aU s.heap a S)(o:i<9)(q:∀b d,Su a s.heap d→aU d a (λj=>S j||j==i)→Q b {s with heap:=d}):
  Rh (Rf prog w) A (setAddHashed a (.int i tk) (qak i)) Q E s:=by
 (revert h;refine bc λes ep t h g=> ?_)
 refine RA (QH (fN h g ?_));dsimp only;rw[wb prog w g i tk,SH QJ];refine QH (QH (Wb (QH (wo h g λr p=> ?_))))
 induction r using QQ with
 |some j=>
  have n:S i=true:=by
   rcases p with⟨e,-⟩|⟨_,_,_,e,_⟩
   ·exact bV e
   ·exact e
  refine QT (QT (q QR s.heap (Uh ..) (cy es ep t h (g.MY λj=> ?_))))
  induction e:j==i using QL with
  |true=>rw[VC e,n];rfl
  |false=>exact VO _
 |none=>
  have n:S i=false:=by
   rcases p with⟨-,e⟩|⟨_,_,e,_⟩
   ·exact e
   ·exact aI e
  have m:=layNew_perm t es (qak i) (.int i tk);have f:=layNew_fits t es (qak i) (.int i tk);generalize layNew t es (qak i) (.int i tk)=L at m f⊢;obtain⟨x,y,z,v⟩:=L;rw[nQ o] at m
  have l:∀(b:RG) (c:QZ) (Q:UE→QZ→Prop),Q () c→Rh (Rf prog w) A (match b with|true=>rule "set.scan.the-table-gave-way" |false=>UK ()) Q E c:=λb Z Z q=>by
   induction b using QL with
   |true=>exact Wb q
   |false=>exact QT q
  have u:=g.Nl o n m f;refine QH (l _ _ _ ?_);split
  ·rw[hashByValue_scannable 8 QJ]
   exact QH (QT (wA l h u λd b k=>QT (q QO d b k)))
  ·exact QH (QT (wA l h u λd b k=>QT (q QO d b k)))
end
theorem qx{α:Type}:∀(l:QI α) (i:QN) (h:i<l.length),(l[i]::l.eraseIdx i).Perm l
 |x::l,0,Z=>.refl _
 |x::l,i+1,h=>(List.Perm.swap x _ _).trans ((qx l i (Yh h)).cons x)
theorem FE{α:Type}{b:QN→QN}{n k:QN}{l:QI α}{out:TS α}:qaj b (n+1) k l out=(l[b k%l.length]?).elim out λx=>qaj b n (k+1) (l.eraseIdx (b k%l.length)) (out.push x):=by kernel_rfl
theorem zd{α:Type}(x:QN→QN):∀(n k:QN) (l:QI α) (out:TS α),l.length=n→(qaj x n k l out).toList.Perm (out.toList++l)
 |0,k,l,out,h=>by
  rw[TX h,RD];exact .refl _
 |n+1,k,l,out,h=>by
  have b:x k%l.length<l.length:=qaI _ (by simp_all);rw[FE,Rk b];refine(zd x n (k+1) _ _ (by rw[VB,SH b,h];rfl)).trans ?_;rw[qci,Rq];exact(qx l _ b).append_left _
section
variable{prog:RP}{w:Sn}{A:SY}{E:QU→QZ→Prop}{s:QZ}{a:RK}{es es':TS (RW×QU)}{ep:QN}{t t':UA}{S:QN→RG}
theorem mZ{Q:RG→QZ→Prop}(q:Q (w.params.followText "set-order") s):Rh (Rf prog w) A setsByText Q E s:=by
 exact QH (qaz (QT q))
theorem wq{Q:TS (RW×QU)→QZ→Prop}(h:bA s.heap a es ep t)(g:az es t S)(l:(w.params.followText "set-order" ||(t.led&&t.plain)||decide (es.size≤1))=QO)(q:∀es',es'.toList.Perm es.toList→Q es' s):
  Rh (Rf prog w) A (setWalk a) Q E s:=by
 refine QH (fN h g ?_);refine QH (mZ ?_)
 induction b:w.params.followText "set-order" using QL with
 |true=>exact QH (qaz (QT (q _ (zd _ _ _ _ _ QJ))))
 |false=>
  rw[b,XA,Vs,Tf,Ua] at l
  have c:Rc ((!t.plain&&Rc (es.size>1))=QO)=false:=by
   rcases l with⟨-,h⟩|h
   ·rw[h];rfl
   ·rw[RJ (TO.mpr h),qax];rfl
  have d:Rc ((!t.led&&Rc (es.size>1))=QO)=false:=by
   rcases l with⟨h,-⟩|h
   ·rw[h];rfl
   ·rw[RJ (TO.mpr h),qax];rfl
  refine RL QJ (RL c (QH ?_));exact RL d (QT (QT (q es (.refl _))))
theorem wk{Q:RG→QZ→Prop}{l:QI RK}(h:∀b∈l,∃S,aU s.heap b S)(q:Q QO s):Rh (Rf prog w) A (setsQuiet l) Q E s:=by
 refine QH (qay _ (λc r x=>x=s∧r.1=RM∧∀b∈c,∃S,aU s.heap b S) _ (λb c r x I=> ?_) (λr x I=> ?_) l _ (aL QJ QJ h))
 ·(revert I;refine oA λd f=> ?_;subst d;revert f;refine oA λz J=> ?_)
  refine cv (λS es ep t h g=> ?_) (J b (QM ..));refine QH (kP h g ?_);refine QH (Vv _ (λc r j=>j=x∧r.1=RM∧∀e∈c,e∈es.toList) _ (λe c r j I=> ?_) (λr j I=> ?_) es _ (aL QJ QJ λZ h=>h))
  ·(revert I;refine oA λk m=> ?_;subst k;revert m;refine oA λy K=> ?_)
   (refine bq (λi N B n=> ?_) (g.MU e (K e (QM ..)));subst n)
   exact QT (aL QJ QJ λe H=>K e (QV _ H))
  ·(revert I;refine oA λo p=> ?_;subst o;revert p;refine oA λC D=> ?_)
   obtain⟨F,L⟩:=r;obtain rfl:F=none:=C;exact QT (aL QJ QJ λb M=>J b (QV _ M))
 ·(revert I;refine oA λu v=> ?_;subst u;revert v;refine oA λC G=> ?_)
  obtain⟨F,L⟩:=r;obtain rfl:F=none:=C;exact QT q
end
section
variable{prog:RP}{w:Sn}{A:SY}{E:QU→QZ→Prop}{s:QZ}{a f:RK}{es es':TS (RW×QU)}{ep:QN}{t t':UA}{S Sf:QN→RG}
theorem EW{l:QI RK}{Q:TS (RW×QU)→QZ→Prop}(h:bA s.heap a es ep t)(g:az es t S)(d:∀b∈l,∃S,aU s.heap b S)(q:∀es',es'.toList.Perm es.toList→Q es' s):
  Rh (Rf prog w) A (setWalkUnseen a l RM) Q E s:=by
 refine QH (fN h g ?_);refine QH (mZ ?_)
 induction i:(w.params.followText "set-order" ||(t.led&&t.plain)||decide (es.size≤1)) using QL with
 |true=>exact Tt QJ (wq h g i λes' p=>q es' p)
 |false=>
  refine RL QJ (QH (wk (λb c=> ?_) (RL QJ (QH (Wb (QT (q es (.refl _))))))))
  (refine oO (λe=> ?_) (λc=> ?_) (mC c)<;>try subst e)
  ·exact(fP S es ep t h g)
  ·exact d b c
theorem wC{l:QI RK}{Q:TS (RW×QU)→QZ→Prop}(h:bA s.heap a es ep t)(g:az es t S)(n:∀b∈l,∃S,aU s.heap b S)(i:aU s.heap f Sf)
  (q:∀es' c,es'.toList.Perm es.toList→Su f s.heap c→aU c f Sf→Q es' {s with heap:=c}):Rh (Rf prog w) A (setWalkUnseen a l (QG f)) Q E s:=by
 refine QH (fN h g ?_);refine QH (mZ ?_)
 induction o:(w.params.followText "set-order" ||(t.led&&t.plain)||decide (es.size≤1)) using QL with
 |true=>exact Tt QJ (wq h g o λes' p=>q es' s.heap p (Uh ..) i)
 |false=>
  refine bc (λu r v m d=> ?_) (id i);refine RL QJ (QH (wk (λb j=> ?_) (RL QJ (QH (Wb (QH (fN m d ?_)))))))
  ·(refine oO (λe=> ?_) (λj=> ?_) (mC j)<;>try subst e)
   ·exact(fP S es ep t h g)
   ·exact n b j
  ·dsimp only
   split
   ·exact QH (jU m d.MW λc b k=>QT (q es c (.refl _) b (cy _ _ _ k (d.Nf (.refl _) d.MX))))
   ·exact QT (q es s.heap (.refl _) (Uh ..) i)
theorem JG{r:TS QN}(h:r.toList.Perm (RE es.size)):(r.filterMap (es[·]?)).toList.Perm es.toList:=by
 rw[Array.toList_filterMap];exact(h.filterMap _).trans (by rw[Zz])
theorem az.Nj(g:az es t S){k finger moves:QN}{led plain:RG}(hm:mN k es.size):∃t' r,qac k finger moves led plain (es.map (·.1))=QG (t',r)∧t'.mask=k∧t'.dummies=#[]∧
  az (r.filterMap (es[·]?)) t' S∧(r.filterMap (es[·]?)).size=es.size:=by
 have l:(es.map (·.1)).toList=es.toList.map (·.1):=Array.toList_map
 (refine mq (λt' r d e i z h b=> ?_) (Gw (finger:=finger) (moves:=moves) (led:=led) (plain:=plain) (by rw[l];exact g.Nc) (by rw[l];exact g.MZ) (by rw[qar];exact g.MW) (by rw[qar];exact hm)))
 rw[qar] at h b;have p:=JG b;have c:(r.filterMap (es[·]?)).size=es.size:=by rw[←RT,p.length_eq,RT]
 exact⟨t',r,d,e,i,g.Nf p (by rw[c];exact h),c⟩
theorem zw{r:TS QN}(z:(r.filterMap (es[·]?)).size=es.size):(if((r.filterMap (es[·]?)).size !=es.size)=QO then unsupported "internal:set-table-lost-an-element" else UK (r.filterMap (es[·]?),t'):Sem (TS (RW×QU)×UA))=UK (r.filterMap (es[·]?),t'):=by
 rw[SK (by rw[z,UL];exact UU)]
theorem AH{n:QN}(h:n≤36):TJ n=8∧n<8∨16≤TJ n∧TJ n≤64:=by
 have:(RE 37).all (λn=>(TJ n==8&&Rc (n<8))||(Rc (16≤TJ n)&&Rc (TJ n≤64)))=true:=by decide+kernel
 have:=SX.mp this n (Vh.mpr (Xz h));simpa using this
theorem uk{n k:QN}(h:n≤36)(b:n<8→k≤4):mN (TJ n-1) k∧TJ n≤sizeLine:=by
 have c:64≤sizeLine:=by rw[WN];decide
 (refine oO (oA λe d=> ?_) (oA λg i=> ?_) (AH h))
 ·rw[e];exact⟨.inr ⟨QJ,b d⟩,by exact Sq _ _⟩
 ·exact⟨.inl (Nat.le_sub_of_add_le (QK (by decide) g)),QK i c⟩
theorem wm{n:QN}{Q:UE→QZ→Prop}(h:bA s.heap a es ep t)(g:az es t S)(i:n≤36)(j:n<8→es.size≤4)
  (q:∀c es' p t',Su a s.heap c→bA c a es' p t'→az es' t' S→es'.size=es.size→t'.mask=TJ n-1→t'.dummies=#[]→Q () {s with heap:=c}):Rh (Rf prog w) A (setRelay a n) Q E s:=by
 refine oA (λm l=> ?_) (uk i j);refine ow (λt' r o u v d e=> ?_) (g.Nj (finger:=t.finger) (moves:=t.movedTo (TJ n-1)) (led:=t.led) (plain:=t.plain) m);refine QH (fN h g ?_);refine RL (RJ (TO.mpr l)) ?_;rw[show t.relaid (es.map (·.1)) n=QG (t',r) from o];exact QH (YZ (zw e) (jU h d.MW λc b k=>q c _ _ _ b k d e u v))
def lJ(es:TS (RW×QU))(t:UA):Prop:=t.dummies=#[]∧(es.size=0→t.mask=7)
theorem EN{n:QN}{Q:UE→QZ→Prop}(h:bA s.heap a es ep t)(g:az es t S)(y:lJ es t)(hn:n≤9)
  (q:∀h' es' ep' t',Su a s.heap h'→bA h' a es' ep' t'→az es' t' S→es'.size=es.size→t'.dummies=#[]→(es'.size=0→mN t'.mask n)→Q () {s with heap:=h'}):Rh (Rf prog w) A (setRoomFor a n) Q E s:=by
 have hp:t.place.size=es.size:=by
  have:=g.MX;rw[WS,Tf,Sk] at this;exact this.1
 have hfill:t.fill=es.size:=by rw[WT,hp,y.1];rfl
 have h9:=g.MW;refine QH (fN h g ?_);rw[show t.roomFor n=if(es.size+n)*5≥t.mask*3 then QG ((es.size+n)*2) else RM by rw[SetTable.roomFor,hfill,hp]]
 by_cases hc:(es.size+n)*5≥t.mask*3
 ·rw[SH hc]
  refine wm h g (VD 2 (SR h9 hn)) (λh=>QK (Sh _ n) (Sm (qaJ (show _*2<4*2 from h)))) λh' es' ep' t' b k1 k2 hz hm hd=>q h' es' ep' t' b k1 k2 hz hd λh0=> ?_;rw[hm];rw[hz] at h0;rw[y.2 h0] at hc;exact(uk (VD 2 (SR h9 hn)) λh=>by rw[h0,SG] at h;exact Sm (qaJ (show _*2<4*2 from h))).1
 ·rw[SK hc]
  refine QT (q s.heap es ep t (Uh ..) h g QJ y.1 λh0=>.inr ⟨y.2 h0,?_⟩);rw[y.2 h0,h0,SG] at hc;exact qaK (SM (qcv.mp hc):_≤4*5) (by decide)
end
theorem bA.c{h d:RI}{a b:RK}{es:TS (RW×QU)}{ep:QN}{t:UA}(k:bA h a es ep t)(e:Su b h d)(n:a≠b):bA d a es ep t:=let⟨o,f,r⟩:=k;⟨o,(e.2 a n).trans f,r⟩
theorem az.Nd{es:TS (RW×QU)}{t:UA}{S:QN→RG}(g:az es t S)(h:es.size=0)(i:QN):S i=false:=by
 induction e:S i using QL with
 |false=>rfl
 |true=>
  (refine ag (λx b z=> ?_) ((g.MV i).mp e))
  rw[Array.eq_empty_of_size_eq_zero h] at b;exact Ro b Rb
noncomputable def iB(l:QI (RW×QU))(i:QN):Bool:=l.any λe=>e.1==(i:RW)
theorem az.Ng{es:TS (RW×QU)}{t:UA}{S:QN→RG}(g:az es t S){l:QI (RW×QU)}(p:l.Perm es.toList)(i:QN):iB l i=S i:=by
 rw[Ud,g.MV i,iB,UQ];exact⟨ag λe h q=>(ai e (p.mem_iff.mp h) (VC q)),ag λe h q=>(ai e (p.mem_iff.mpr h) (Sk.mpr q))⟩
theorem mR{i:QN}{tk:Tok}{l:QI (RW×QU)}(j:QN):iB (((i:RW),VR i tk)::l) j=(j==i||iB l j):=by
 rw[iB,UO];refine RH (·||iB l j) ?_;rw[Ud,Sk,Sk];exact⟨λe=>(Vk e).symm,λe=>RH qbg e.symm⟩
section
variable{prog:RP}{w:Sn}{A:SY}{E:QU→QZ→Prop}{s:QZ}{a o r:RK}{es eo:TS (RW×QU)}{ep eq:QN}{t to:UA}{S So:QN→RG}
theorem vZ{i:QN}{tk:Tok}{Q:RG→QZ→Prop}(h:aU s.heap a S)(d:i<9)(q:∀b c,Su a s.heap c→aU c a (λj=>S j||j==i)→Q b {s with heap:=c}):
  Rh (Rf prog w) A (setAddHashed a (.int i tk) i) Q E s:=by
 have:=vY (prog:=prog) (w:=w) (A:=A) (E:=E) (tk:=tk) h d q;rwa[nQ d] at this
theorem wi{each:Sem UE}{Q:UE→QZ→Prop}(hr:bA s.heap r es ep t)(g:az es t S)(y:lJ es t)(ho:bA s.heap o eo eq to)(go:az eo to So)(hne:r≠o)
  (hE:∀(s':QZ) (Q:UE→QZ→Prop),bA s'.heap o eo eq to→Q () s'→Rh (Rf prog w) A each Q E s')
  (q:∀h',Su r s.heap h'→aU h' r (λj=>S j||So j)→(es.size=0→∃es ep t,bA h' r es ep t∧az es t So∧lJ es t)→Q () {s with heap:=h'}):Rh (Rf prog w) A (setMerge r o each) Q E s:=by
 refine RL (RJ λe=>hne (VC e)) (QH (fN ho go ?_));have S0:es.size=0→∀j,So j=(S j||So j):=λh j=>by rw[g.Nd h j];rfl
 by_cases hz:eo.size=0
 ·refine Tt (Ry (by rw[qdI,hz];rfl)) (QT (q s.heap (Uh ..) (cy es ep t hr (g.MY λj=>by rw[go.Nd hz j,VO])) λh0=>(jm es ep t hr (g.MY λj=>by rw[go.Nd hz j,g.Nd h0 j]) y)))
 refine RL (RJ λe=>hz (by rw[qdI] at e;exact Rl e)) (QH (EN hr g y go.MW λh1 es1 ep1 t1 b1 k1 g1 z1 d1 m1=>QH (fN k1 g1 ?_)));dsimp only;have ho1:=ho.c b1 (Vi hne)
 have hp:t1.place.size=es1.size:=by
  have:=g1.MX;rw[WS,Tf,Sk] at this;exact this.1
 have hfill:t1.fill=es1.size:=by rw[WT,hp,d1];rfl
 by_cases h0:es1.size=0
 ·have hS:=S0 (z1▸h0)
  by_cases hc:(t1.mask==to.mask&&to.dummies.isEmpty)=QO
  ·rw[show t1.road to=.slotForSlot by rw[qab,hfill,h0];exact SH hc]
   have hd:to.dummies=#[]:=Array.isEmpty_iff.mp (aT hc).2;refine jU k1 go.MW λh2 b2 k2=> ?_;have g2:az eo {to with finger:=t1.finger,led:=t1.led&&to.led,moves:=t1.moves,plain:=t1.plain&&to.plain} So:=go.Nf (.refl _) go.MX;exact q h2 (b1.trans b2) (cy _ _ _ k2 (g2.MY λj=>(hS j).symm)) λZ=>(er _ _ _ k2 g2 hd λe=>Ro e hz)
  ·rw[show t1.road to=.clean by rw[qab,hfill,h0];exact SK hc]
   refine ow (λt' order e1 e2 e3 e4 e5=> ?_) (go.Nj (finger:=t1.finger) (moves:=t1.moves) (led:=t1.led&&to.led) (plain:=t1.plain&&to.plain) (m1 h0));rw[e1];refine QH (YZ (zw e5) (jU k1 e4.MW λh2 b2 k2=>q h2 (b1.trans b2) (cy _ _ _ k2 (e4.MY λj=>(hS j).symm)) λZ=>(er _ _ _ k2 e4 e3 λe=>Ro (e5▸e) hz)))
 ·rw[show t1.road to=.oneByOne by rw[qab,hfill];exact SH (VK.mpr h0)]
  refine QH (wC ho1 go (λb hb=>⟨S,by rw[Mine.m1 hb];exact(cy _ _ _ k1 g1)⟩) (cy _ _ _ k1 g1) λeo' h2 p b2 k2=> ?_);refine QH (Vv _ (λrest Z s'=>∃h',s'={s with heap:=h'}∧Su r s.heap h'∧(∀e∈rest,e∈eo.toList)∧∃S',aU h' r S'∧∀j,(S' j||iB rest j)=(S j||So j)) _ (λe rest u s' hI=> ?_) (λu s' hI=> ?_) eo' _ (jW h2 QJ (b1.trans b2) (λe he=>p.mem_iff.mp he) S k2 λj=>by rw[go.Ng p j]))
  ·(revert hI;refine ag λh3 e_471 r_472=> ?_;subst e_471;revert r_472;refine gM λb3 hm S' k3 hj=> ?_)
   (refine bq (λi tk hi e_473=> ?_) (go.MU e (hm e (QM ..)));subst e_473)
   have ho3:=ho.c b3 (Vi hne);refine QH (RA (vZ k3 hi λb h4 b4 k4=> ?_));have b34:=b3.trans b4;have ho4:=ho.c b34 (Vi hne);refine QH (hE _ _ ho4 (QH (fN ho4 go ?_)));refine RL (by rw[UL];rfl) (QT (jW h4 QJ b34 (λe he=>hm e (QV _ he)) _ k4 λj=> ?_));rw[←hj j,mR,Bool.or_assoc]
  ·(revert hI;refine ag λh3 e_474 r_475=> ?_;subst e_474;revert r_475;refine gM λb3 z_476 S' k3 hj=> ?_)
   (revert k3;refine bc λes3 ep3 t3 k3 g3=> ?_)
   exact QT (q h3 b3 (cy es3 ep3 t3 k3 (g3.MY λj=>by rw[←hj j];exact VO _)) λe=>Ro (z1▸e) h0)
end
theorem bA.d{s:QZ}{a:RK}{es:TS (RW×QU)}{ep:QN}{t:UA}(h:bA s.heap a es ep t):s.TypeIs (.ref a) "frozenset" :=let⟨o,c,e,_⟩:=h;⟨o,c,e⟩
theorem aU.c{s:QZ}{a:RK}{S:QN→RG}(h:aU s.heap a S):s.TypeIs (.ref a) "frozenset" :=let⟨_,_,_,h,_⟩:=h;h.d
section
variable{prog:RP}{w:Sn}{A:SY}{E:QU→QZ→Prop}{s:QZ}{a b:RK}{es:TS (RW×QU)}{ep:QN}{t:UA}{S T:QN→RG}
theorem kO{v:QU}{Q:RG→QZ→Prop}(h:s.TypeIs v "frozenset")(q:Q QO s):Rh (Rf prog w) A (VU v) Q E s:=by
 exact QH (Vn h wz (Vn h kQ q))
theorem wa{Q:QU→QZ→Prop}(h:s.TypeIs (.ref a) "frozenset")(q:Q (.type "frozenset") s):Rh (Rf prog w) A (qdn a) Q E s:=by
 exact QH (Vn h wz (QT q))
def pT(h:RI)(S:QN→RG)(c:RI):Prop:=eU h c∧∃es ep t,bA c h.objs.size es ep t∧az es t S∧lJ es t
theorem nN{Q:QU→QZ→Prop}(q:∀c,pT s.heap (λZ=>QR) c→Q (.ref s.heap.objs.size) {s with heap:=c}):Rh (Rf prog w) A (newSet (.type "frozenset")) Q E s:=by
 refine QH (mZ ?_);refine QH (wpAny_alloc (QT (q _ ⟨λb o e=>Rw _ e,#[],0,_,(iJ _ (RY _ QJ) QJ QJ QJ QJ),⟨λe h=>Ro h Rb,UD,λi=>⟨nofun,ag λe h Z=>Ro h Rb⟩,QJ⟩,QJ,λZ=>QJ⟩)))
theorem mQ{h d c:RI}{r:RK}(k:eU h d)(f:h.get? r=RM)(g:Su r d c):eU h c:=λb o e=>(g.2 b λq=>by rw[q,f] at e;exact aI e).trans (k b o e)
theorem kS(h:RI):h.get? h.objs.size=none:=by
 induction e:h.get? h.objs.size using QQ with
 |none=>rfl
 |some o=>exact Ro (SS e) (Ts _)
theorem HL{h:RI}{a:RK}{o:Obj}(e:h.get? a=QG o):h.objs.size≠a:=λq=>by rw[←q,kS] at e;exact aI e
theorem aU.f{h:RI}(k:aU h a S):h.objs.size≠a:=let⟨_,_,_,⟨_,e,_⟩,_⟩:=k;Mine.HL e
theorem bA.f{h c:RI}(k:bA h a es ep t)(d:eU h c):bA c a es ep t:=let⟨o,e,r⟩:=k;⟨o,d _ _ e,r⟩
theorem we{Q:QU→QZ→Prop}(h:aU s.heap a S)(q:∀m,pT s.heap S m→Q (.ref s.heap.objs.size) {s with heap:=m}):Rh (Rf prog w) A (qdm a) Q E s:=by
 have n:=h.f;refine QH (wa h.c (QH (nN λF p=> ?_)))
 (revert p;refine kY λo d r G u j y=> ?_)
 (revert h;refine bc λes ep t k g=> ?_)
 refine QH (QT (QH (wi u j y (k.f o) g n (λH Q Z q=>QT q) λv B I C=>QT (q v ⟨mQ o (kS _) B,?_⟩))))
 exact C (by
  induction e:d.toList using Rm with
  |nil=>rw[←RT,e];rfl
  |cons x l=>
   (refine bq (λi J z D=> ?_) (j.MU x (by rw[e];exact QM ..)))
   exact aD ((j.MV i).mpr (ai x (by rw[e];exact QM ..) (by rw[D]))))
theorem EE{id:WD}{r o:RK}{i:QN→RG}{Q:UE→QZ→Prop}(l:bA s.heap r es ep t)(g:az es t S)(y:lJ es t)(c:aU s.heap o i)(n:r≠o)(q:∀e,Su r s.heap e→aU e r (λj=>S j||i j)→Q () {s with heap:=e}):
  Rh (Rf prog w) A (qde id r (.ref o)) Q E s:=by
 (revert c;refine bc λm p u c f=> ?_)
 refine QH (kO c.d (Tt QJ (QH (QT ?_))));refine QH (jg c f (wi l g y c f n (λv Q h q=> ?_) λe b k Z=>q e b k));exact QH (jg h f (RL (by rw[UL];rfl) (QT q)))
theorem qJ{m:WD}{x y:QU}{Q:QU×QU→QZ→Prop}(q:Q (x,y) s):Rh (Rf prog w) A (qdh m ⟨[x,y],[]⟩) Q E s:=by
 wp_walk
 exact q
theorem wB{Q:RG→QZ→Prop}(h:s.TypeIs (.ref a) "frozenset")(c:s.TypeIs (.ref b) "frozenset")(q:Q QO s):Rh (Rf prog w) A (VU (.ref a)<&&>VU (.ref b)) Q E s:=
 QH (kO h (kO c q))
theorem aU.i{h:RI}(k:aU h a S)(u:aU h a T)(j:QN):S j=T j:=by
 (revert k;refine bc λes ep t z g=> ?_;revert z;refine jw λo v c d f x=> ?_;clear c;clear d;clear f)
 (revert u;refine bc λy B D l C=> ?_;revert l;refine jw λF r m n p q=> ?_;clear m;clear n;clear p)
 obtain rfl:=QS (v.symm.trans r);rw[x] at q;injection q with e;subst e;rw[Ud,g.MV j,C.MV j]
theorem EM{Q:Fin→QZ→Prop}(ha:aU s.heap a S)(hb:aU s.heap b T)(q:∀h',eU s.heap h'→aU h' s.heap.objs.size (λj=>S j||T j)→Q (.done (.ret (.ref s.heap.objs.size))) {s with heap:=h'}):
  Rh (Rf prog w) A (Builtin.«frozenset.__or__» ⟨[.ref a,.ref b],[]⟩) Q E s:=by
 refine QH (qJ ?_);refine QH (wB ha.c hb.c (RL QJ (QH (QT (QH ?_)))));refine QH (we ha λh1 n1=> ?_)
 (revert n1;refine kY λad es1 ep1 t1 k1 g1 y1=> ?_)
 by_cases hab:b=a
 ·refine RL (RJ λe=>VK.mp e (RH Value.ref hab)) (QT (QT (q h1 ad (cy es1 ep1 t1 k1 (g1.MY λj=> ?_)))))
  rw[ha.i (hab▸hb) j,Bool.or_self]
 ·refine Tt (Ry (VK.mpr λe=>hab (qbX e))) (QH (QT (QH (RA (EE k1 g1 y1 ?_ hb.f λh2 b2 k2=>QT (QT (q h2 (mQ ad (kS _) b2) k2)))))))
  (revert hb;refine bc λes ep t k g=> ?_)
  exact(cy es ep t (k.f ad) g)
end
theorem xO:∀{l l':QI RW},l.Nodup→l'.Nodup→(∀x,x∈l↔x∈l')→l.Perm l'
 |[],l',Z,U,h=>by
  induction l' using Rm with
  |nil=>exact .refl _
  |cons y l'=>exact Ro ((h y).mpr (QM ..)) Rb
 |x::l,l',n,d,h=>by
  have f:=(h x).mp (QM ..);have n:=SO.mp n;refine((xO n.2 (d.erase x) λy=> ?_).cons x).trans (List.perm_cons_erase f).symm;rw[d.mem_erase_iff,←h y,SI];exact⟨λc=>⟨λe=>n.1 (e▸c),.inr c⟩,oA λg c=>c.resolve_left g⟩
theorem FK{l l':QI RW}(p:l.Perm l'):TL l=TL l':=by
 have e:∀f:RW→QN,l.foldl (λc x=>c^^^f x) 0=l'.foldl (λc x=>c^^^f x) 0:=λf=>p.foldl_eq' (λx Z y Z z=>by rw[qdW,Nat.xor_comm (f x),←qdW]) 0;unfold TL;simp only[p.length_eq,e]
section
variable{prog:RP}{w:Sn}{A:SY}{E:QU→QZ→Prop}{s:QZ}{a b:RK}{es eo:TS (RW×QU)}{ep eq:QN}{t to:UA}{S T:QN→RG}
theorem az.Nb(g:az es t S)(i:QN):S i=QO↔(i:RW)∈es.toList.map Prod.fst:=by
 rw[g.MV i,VZ]
theorem az.Nh(g:az es t S)(o:az eo to T)(h:∀j,S j=T j):(es.toList.map qav).Perm (eo.toList.map qav):=
 xO g.MZ o.MZ λx=>⟨λd=>by
  (refine ag (λi Z e=> ?_) (g.Nc x d);subst e)
  exact(o.Nb i).mp ((h i)▸(g.Nb i).mpr d),λd=>by
  (refine ag (λi Z c=> ?_) (o.Nc x d);subst c)
  exact(g.Nb i).mp ((h i).symm▸(o.Nb i).mpr d)⟩
theorem az.Nm(g:az es t S)(o:az eo to T)(z:es.size=eo.size)(h:∀e∈es.toList,∀i:QN,e.1=(i:RW)→T i=QO)(j:QN):S j=T j:=by
 have u:∀i:QN,S i=QO→T i=true:=λi k=>by
  refine ag (λe l q=> ?_) ((g.MV i).mp k);exact h e l i q
 rw[Ud];refine⟨u j,λm=>ZP λn=> ?_⟩;have p:=(o.Nb j).mp m
 have:=YN (SO.mpr ⟨λh=>n ((g.Nb j).mpr h),g.MZ⟩) λx c=>by
  (refine oO (λd=> ?_) (λc=> ?_) (mC c)<;>try subst d)
  ·exact p
  ·(refine ag (λi Z f=> ?_) (g.Nc x c);subst f)
   exact(o.Nb i).mp (u i ((g.Nb i).mpr c))
 rw[Se,QP,QP,RT,RT,z] at this;exact Ro this (YK _)
theorem EB{i:QN}{tk:Tok}{Q:QU→QZ→Prop}(h:aU s.heap a S)(q:∀k,Q (.bool (S i)) {s with toks:=k}):Rh (Rf prog w) A (TH .In (.int i tk) (.ref a)) Q E s:=by
 refine QH (wpAny_contains_slot h.c wt (Vo wt h.c Ep ?_ (Ej _ _)))
 (revert h;refine bc λes ep t h g=> ?_)
 refine QH (QH (QT (QT (QH ?_))));refine wpAny_tryCatch (RA (QH ((Ub prog w).pyHash (XB _ _ _ _) (QH (wh h g λr d=>QT (QT (ai _ QJ (wpAny_truthy_bool (QT ?_)))))))));rcases d with⟨rfl,e⟩|⟨j,_,rfl,e,_⟩
 ·rw[show(RM:Rz QN).isSome=S i from e.symm];exact q _
 ·rw[show(QG j).isSome=S i from e.symm];exact q _
theorem qH{i:QN}{tk:Tok}{Q:Rz QN→QZ→Prop}(h:bA s.heap a es ep t)(g:az es t S)(c:i<9)(q:∀r,mJ es S i r→Q r s):Rh (Rf prog w) A (setFind a (.int i tk) i) Q E s:=by
 have:=wh (prog:=prog) (w:=w) (A:=A) (E:=E) (tk:=tk) h g q;rwa[nQ c] at this
theorem qI{i:RW}{tk:Tok}{Q:RG→QZ→Prop}(q:Q QO s):Rh (Rf prog w) A (qdj (.int i tk)) Q E s:=QT q
theorem jh{Q:QN→QZ→Prop}(h:bA s.heap a es ep t)(g:az es t S)(q:Q es.size s):Rh (Rf prog w) A (qdi a) Q E s:=by
 exact QH (kP h g (QT q))
theorem EP{id:WD}{Q:RG→QZ→Prop}(h:bA s.heap a es ep t)(g:az es t S)(G:bA s.heap b eo eq to)(C:az eo to T)(R:es.size=eo.size)
  (q:∀r:RG,(r=QO↔∀j,S j=T j)→Q r s):Rh (Rf prog w) A (qdg id a b) Q E s:=by
 refine QH (jh h g (QH (jh G C (RL (RJ (by simp_all)) (QH (jg h g (QH ?_)))))));refine QH (kP h g (QH (kP G C ?_)));refine QH (qay _ (λc r B=>B=s∧r.1=RM∧∀e∈c,∃(i:QN) (k:Tok),e=((i:RW),VR i k)) _ (λe c r B I=> ?_) (λr B I=> ?_) _ _ (aL QJ QJ λe d=> ?_))
 ·(revert I;refine oA λf l=> ?_;subst f;revert l;refine oA λH K=> ?_)
  (refine jx (λi k m=> ?_) (K e (QM ..));subst m)
  exact QH (qI (RL QJ (QT (aL QJ QJ λe d=>K e (QV _ d)))))
 ·(revert I;refine oA λn o=> ?_;subst n;revert o;refine oA λD J=> ?_)
  obtain⟨L,U⟩:=r;obtain rfl:L=none:=D;refine QT (QH (qay _ (λc r M=>M=B∧r.1=RM∧(∀e∈c,e∈es.toList)∧∀e∈es.toList,e∈c∨∀i:QN,e.1=(i:RW)→T i=QO) _ (λe c r B I=> ?_) (λr B I=> ?_) _ _ (cq QJ QJ (λZ h=>h) λZ h=>.inl h)))
  ·(revert I;refine oA λp u=> ?_;subst p;revert u;refine bk λN O K=> ?_)
   (refine bq (λi k V v=> ?_) (g.MU e (O e (QM ..)));subst v)
   refine QH (RA (qH G C V λr D=> ?_));rcases D with⟨rfl,F⟩|⟨j,_,rfl,F,_⟩
   ·refine Tt QJ (QT (QT (q QR ⟨nofun,λh=> ?_⟩)))
    rw[←h i,(g.MV i).mpr (ai _ (O _ (QM ..)) QJ)] at F;exact fT F
   ·refine RL QJ (QH ?_)
    refine QH (jg h g (RL (by rw[UL];rfl) (QT (QT (cq QJ QJ (λe d=>O e (QV _ d)) λe d=> ?_)))))
    (refine oO (λh=> ?_) (λh=> ?_) (K e d))
    ·(refine oO (λx=> ?_) (λh=> ?_) (mC h)<;>try subst x)
     ·exact .inr λW X=>(Vk X:i=W)▸F
     ·exact .inl h
    ·exact .inr h
  ·(revert I;refine oA λy z=> ?_;subst y;revert z;refine bk λD P K=> ?_)
   obtain⟨L,U⟩:=r;obtain rfl:L=none:=D;exact QT (q QO ⟨λZ=>g.Nm C R λe d=>(K e d).resolve_left Rb,λZ=>QJ⟩)
 ·(refine oO (λd=> ?_) (λd=> ?_) (mA d))
  ·exact(g.MU e d).elim λi h=>h.elim λk h=>(kU i k h.2)
  ·exact(C.MU e d).elim λi h=>h.elim λk h=>(kU i k h.2)
theorem EG{Q:Fin→QZ→Prop}(ha:aU s.heap a S)(hb:aU s.heap b T)(q:∀r:RG,(r=QO↔∀j,S j=T j)→Q (.done (.ret (.bool (!r)))) s):
  Rh (Rf prog w) A (Builtin.«frozenset.__ne__» ⟨[.ref a,.ref b],[]⟩) Q E s:=by
 have h1:=ha.c;have h2:=hb.c
 (revert ha;refine bc λes ep t h g=> ?_)
 (revert hb;refine bc λeo eq to ho go=> ?_)
 refine QH (qJ ?_);refine QH (kO h2 (RL QJ ?_));refine QH (QT (QH (QT (QH (jh h g (QH (jh ho go ?_)))))));refine QH ?_
 by_cases hz:es.size=eo.size
 ·refine RL (by rw[hz,UL];rfl) (QH (QH (Vn h1 kQ (Vn h2 kQ (Tt QJ (QH (kP h g (QH (kP ho go ?_)))))))))
  have hp:(∀j,S j=T j)→TL (es.toList.map (·.1))=TL (eo.toList.map (·.1)):=λh=>FK (g.Nh go h);generalize TL (es.toList.map (·.1))=X at hp⊢;generalize TL (eo.toList.map (·.1))=Y at hp⊢
  by_cases hh:X=Y
  ·refine RL (RJ λe=>VK.mp e hh) (EP h g ho go hz λr hr=>QT (q r hr))
  ·refine Tt (Ry (VK.mpr hh)) ?_
   refine QH (Vv _ (λrest r s'=>s'=s∧∀e∈rest,e∈es.toList) _ (λe rest r s' hI=> ?_) (λr s' hI=> ?_) es _ ⟨QJ,λZ h=>h⟩)
   ·(revert hI;refine oA λe_505 hm=> ?_;subst e_505)
    (refine bq (λi tk hi e_506=> ?_) (g.MU e (hm e (QM ..)));subst e_506)
    exact QH (qI (RL QJ (QT ⟨QJ,λe he=>hm e (QV _ he)⟩)))
   ·(revert hI;refine oA λe_507 z_508=> ?_;subst e_507)
    refine QH (Vv _ (λrest r s''=>s''=s'∧∀e∈rest,e∈eo.toList) _ (λe rest r s'' hI=> ?_) (λr s'' hI=> ?_) eo _ ⟨QJ,λZ h=>h⟩)
    ·(revert hI;refine oA λe_509 hm=> ?_;subst e_509)
     (refine bq (λi tk hi e_510=> ?_) (go.MU e (hm e (QM ..)));subst e_510)
     exact QH (qI (RL QJ (QT ⟨QJ,λe he=>hm e (QV _ he)⟩)))
    ·(revert hI;refine oA λe_511 z_512=> ?_;subst e_511)
     exact QH (Wb (QT (QT (q QR ⟨nofun,λh=>Ro (hp h) hh⟩))))
 ·refine Tt (Ry (VK.mpr hz)) (QT (QT (q QR ⟨nofun,λh=>Ro ?_ hz⟩)))
  have:=(g.Nh go h).length_eq;rwa[QP,QP,RT,RT] at this
end
theorem qK:Slot "frozenset" "__init__" "object.__init__" :=
 .of (owner:="object") (n:="__init__") (by rw[Uw,To];kernel_rfl) (by decide+kernel) (by decide+kernel) (by decide+kernel)
  (by first|exact .inl (by decide+kernel)|exact .inr (by decide+kernel)) (by rw[VM];kernel_rfl)
theorem wj:mroOf (.type "frozenset")=UK [.type "frozenset",.type "object"]:=by rw[mroOf_type];kernel_rfl
theorem EC:typeLookup (.type "frozenset") "__new__" =UK (QG (.builtin "frozenset.__new__")):=by rw[Uw,To];kernel_rfl
theorem wc:TypeCalled "frozenset" "frozenset.__new__" "object.__init__" :=
 ⟨by decide+kernel,by decide+kernel,(kU _ _ wj),madeBy_type wj EC (by decide+kernel),by decide+kernel,kQ,qK⟩
theorem ET:checkTypeCall "frozenset" ⟨[],[]⟩=UK ():=QJ
theorem EU(a:QU):checkTypeCall "frozenset" ⟨[a],[]⟩=UK ():=QJ
theorem EI:qec "frozenset.__new__" ⟨[.type "frozenset"],[]⟩=UK ():=by kernel_rfl
theorem EJ(a:QU):qec "frozenset.__new__" ⟨[.type "frozenset",a],[]⟩=UK ():=by kernel_rfl
theorem EH:Meets (Builtin.«frozenset.__new__» ⟨[.type "frozenset"],[]⟩) λZ R s=>∀a,pT s.heap (λZ=>QR) a→R (.ok (.ret (.ref s.heap.objs.size))) {s with heap:=a}:=
 .of_wp λprog w A R s h=>by
  have b:=kQ;have t:=qK.lookup
  wp_walk using nN
  exact λa n=>QT (ai _ QJ (h a n))
section
variable{prog:RP}{w:Sn}{A:SY}{E:QU→QZ→Prop}{s:QZ}{R:Result→QZ→Prop}{I:RK}{fp wr:QI RK}{G:TS qdd→TS qdd→Prop}{n:QN}{P:QN→QU→Prop}{St:QN→QZ→Prop}
theorem aU.g{h:RI}{a:RK}{S b:QN→RG}(k:aU h a S)(e:∀j,b j=S j):aU h a b:=let⟨c,p,t,d,g⟩:=k;⟨c,p,t,d,g.MY e⟩
theorem aU.h{h b:RI}{a:RK}{S:QN→RG}(k:aU h a S)(e:∀o,h.get? a=QG o→b.get? a=QG o):aU b a S:=let⟨c,p,t,⟨o,d,r⟩,g⟩:=k;⟨c,p,t,⟨o,e _ d,r⟩,g⟩
noncomputable def ku(val:QN→QN)(i j:QN):Bool:=(RE i).any λx=>val x==j
theorem Mr(val:QN→QN)(i j:QN):ku val (i+1) j=(ku val i j||j==val i):=by
 rw[ku,Yi,List.any_append,UO,List.any_nil,VO,BEq.comm]
 rfl
theorem ED(W:WalksS prog w A.in1 I fp wr G n P St)(r:RK)(C:r∉fp)(val:QN→QN)(J:∀i,i<n→val i<9)(l:∀i v,P i v→∃t,v=.int (val i) t):
  ∀(k i:QN) (s:QZ),i+k=n→St i s→aU s.heap r (ku val i)→(∀a,Moved (r::wr) G s a→aU a.heap r (ku val n)→R (.ok (.ret .none)) a)→
   XQ (Rf prog w) A (.builtin "set.update.loop" ⟨[.ref r,.ref I],[]⟩) R s:=by
 have D:r∉wr:=λh=>C (W.sub _ h);intro k
 induction k with
 |zero=>
  intro i s F p u x;obtain rfl:i=n:=F;refine codeAny_builtin Xy ?_;rw[qbc Vr _];exact QH (W.done s _ _ p λa m=>QT (x a (m.mono λZ h=>QV _ h) (u.h λo e=>m.heap r o D e)))
 |succ k K=>
  intro i s F p u x;have d:i<n:=by lia
  refine codeAny_builtin Xy ?_;rw[qbc Vr _];refine QH (W.item i s _ _ d p λv a L y m=> ?_)
  (refine oE (λt c=> ?_) (l i v L);subst c)
  refine QH (RA ?_);refine RA (QH ((Ub prog w).pyHash (XB _ _ _ _) ?_));refine vY (u.h λo e=>m.heap r o D e) (J i d) λb N H M=>QT ⟨plainId_quiet Vr _,K (i+1) _ (by grind) (W.frame _ a _ _ y (Uk _) λb z o e=>(H.2 b λq=>C (q▸z)).trans e) (M.g λj=>Mr val i j) λB f S=> ?_⟩;exact x B (Moved.trans W.gtrans ((m.mono λZ h=>QV _ h).then_heap (Uk _) λb o z e=>(H.2 b λq=>z (q▸QM ..)).trans e) f) S
end
theorem uN:∀{l:QI PV} {m:QN} {vs:QI QU} {h:RI},hU l=QG m→aA h [] l vs→∃ns:QI QN,(∀n∈ns,n<9)∧ns.length=vs.length∧(∀j,m.testBit j=ns.any (·==j))∧∀(i:QN) (v:QU),vs[i]?=QG v→∃t,v=.int (ns.getD i 0:QN) t
 |[],m,vs,h,b,c=>by
  obtain rfl:vs=[]:=c;obtain rfl:0=m:=QS b;exact(fO ([]) (λZ h=>Ro h Rb) QJ (λj=>Wt j) λi v h=>aI h)
 |v::l,m,vs,h,b,c=>by
  (revert c;refine bq λu vs e r=> ?_;subst e;revert r;refine oA λy c=> ?_)
  induction v using PV.casesOn with
  |A i=>
   refine have b:Sr (Rc (0≤i∧i<9)) ((hU l).map λm=>m|||2^i.toNat) RM=QG m:=b;?_
   induction o:Rc (0≤i∧i<9) using QL with
   |false=>rw[o] at b;exact aI b
   |true=>
    rw[o] at b
    (refine ag (λH p d=> ?_) (mS b);subst d)
    refine jv (λns z B C D=> ?_) (uN p c);refine oA (λF G=> ?_) (Rl o)
    (refine oE (λn f=> ?_) (Int.eq_ofNat_of_zero_le F);subst f)
    (revert y;refine oE λt g=> ?_;subst g)
    refine(fO (n::ns) (λx q=> ?_) (RH (·+1) B) (λj=> ?_) λi v c=> ?_)
    ·(refine oO (λk=> ?_) (λq=> ?_) (mC q)<;>try subst k)
     ·exact Ug.mp G
     ·exact z x q
    ·rw[qaH,C j,Int.toNat_natCast,qcb,UO,Bool.or_comm]
     exact RH (·||_) (by rw[Ud,Ua,Sk])
    ·induction i using Uo with
     |zero=>exact⟨t,(QS c).symm⟩
     |succ i=>exact D i v c
  |_=>exact aI b
theorem Mq{ns:QI QN}(j:QN):ku (λi=>ns.getD i 0) ns.length j=ns.any (·==j):=by
 rw[Ud,ku,UQ,UQ];refine⟨ag λi h e=> ?_,ag λx b e=> ?_⟩
 ·have h:=Vh.mp h
  rw[WX,Rk h] at e;exact(ai _ (UP h) e)
 ·obtain⟨i,h,rfl⟩:=List.mem_iff_getElem.mp b
  exact(ai i (Vh.mpr h) (by rw[WX,Rk h];exact e))
section
variable{prog:RP}{w:Sn}{A:SY}{E:QU→QZ→Prop}{s:QZ}{a l:RK}{ns:QI QN}{items:TS QU}
theorem EA{K:WD}{Q:QU→QZ→Prop}(L:A.handled=RM)(M:s.heap.IsList l items)(N:∀n∈ns,n<9)(G:ns.length=items.size)(O:∀(i:QN) (v:QU),items[i]?=QG v→∃t,v=.int (ns.getD i 0:QN) t)
  (q:∀f tk,eU s.heap f→aU f s.heap.objs.size (λj=>ns.any (·==j))→Q (.ref s.heap.objs.size) {s with heap:=f,toks:=tk}):Rh (Rf prog w) A (qdk K (.type "frozenset") (.ref l)) Q E s:=by
 refine QH (nN λu P=>QH (QT (QH (RA ?_))))
 (revert P;refine kY λk R S t U V z=> ?_)
 (revert M;refine ou λH c p W x=> ?_)
 refine have r:u.IsList l items:=(gF H (k _ _ c) p W x);?_;refine have T:Shared.TypeIs {s with heap:=u} (.ref l) "list" :=(ai H (k _ _ c) p);?_;refine QH (QH (Vn T PySem.F.sub_list_set (Vn T PySem.F.sub_list_frozenset (RL QJ (QH (qah T (RL (by decide) (QH (qai r (QH (wpAny_runValue ?_)))))))))));refine have I:s.heap.get? s.heap.objs.size=none:=kS _;?_;have y:l≠s.heap.objs.size:=λe=>by rw[e,I] at c;exact aI c
 (revert U;refine ag λX J Y=> ?_)
 refine have Z:=SS J;?_;refine ED ((Walks.list (by exact L) u.objs.size l (λe=> ?_) items).toS) s.heap.objs.size ?_ (λi=>ns.getD i 0) (λi hi=> ?_) (λi v h=>O i v h) items.size 0 _ (SG _) ⟨(bz _ (RY _ QJ) QJ QJ),r.push _⟩ (cy R S t (ai X (Rw _ J) Y) V) λs' m hS=> ?_
 ·exact Tj (SS (k _ _ c)) e
 ·exact λm=>(mC m).elim (Tj Z) λm=>y (m1 m).symm
 ·rw[WX,Rk (G▸hi)]
  exact N _ (UP _)
 ·obtain⟨f,g',d',B,C⟩:=s'
  refine have eg:g'=s.gens:=m.gens;?_;refine have ed:d'=s.drawn:=m.drawn;?_;refine have eo:C=s.os:=m.os;?_;subst eg ed eo;refine QT (QT (q f B (λb o e=>m.heap b o (λD=> ?_) (Rw _ (k b o e))) (aU.g hS λj=>by rw[←G];exact(Mq j).symm)))
  (refine oO (λd=> ?_) (λD=> ?_) (mC D)<;>try subst d)
  ·rw[I] at e;exact aI e
  ·rw[m1 D] at e
   exact Ro (SS (k _ _ e)) (Ts _)
theorem EK:Meets (Builtin.«frozenset.__new__» ⟨[.type "frozenset",.ref l],[]⟩) λA R s=>A.handled=RM∧s.heap.IsList l items∧(∀n∈ns,n<9)∧ns.length=items.size∧(∀(i:QN) (v:QU),items[i]?=QG v→∃t,v=.int (ns.getD i 0:QN) t)∧
  ∀b tk,eU s.heap b→aU b s.heap.objs.size (λj=>ns.any (·==j))→R (.ok (.ret (.ref s.heap.objs.size))) {s with heap:=b,toks:=tk}:=
 .of_wp λprog w A R s h=>by
  (revert h;refine rM λf e g m p q=> ?_)
  have u:=kQ;have c:=qK.lookup;refine ou (λr o d z x=> ?_) (id e);have T:s.TypeIs (.ref l) "list" :=(ai r o d)
  wp_walk using qah T,EA (A:=A.in1) f e g m p
  exact λb tk y k=>QT (ai _ QJ (q b tk y k))
theorem EF:fF prog w where
 Qy:=λA E s Q f q=>callType_new wc (by decide) ET EI (λj=>PySem.F.args_object_init_1 j) wg EH λh n=>by
  (revert n;refine kY λb o p t k g z=> ?_)
  exact⟨k.d,q _ h s.toks b (aU.d (cy o p t k g) λi=>(Wt i).symm)⟩
 of:=λA E s a I l m Q f r u x Z q=>by
  refine jv (λns y B C D=> ?_) (uN x u)
  (revert r;refine oE λn G=> ?_)
  refine callType_new wc (by decide) (EU _) (EJ _) (λj=>PySem.F.args_object_init_2 j _) wg (EK) ⟨f,(gF _ G QJ n QJ),y,by rw[B];rfl,λi v e=>D i v (by rwa[Yq] at e),λh H b k=>⟨aU.c k,q _ h H b (k.d λi=>(C i).symm)⟩⟩
end
theorem qy{α:Type}(xs:TS α)(p:QN):(Vy xs p).toList=xs.toList.eraseIdx p:=by
 rw[Wg];simp[Vy,List.extract_eq_take_drop,XT]
section
variable{prog:RP}{w:Sn}{A:SY}{E:QU→QZ→Prop}{s:QZ}{a b r:RK}{es eo:TS (RW×QU)}{ep eq:QN}{t to:UA}{S T:QN→RG}
theorem AW{a b p d m:QN}(c:a+1=p)(e:b=d+1)(h:p+d≤m):a+b≤m:=by subst c e;rw[RO] at h;exact h
theorem az.Nk(g:az es t S){j i:QN}{e:RW×QU}(n:es.toList[j]?=QG e)(o:e.1=(i:RW)):az (Vy es j) (t.drop j) λk=>S k&& !(k==i):=by
 have f:=(gL n);have p:=qx es.toList j f;rw[(Te.mp n).2,←qy] at p;have u:=SO.mp ((p.map qav).nodup_iff.mpr g.MZ);refine⟨λx c=>g.MU x (p.mem_iff.mp (QV _ c)),u.2,λk=> ?_,?_⟩
 ·rw[Tf,g.MV k,qcF,Tp]
  refine⟨λ⟨⟨x,c,q⟩,B⟩=> ?_,ag λx c q=>⟨⟨x,p.mem_iff.mp (QV _ c),q⟩,λh=> ?_⟩⟩
  ·(refine oO (λd=> ?_) (λc=> ?_) (mC (p.mem_iff.mpr c))<;>try subst d)
   ·exact Ro (Vk (q.symm.trans o)) B
   ·exact(ai x c q)
  ·exact u.1 (VZ.mpr ⟨x,c,by rw[q,h];exact o.symm⟩)
 ·have m:=g.MX
  rw[WS,Tf,Sk,Ua,WT] at m;rw[RT] at f
  have C:(Vy es j).size+1=es.size:=by
   rw[←RT,qy,VB,SH (by rw[RT];exact f),RT,pX f]
  have y:t.place[j]?=QG (t.place[j]'(by simp_all)):=Xn _;have l:j<t.place.size:=m.1▸f;generalize t.place[j]'l=v at y;have D:t.drop j={t with place:=Vy t.place j,dummies:=qbm t.dummies (qbZ t.dummies v) v}:=by rw[SetTable.drop,y]
  have z:(Vy t.place j).size+1=t.place.size:=by
   rw[←RT,qy,VB,SH (by rw[RT];exact l),RT,pX l]
  have F:(qbm t.dummies (qbZ t.dummies v) v).size=t.dummies.size+1:=by
   rw[←RT,(SetTable.insertAt_perm _ _ _).length_eq,RT,Array.size_push]
  rw[D,WS,WT,Tf,Sk,Ua];exact⟨Ve (z.trans (m.1.trans C.symm)),AW z F m.2⟩
theorem Eo{i:QN}{tk:Tok}{Q:RG→QZ→Prop}(h:aU s.heap a S)(f:i<9)(q:∀b c,Su a s.heap c→aU c a (λj=>S j&& !(j==i))→Q b {s with heap:=c}):
  Rh (Rf prog w) A (setDiscardHashed a (.int i tk) i) Q E s:=by
 (revert h;refine bc λes ep t h g=> ?_)
 refine QH (qH h g f λr l=> ?_);rcases l with⟨rfl,m⟩|⟨j,e,rfl,-,n,o⟩
 ·refine QT (q QR s.heap (Uh ..) (cy es ep t h (g.MY λk=> ?_)))
  induction e:k==i using QL with
  |true=>rw[VC e,m];rfl
  |false=>exact YR _
 ·have d:=g.Nk n o
  exact QH (fN h g (QH (jU h d.MW λc b k=>QH (qcT (QT (q QO c b (cy _ _ _ k d)))))))
theorem ES{Q:UE→QZ→Prop}(h:aU s.heap a S)(q:∀c,Su a s.heap c→aU c a S→Q () {s with heap:=c}):Rh (Rf prog w) A (setTidy a) Q E s:=by
 (revert h;refine bc λes ep t h g=> ?_)
 have d:=g.MW;refine QH (fN h g ?_);dsimp only;split
 ·rw[show Vt es.size=es.size*4 by rw[Vt,SK (TO.mpr (QK d (by decide)))]]
  exact wm h g (VD _ d) (λh=>qaK (QK (Sm h) (by decide:8≤4*4)) (by decide:0<4)) λc e p f b k i Z Z Z=>q c b (cy e p f k i)
 ·exact QT (q s.heap (Uh ..) (cy es ep t h g))
theorem En{W:WD}{Q:UE→QZ→Prop}(h:bA s.heap r es ep t)(g:az es t S)(z:bA s.heap b eo eq to)(y:az eo to T)(X:eo.size≤es.size)(B:b≠r)(q:∀k,Su r s.heap k→aU k r (λj=>S j&& !T j)→Q () {s with heap:=k}):
  Rh (Rf prog w) A (qdl W r (.ref b)) Q E s:=by
 refine RL (RJ λe=>B (qbX (VC e))) (QH (kO z.d (Tt QJ (QH (QT (QH (jh z y (QH (jh h g (RL (RJ (TO.mpr (QK (qaq _ _) X))) (QH (jg z y (QH (RA ?_))))))))))))));refine QH (EW z y (λx Y=>⟨S,by rw[m1 Y];exact(cy es ep t h g)⟩) λG p=> ?_);refine QH (Vv _ (λf Z H=>∃k,H={s with heap:=k}∧Su r s.heap k∧(∀e∈f,e∈eo.toList)∧∃C,aU k r C∧∀j,(C j&& !iB f j)=(S j&& !T j)) _ (λe f u H I=> ?_) (λu H I=> ?_) G _ (jW s.heap QJ (Uh ..) (λe J=>p.mem_iff.mp J) S (cy es ep t h g) λj=>by rw[y.Ng p j]))
 ·(revert I;refine ag λh1 l m=> ?_;subst l;revert m;refine gM λD V C K L=> ?_)
  (refine bq (λi tk hi n=> ?_) (y.MU e (V e (QM ..)));subst n)
  refine QH (RA (Eo K hi λb M F N=>QH ?_));have O:=z.c (D.trans F) B;refine QH (jg O y (RL (by rw[UL];rfl) (QT (QT (jW M QJ (D.trans F) (λe J=>V e (QV _ J)) _ N λj=> ?_)))));rw[←L j,mR,Bool.not_or,Bool.and_assoc]
 ·(revert I;refine ag λh1 o v=> ?_;subst o;revert v;refine gM λD P C K L=> ?_)
  exact QT (ES K λM F=>bc λR U t2 N g2=>q M (D.trans F) (cy R U t2 N (g2.MY λj=>by rw[←L j];exact YR _)))
end
section
variable{prog:RP}{w:Sn}{A:SY}{E:QU→QZ→Prop}{s:QZ}{a b r:RK}{es eo:TS (RW×QU)}{ep eq:QN}{t to:UA}{S T:QN→RG}
theorem az.Nn(g:az es t S)(o:az eo to S):es.size=eo.size:=by
 have:=(g.Nh o λZ=>QJ).length_eq;rwa[QP,QP,RT,RT] at this
theorem EO{Q:Fin→QZ→Prop}(ha:aU s.heap a S)(hb:aU s.heap b T)(q:∀h',eU s.heap h'→aU h' s.heap.objs.size (λj=>S j&& !T j)→Q (.done (.ret (.ref s.heap.objs.size))) {s with heap:=h'}):
  Rh (Rf prog w) A (Builtin.«frozenset.__sub__» ⟨[.ref a,.ref b],[]⟩) Q E s:=by
 have ta:=ha.c;have na:=ha.f;have nb:=hb.f;have hc:=ha
 (revert ha;refine bc λes ep t h g=> ?_)
 (revert hb;refine bc λeo eq to ho go=> ?_)
 refine QH (qJ ?_);refine QH (wB ta ho.d (RL QJ (QH (QT (QH ?_)))));refine QH (kO ho.d (RL QJ (QH (QT (RL QJ (Tt QJ (QH (jh ho go (QH (jh h g ?_))))))))))
 by_cases hz:es.size/4>eo.size
 ·refine Tt (Ry hz) (QH (Wb (QH (we hc λh1 n1=> ?_))))
  (revert n1;refine kY λad es1 ep1 t1 k1 g1 z_531=> ?_)
  have:=g1.Nn g;refine QH (QT (QH (RA (En k1 g1 (ho.f ad) go (QK (Sm hz) (this▸qaq _ 4)) (Vi nb) λh2 b2 k2=>QT (QT (q h2 (mQ ad (kS _) b2) k2))))))
 ·refine RL (RJ hz) (QH (wa ta (QH (nN λh1 n1=>QH (QT ?_)))))
  (revert n1;refine kY λad es1 ep1 t1 k1 g1 z_532=> ?_)
  have h1a:=h.f ad;have h1b:=ho.f ad;refine QH (jg h1a g (QH (RA (QH (Tt QJ (wC h1a g (λx hx=> ?_) (cy _ _ _ k1 g1) λes' h2 p b2 k2=>QH (Vv _ (λrest Z s'=>∃h',s'={s with heap:=h'}∧Su s.heap.objs.size h1 h'∧(∀e∈rest,e∈es.toList)∧∃S',aU h' s.heap.objs.size S'∧∀j,(S' j||(iB rest j&& !T j))=(S j&& !T j)) _ (λe rest u s' hI=> ?_) (λu s' hI=> ?_) es' _ (jW h2 QJ b2 (λe he=>p.mem_iff.mp he) _ k2 λj=>by rw[g.Ng p j,XA]))))))))
  ·(refine oO (λe_533=> ?_) (λhx=> ?_) (mC hx)<;>try subst e_533)
   ·exact(fP T eo eq to h1b go)
   ·exact⟨_,by rw[m1 hx];exact(cy _ _ _ k1 g1)⟩
  ·(revert hI;refine ag λh3 e_534 r_535=> ?_;subst e_534;revert r_535;refine gM λb3 hm S' k3 hj=> ?_)
   (refine bq (λi tk hi e_536=> ?_) (g.MU e (hm e (QM ..)));subst e_536)
   have h3a:=h1a.c b3 (Vi na);have h3b:=h1b.c b3 (Vi nb)
   have un:∀{h':RI} {Q:UE→QZ→Prop},bA h' a es ep t→Q () {s with heap:=h'}→Rh (Rf prog w) A (qdf (toString "frozenset." ++toString "__sub__") a ep) Q E {s with heap:=h'}:=λ{h'} Q k q=>by
    exact QH (jg k g (RL (by rw[UL];rfl) (QT q)))
   refine QH (RA (Tt QJ (QH (qH h3b go hi λr hr=>QH (QT ?_)))));rcases hr with⟨rfl,hT⟩|⟨j',_,rfl,hT,_⟩
   ·refine Tt QJ (QH (vZ k3 hi λb h4 b4 k4=>QT (QH (un (h3a.c b4 (Vi na)) (QT (jW h4 QJ (b3.trans b4) (λe he=>hm e (QV _ he)) _ k4 λj=> ?_))))))
    rw[←hj j,mR]
    cases e:j==i with
    |false=>rw[VO,XA]
    |true=>rw[VC e,hT];simp
   ·refine RL QJ (QT (QH (un h3a (QT (jW h3 QJ b3 (λe he=>hm e (QV _ he)) _ k3 λj=> ?_)))))
    rw[←hj j,mR]
    induction e:j==i using QL with
    |false=>rw[XA]
    |true=>rw[VC e,hT];simp
  ·(revert hI;refine ag λh3 e_537 r_538=> ?_;subst e_537;revert r_538;refine gM λb3 z_539 S' k3 hj=> ?_)
   exact QT (QT (QT (q h3 (mQ ad (kS _) b3) (aU.g k3 λj=>by rw[←hj j];exact VO _))))
theorem EL:dD prog w where
 or:=λA E s a b x y Q e f g q=>qdw e.b.c f.b.c Eu wx (Vo wx e.b.c Es (EM e.b f.b λl m k=>(bz _ QJ nofun (q _ l s.toks m (k.d λi=>(qaH ..).symm)))) (El _ _))
 QA:=λA E s a b x y Q e f g q=>qdw e.b.c f.b.c Ew wy (Vo wy e.b.c Et (EO e.b f.b λl m k=>(bz _ QJ nofun (q _ l s.toks m (k.d λi=>by
  rw[qdB,qdA]
  induction x.testBit i using QL<;>induction y.testBit i using QL<;>rfl)))) (Em _ _))
 ne:=λA E s a b x y Q e f g u q=>wpAny_richCompare_same_room (op:=.NotEq) e.b.c f.b.c wu (Vo wu e.b.c Er (EG e.b f.b λr n=>(bz _ QJ nofun (by
  have:r=(x==y):=by
   rw[Ud,n,Sk];exact⟨λh=>qbP h,λh j=>by rw[h]⟩
  rw[this]
  exact q s.heap s.toks λZ Z h=>h))) (Ek _ _)) u
 Qz:=λA E s a x i t Q e g o q=>EB e.b λk=>q k
end
theorem fs_all:∀(prog:RP) (w:Sn),dD prog w∧fF prog w:=λZ Z=>⟨EL,EF⟩
noncomputable def aO.qa:aO→Ux
 | .B=> "append"
 | .D=> "extend"
 | .C=> "pop"
 | .A=> "get"
noncomputable def oj(o:AO)(m:aO):String:=match o with
 | .A Z=>(match m with| .B=> "list.append" | .D=> "list.extend" | .C=> "list.pop" | .A=> "?")
 |_=>(match m with| .C=> "dict.pop" | .A=> "dict.get" |_=> "?")
theorem HD{a b:AO}{m:aO}(h:jC a b=QO):oj a m=oj b m:=by
 induction a using AO.casesOn<;>induction b using AO.casesOn<;>first|rfl|exact aD h
theorem Bz{a b:AO}{m:aO}(h:jC a b=QO)(k:hW m a=QO):hW m b=true:=by
 induction a using AO.casesOn<;>induction b using AO.casesOn<;>first|exact k|exact aD h
section
variable{prog:RP}{w:Sn}{hs:RI}{ads:aH}{σ:af}{A:SY}{E:QU→QZ→Prop}{s:QZ}{q:RG}{d:QN}
theorem HC{n:QN}{m:aO}{b:AO}{p:RK×RK}{c:Sem RG}{P:QU×QI QU→QZ→Prop}(e:hW m b=QO)(R:ah prog w hs s.heap ads σ)(h:ads[n]?=QG p)(f:σ[n]?=QG b)
  (H:P (.builtin (oj b m),[.ref p.1]) s):Rh (Rf prog w) A (XF (.ref p.1) m.qa c) P E s:=by
 refine have r:=R.NW n p _ h f;?_
 induction b using AO.casesOn with
 |A l=>
  (revert r;refine cc λZ v z Z=> ?_;revert z;refine oE λk g=> ?_)
  refine have t:s.heap.NoDictAt (.ref p.1):=(ai _ g QJ);?_;refine have a:∃o,s.heap.get? p.1=QG o∧o.cls=.type "list" ∧∃n,o.data=.seq v.toArray n:=(gF _ g QJ _ QJ);?_
  induction m using aO.casesOn with
  |B=>exact qap PySem.F.slot_list_append PySem.F.type_list_append a t H
  |D=>exact qap qao PySem.F.type_list_extend a t H
  |C=>exact qap XJ PySem.F.type_list_pop a t H
  |A=>exact aD e
 |B l=>
  (revert r;refine cc λZ i g Z=> ?_)
  induction m using aO.casesOn with
  |C=>exact qal g.typeIs Xs VV PySem.F.type_dict_pop g.mapOf.noDict H
  |A=>exact qal g.typeIs Xs VW qaO g.mapOf.noDict H
  |_=>exact aD e
 |D l=>
  (revert r;refine cc λZ i g Z=> ?_)
  induction m using aO.casesOn with
  |A=>exact qal g.typeIs Xs VW qaO g.mapOf.noDict H
  |_=>exact aD e
 |C Z U=>exact aD e
theorem SP.G{n:QN}{p:RK×RK}{o:AO}{c:RI}{tk:QN}{x:PV}{v:QU}{W:(QU→QZ→Prop)→Prop}(R:ah prog w hs s.heap ads σ)(f:ads[n]?=QG p)
  (g:Su p.1 s.heap c) (l:bw s.heap ads c ads→eL prog w c ads p o) (r:av s.heap ads x v) (h:∀Q,Q v {s with heap:=c,toks:=tk}→W Q):
  SP prog w hs QR s ads σ ((M.i n o).a λZ=>.b x) W av:=
 have k:∀b o,b≠p.1→b≠p.2→s.heap.get? b=QG o→c.get? b=QG o:=λb o m Z e=>jX g b o m e
 SP.j h (SP.i (W₂:=λZ t Q=>Q v t) (SP.u (v:=()) (RV:=λh ads Z Z=>av h ads x v) R f k l (av.a (R.NY (au.Pn f k)) _ r) λZ h=>h)
  λZ Z Z Z y Z z Z B=>SP.a z B λZ h=>h)
theorem Dv(l:QI (RW×PV))(k:RW):(ib l k).length≤l.length:=Uv ..
theorem AU{n:QN}{p:RK×RK}{l:QI PV}{x:PV}{u:QU}(R:ah prog w hs s.heap ads σ)(m:ads[n]?=QG p)(r:σ[n]?=QG (.A l))(t:av s.heap ads x u)(y:l.length<aR):
  SP prog w hs QR s ads σ (.i n (.A (l++[x]))) (λQ=>Rh (Rf prog w) A (Ur (.builtin "list.append") [.ref p.1,u]) Q E s) av:=by
 refine cj (λz B g v j=> ?_) (R.NW n p _ m r);intro Z Z C Q H;refine qbU g (λD F G=> ?_) (by rw[RZ,v.a];exact dT j);have I:∀b o,b≠p.1→b≠p.2→s.heap.get? b=QG o→D.get? b=QG o:=λb o J Z e=>jX G b o J e;exact SP.u (o:=.A (l++[x])) R m I (λk=>(cW z (B++[u]) (qcy .. ▸F) (aA.c (aA.f (av.a k _ t)) (aA.b k _ v)) (by rw[QW];exact y))) QJ (λZ h=>h) _ _ C Q H
theorem DQ{n:QN}{p m:RK×RK}{l r:QI PV}{f:QI QU}(R:ah prog w hs s.heap ads σ)(C:ads[n]?=QG p)(K:σ[n]?=QG (.A l))(t:s.heap.PlainList m.1 f.toArray)(D:aA s.heap ads r f)(j:l.length+r.length≤aR):
  SP prog w hs QR s ads σ (.i n (.A (l++r))) (λQ=>Rh (Rf prog w) A (Ur (.builtin "list.extend") [.ref p.1,.ref m.1]) Q E s) av:=by
 (refine cj (λL v z G Z=> ?_) (R.NW n p _ C K);revert z;refine oE λM g=> ?_)
 (revert t;refine oE λN t=> ?_)
 have y:v.toArray.size=l.length:=by rw[RZ,G.a]
 have I:f.toArray.size=r.length:=by rw[RZ,D.a]
 have J:aR=4096:=QJ;intro Z Z O Q H
 refine ZS qao (ai _ g QJ) PySem.F.entry_list_extend (PySem.F.args_list_extend_2 _ _)
  (qdV p.1 v.toArray M m.1 f.toArray N (by simp only[Zt,y,I,qcX];simp;intro Z;exact QK j (Sq _ _)) (by rw[y,WN];exact QK (Vp j) (by decide)) (by rw[y,I,WN];exact QK j (Sq _ _))) (aL g t ?_)
 have B:(s.heap.update p.1 (WZ λx=>x++f.toArray)).PlainList p.1 (v++f).toArray:=by
  have:v.toArray++f.toArray=(v++f).toArray:=by simp
  rw[←this];exact⟨_,UW (WZ λx=>x++f.toArray) g QJ⟩
 exact SP.u (o:=.A (l++r)) R C (λb o P Z e=>jX (UZ ..) b o P e) (λk=>(cW L (v++f) B (aA.c (aA.b k _ D) (aA.b k _ G)) (by rw[QW];exact j))) QJ (λZ h=>h) _ _ O Q H
theorem JW{n k:QN}{i:RW}{t:Tok}{p:RK×RK}{l:QI PV}{x:PV}(R:ah prog w hs s.heap ads σ)(f:ads[n]?=QG p)(D:σ[n]?=QG (.A l))(j:l[k]?=QG x)(o:i=k):
  SP prog w hs QR s ads σ ((M.i n (.A (l.eraseIdx k))).a λZ=>.b x) (λQ=>Rh (Rf prog w) A (Ur (.builtin "list.pop") [.ref p.1,.int i t]) Q E s) av:=by
 (refine cj (λH v z r c=> ?_) (R.NW n p _ f D);revert z;refine oE λI g=> ?_)
 refine ag (λy J K=> ?_) (r.d j);have B:k<l.length:=(gL j);have C:v.toArray.size=l.length:=by rw[RZ,r.a]
 have L:k<4096:=Rj B c
 have u:(s.heap.update p.1 (WZ λe=>e.eraseIdxIfInBounds k)).PlainList p.1 (v.eraseIdx k).toArray:=by
  rw[←ZJ];exact⟨_,UW (WZ λe=>e.eraseIdxIfInBounds k) g QJ⟩
 have N:Wj i=true:=o▸fitsIndex_of (Rx k) (Yl (Ug.mpr L) (by decide));have O:seqIndex? i v.toArray.size=QG k:=o▸td (C▸B);have P:v.toArray[k]?=QG y:=by rw[Yq];exact J
 have S:v.toArray.size≤sizeLine:=C▸dT c;have m:=qdS p.1 v.toArray I i t k y N O P S
 exact SP.G R f (UZ ..) (λT=>(cW H (v.eraseIdx k) u ((aA.b T _ r).k _) (QK (qbb l k) c))) K λQ h=>
  ZS XJ (ai _ g QJ) qaF (PySem.F.args_list_pop_2 _ _) m ⟨g,h⟩
theorem JX{n:QN}{p:RK×RK}{l:QI PV}{x:PV}(R:ah prog w hs s.heap ads σ)(e:ads[n]?=QG p)(t:σ[n]?=QG (.A l))(f:l.getLast?=QG x):
  SP prog w hs QR s ads σ ((M.i n (.A l.dropLast)).a λZ=>.b x) (λQ=>Rh (Rf prog w) A (Ur (.builtin "list.pop") [.ref p.1]) Q E s) av:=by
 (refine cj (λB v z r j=> ?_) (R.NW n p _ e t);revert z;refine oE λC g=> ?_)
 rw[List.getLast?_eq_getElem?] at f;refine ag (λy k D=> ?_) (r.d f);refine have o:v.toArray.size=l.length:=(by rw[RZ,r.a]);?_
 have u:(s.heap.update p.1 (WZ λc=>c.eraseIdxIfInBounds (v.toArray.size-1))).PlainList p.1 v.dropLast.toArray:=by
  have H:v.toArray.eraseIdxIfInBounds (v.toArray.size-1)=v.dropLast.toArray:=by
   refine have:v.length≠0:=λq=>Ro (q▸gL k) (VS _);?_;rw[ZJ,RZ,Wg,Yr,XU (Sx (Xl (Zl this)).symm),RD]
  rw[←H];exact⟨_,UW (WZ λc=>c.eraseIdxIfInBounds (v.toArray.size-1)) g QJ⟩
 exact SP.G R e (UZ ..) (λI=>(cW B v.dropLast u ((aA.b I _ r).m) (by rw[List.length_dropLast];exact QK (Zk ..) j))) D λQ h=>
  ZS XJ (ai _ g QJ) qaF (PySem.F.args_list_pop_1 _) (qdR p.1 v.toArray C y (by rw[o];simpa using k) (by rw[o];exact dT j)) ⟨g,h⟩
theorem DD{n:QN}{p:RK×RK}{l:QI (RW×PV)}{k:RW}{t:Tok}{r:QI PV}{vs:QI QU}(R:ah prog w hs s.heap ads σ)(O:ads[n]?=QG p)(Y:σ[n]?=QG (.B l))(f:aA s.heap ads r vs):
  SP prog w hs QR s ads σ (match bG l k with
    |some v=>.c (match (generalizing:=false) r with|[]=>QO|Z::t=>t.isEmpty) ((M.i n (.B (ib l k))).a λZ=>.b v)
    |none=>fh r) (λQ=>Rh (Rf prog w) A (Ur (.builtin "dict.pop") (.ref p.1:: .int k t::vs)) Q E s) av:=by
 refine cj (λe2 L g N P=> ?_) (R.NW n p _ O Y);refine have T:=N.c (nG k);?_
 induction V:bG l k using QQ with
 |some x=>
  refine ag (λy W ry=> ?_) (T.1 x V);refine SP.c λhr=>λZ Z ev Q H=> ?_
  have u:∀e,e.DictOf (Ub prog w) p.1 (without L k)→Su p.1 s.heap e→∀X,Q y {s with heap:=e,toks:=X}:=λe m C X=>
   SP.G (o:=.B (ib l k)) R O C (λkk=>(cW e2 _ m (ba.g (N.b kk)) (QK (Dv l k) P))) ry (λZ h=>h) _ _ ev Q H
  induction r using Rm with
  |nil=>
   obtain rfl:vs=[]:=f;exact YD VV g.typeIs XE (PySem.F.args_dict_pop_2 _ _) (qcY (Ub prog w) p.1 (gG k t) [] (.inl QJ) QJ) (eF L y g (by rw[N.a];exact dT P) W λe m C=>u e m C _)
  |cons z r=>
   induction r using Rm with
   |nil=>
    (revert f;refine bq λS j D I=> ?_;subst D;revert I;refine oA λZ f=> ?_)
    obtain rfl:j=[]:=f;exact YD VV g.typeIs XE (qau _ _ _) (qcY (Ub prog w) p.1 (gG k t) [S] (.inr ⟨_,QJ⟩) QJ) (eF L y g (by rw[N.a];exact dT P) W λe m C=>u e m C _)
   |cons Z U=>exact aD hr
 |none=>
  induction r using Rm with
  |nil=>exact SP.b
  |cons z r=>
   induction r using Rm with
   |nil=>
    (revert f;refine bq λS j J K=> ?_;subst J;revert K;refine oA λrz f=> ?_)
    obtain rfl:j=[]:=f;exact SP.a R rz λQ h=>YD VV g.typeIs XE (qau _ _ _) (meets_dict_pop_default (Ub prog w) p.1 (gG k t) (R.Oe (ai p (Rg O) (.inl QJ))) QJ S) (bz L g (T.2 V) h)
   |cons Z U=>exact SP.b
theorem vC{κ κ':Type}[Wh κ][Wh κ']{knd:KeyKind prog w κ}{rk:κ'→κ→Prop}{p:RK×RK}{kvs:QI (κ×QU)}{l:QI (κ'×PV)}{c:κ}{n:κ'}{H:QU}{r:QI PV}{vs:QI QU}{i:PV}
  (j:(p.1==sysModules)=QR) (g:s.heap.DictOf knd p.1 kvs) (K:ba s.heap ads rk l kvs) (L:∀b a,rk b a→(a=c↔b=n)) (I:knd.is c H=QO) (o:aA s.heap ads r vs)
  (u:(match (generalizing:=false) r with|[]=>QG PV.G|d::t=>Sr t.isEmpty (QG d) RM)=QG i) (R:ah prog w hs s.heap ads σ):
  SP prog w hs q s ads σ (.b ((bG l n).getD i)) (λQ=>Rh (Rf prog w) A (Ur (.builtin "dict.get") (.ref p.1::H::vs)) Q E s) av:=by
 have J:=K.c L
 have e:∀{B:QU},av s.heap ads i B→∃v,(qcm kvs c).getD B=v∧av s.heap ads ((bG l n).getD i) v:=λ{B} M=>by
  induction f:bG l n using QQ with
  |none=>rw[J.2 f];exact(ai _ QJ M)
  |some x=>refine ag (λy N O=> ?_) (J.1 x f);rw[N];exact(ai _ QJ O)
 induction r using Rm with
 |nil=>
  obtain rfl:vs=[]:=o;obtain rfl:=QS u;refine ag (λv f C=> ?_) (e QJ);exact SP.a R C λQ h=>YD VW g.typeIs qaG (PySem.F.args_dict_get_2 _ _) (meets_dict_get knd p.1 I j) (ai _ g.mapOf (by rw[f];exact h))
 |cons z r=>
  induction r using Rm with
  |nil=>
   (revert o;refine bq λP D k m=> ?_;subst k;revert m;refine oA λS o=> ?_)
   obtain rfl:D=[]:=o;obtain rfl:z=i:=QS u;refine ag (λv f C=> ?_) (e S);exact SP.a R C λQ h=>YD VW g.typeIs qaG (PySem.F.args_dict_get_3 _ _ _) (meets_dict_get_default knd p.1 I j P) (ai _ g.mapOf (by rw[f];exact h))
  |cons Z U=>exact aI u
theorem BA{n:QN}{m:aO}{F:AO}{p:RK×RK}{args:QI PV}{e:QI QU}(S:q=QO→m=.A)(P:hW m F=QO)(R:ah prog w hs s.heap ads σ)(H:ads[n]?=QG p)(I:σ[n]?=QG F)(u:aA s.heap ads args e):
  SP prog w hs q s ads σ (kJ n F m args) (λQ=>Rh (Rf prog w) A (Ur (.builtin (oj F m)) (.ref p.1::e)) Q E s) av:=by
 induction m using aO.casesOn with
 |B=>
  induction q using QL with
  |true=>cases S QJ
  |false=>
   induction F using AO.casesOn with
   |A l=>
    exact SP.l (V:=λG Q=>Rh (Rf prog w) A (Ur (.builtin "list.append") (.ref p.1::G)) Q E s) u λx v Z z=>SP.c λT=>AU R H I z (lB T)
   |_=>exact aD P
 |D=>
  induction q using QL with
  |true=>cases S QJ
  |false=>
   induction F using AO.casesOn with
   |A l=>
    refine SP.l (V:=λG Q=>Rh (Rf prog w) A (Ur (.builtin "list.extend") (.ref p.1::G)) Q E s) (f:=λv=>(eA v).a λj=>(bZ v).a λr=>.c (Um (l.length+r.length) aR&& !SW n j) (.i n (.A (l++r)))) u λx v Z z=> ?_
    induction x using PV.casesOn with
    |B j=>
     exact SP.o (V:=λv Q=>Rh (Rf prog w) A (Ur (.builtin "list.extend") [.ref p.1,v]) Q E s) R z λZ p' r us Z Z Z g rr Z=>SP.c λT=>
      DQ R H I g rr (lB (aT T).1)
    |_=>exact SP.b
   |_=>exact aD P
 |C=>
  induction q using QL with
  |true=>cases S QJ
  |false=>
   induction F using AO.casesOn with
   |A l=>
    induction args using Rm with
    |nil=>
     obtain rfl:e=[]:=u;exact SP.t λx hx=>JX R H I hx
    |cons x r=>
     refine SP.l (V:=λG Q=>Rh (Rf prog w) A (Ur (.builtin "list.pop") (.ref p.1::G)) Q E s) (f:=λx=>(fw x).a λk=>(M.h l[k]?).a λv=>(M.i n (.A (l.eraseIdx k))).a λZ=>.b v) u λx v Z z=> ?_;exact SP.r (V:=λv Q=>Rh (Rf prog w) A (Ur (.builtin "list.pop") [.ref p.1,v]) Q E s) z λk t=>SP.t λy U=>JW R H I U QJ
   |B l=>
    induction args using Rm with
    |nil=>exact SP.b
    |cons x r=>
     (revert u;refine bq λv G J K=> ?_;subst J;revert K;refine oA λz u=> ?_)
     exact SP.g (V:=λv Q=>Rh (Rf prog w) A (Ur (.builtin "dict.pop") (.ref p.1::v::G)) Q E s) z λk t=>DD R H I u
   |_=>exact aD P
 |A=>
  induction args using Rm with
  |nil=>induction F using AO.casesOn<;>exact SP.b
  |cons x r=>
   (revert u;refine bq λv G L N=> ?_;subst L;revert N;refine oA λz u=> ?_)
   dsimp only[kJ];refine SP.t λdv X=> ?_;refine have Y:=R.Oe (ai p (Rg H) (.inl QJ));?_
   induction F using AO.casesOn with
   |B l=>
    refine cj (λZ ks g W Z=> ?_) (R.NW n p _ H I);exact SP.g (V:=λv Q=>Rh (Rf prog w) A (Ur (.builtin "dict.get") (.ref p.1::v::G)) Q E s) z λk t=>vC Y g W (nG k) (gG k t) u X R
   |D l=>
    refine cj (λZ ks g W Z=> ?_) (R.NW n p _ H I)
    induction x using PV.casesOn with
    |C k=>
     (revert z;refine bq λy t U O=> ?_;subst O)
     exact vC Y g W (Aa U) (tC y t) u X R
    |_=>exact SP.b
   |_=>exact aD P
end
abbrev bD:=QI (Ux×WO)
noncomputable def et(c:QN)(x:Ux):Bool:=match bj c with
 |some y=>y==x
 |none=>QR
theorem eT{c:QN}{x:Ux}(h:et c x=QO):bj c=QG x:=by
 unfold et at h
 induction e:bj c using QQ with
 |none=>rw[e] at h;exact aD h
 |some y=>rw[e] at h;exact RH QG (Sk.mp h)
noncomputable def qZ(o:Rz WO):Bool:=match o with
 |some k=>(match k with| .local=>QO| .cell=>QO| .free=>QO|_=>QR)
 |none=>QR
noncomputable def fQ(o:Rz WO):Bool:=match o with
 |some k=>(match k with| .local=>QO| .cell=>QO|_=>QR)
 |none=>QR
noncomputable def yB(b:RG)(f:b=QO→RG):Bool:=match b,f with
 |true,f=>f QJ
 |false,Z=>QR
theorem Jw{b:RG}{f:b=QO→RG}(h:yB b f=QO):∃e,f e=true:=by
 induction b using QL with
 |true=>exact⟨QJ,h⟩
 |false=>exact aD h
noncomputable def is(n m:QN)(f:n=m→RG):Bool:=yB (SW n m) λh=>f (SN h)
theorem dq{n m:QN}{f:n=m→RG}(h:is n m f=QO):∃e,f e=true:=(Jw h).elim λZ k=>⟨_,k⟩
noncomputable def tQ(k:BoolOp→QI RX→Xv→RG)(x:RX):Bool:=is x.ctorIdx 0 λh=>YI x h k
noncomputable def tP(k:RX→qbn→RX→Xv→RG)(x:RX):Bool:=is x.ctorIdx 2 λh=>YV x h k
noncomputable def mG(k:UnaryOp→RX→Xv→RG)(x:RX):Bool:=is x.ctorIdx 3 λh=>Yn x h k
noncomputable def tW(k:RX→RX→RX→Xv→RG)(x:RX):Bool:=is x.ctorIdx 5 λh=>YU x h k
noncomputable def mF(k:QI (Rz RX)→QI RX→Xv→RG)(x:RX):Bool:=is x.ctorIdx 6 λh=>ZE x h k
noncomputable def tY(k:RX→QI ZL→Xo→Xv→RG)(x:RX):Bool:=is x.ctorIdx 8 λh=>XK x h k
noncomputable def tS(k:RX→RX→QI ZL→Xo→Xv→RG)(x:RX):Bool:=is x.ctorIdx 10 λh=>XM x h k
noncomputable def pK(k:RX→QI qaP→QI RX→Xv→RG)(x:RX):Bool:=is x.ctorIdx 15 λh=>Yo x h k
noncomputable def kz(k:RX→QI RX→QI Keyword→Xv→RG)(x:RX):Bool:=is x.ctorIdx 16 λh=>ZF x h k
noncomputable def lz(k:Const→QN→Xv→RG)(x:RX):Bool:=is x.ctorIdx 19 λh=>XN x h k
noncomputable def ly(k:RX→Ux→Xv→RG)(x:RX):Bool:=is x.ctorIdx 20 λh=>Xx x h k
noncomputable def lC(k:RX→RX→Xv→RG)(x:RX):Bool:=is x.ctorIdx 21 λh=>Xw x h k
noncomputable def iw(k:Ux→Xv→RG)(x:RX):Bool:=is x.ctorIdx 23 λh=>ZC x h k
noncomputable def tX(k:QI RX→Xv→RG)(x:RX):Bool:=is x.ctorIdx 24 λh=>ZD x h k
noncomputable def lD(k:QI RX→QN→Xv→RG)(x:RX):Bool:=is x.ctorIdx 25 λh=>Wf x h k
noncomputable def ua(k:Rz RX→Rz RX→Rz RX→Xv→RG)(x:RX):Bool:=is x.ctorIdx 26 λh=>YT x h k
theorem pI{k}{x:RX}(h:tQ k x=QO):∃a b c,x=.BoolOp a b c∧k a b c=true:=(dq h).elim λe d=>YI (motive_1:=λx=>∀e,YI x e k=QO→∃a b c,x=.BoolOp a b c∧k a b c=QO) x e (λa b c Z h=>(cy a b c QJ h)) e d
theorem MB{k}{x:RX}(h:tP k x=QO):∃a b c d,x=.BinOp a b c d∧k a b c d=true:=(dq h).elim λe f=>YV (motive_1:=λx=>∀e,YV x e k=QO→∃a b c d,x=.BinOp a b c d∧k a b c d=QO) x e (λa b c d Z h=>(fP a b c d QJ h)) e f
theorem mH{k}{x:RX}(h:mG k x=QO):∃a b c,x=.UnaryOp a b c∧k a b c=true:=(dq h).elim λe d=>Yn (motive_1:=λx=>∀e,Yn x e k=QO→∃a b c,x=.UnaryOp a b c∧k a b c=QO) x e (λa b c Z h=>(cy a b c QJ h)) e d
theorem Ay{k}{x:RX}(h:tW k x=QO):∃a b c d,x=.IfExp a b c d∧k a b c d=true:=(dq h).elim λe f=>YU (motive_1:=λx=>∀e,YU x e k=QO→∃a b c d,x=.IfExp a b c d∧k a b c d=QO) x e (λa b c d Z h=>(fP a b c d QJ h)) e f
theorem tU{k}{x:RX}(h:mF k x=QO):∃a b c,x=.Dict a b c∧k a b c=true:=(dq h).elim λe d=>ZE (motive_1:=λx=>∀e,ZE x e k=QO→∃a b c,x=.Dict a b c∧k a b c=QO) x e (λa b c Z h=>(cy a b c QJ h)) e d
theorem MH{k}{x:RX}(h:tY k x=QO):∃a b c d,x=.ListComp a b c d∧k a b c d=true:=(dq h).elim λe f=>XK (motive_1:=λx=>∀e,XK x e k=QO→∃a b c d,x=.ListComp a b c d∧k a b c d=QO) x e (λa b c d Z h=>(fP a b c d QJ h)) e f
theorem ME{k}{x:RX}(h:tS k x=QO):∃a b c d f,x=.DictComp a b c d f∧k a b c d f=true:=(dq h).elim λe g=>XM (motive_1:=λx=>∀e,XM x e k=QO→∃a b c d f,x=.DictComp a b c d f∧k a b c d f=QO) x e (λa b c d f Z h=>⟨a,b,c,d,f,QJ,h⟩) e g
theorem Ax{k}{x:RX}(h:pK k x=QO):∃a b c d,x=.Compare a b c d∧k a b c d=true:=(dq h).elim λe f=>Yo (motive_1:=λx=>∀e,Yo x e k=QO→∃a b c d,x=.Compare a b c d∧k a b c d=QO) x e (λa b c d Z h=>(fP a b c d QJ h)) e f
theorem pJ{k}{x:RX}(h:kz k x=QO):∃a b c d,x=.Call a b c d∧k a b c d=true:=(dq h).elim λe f=>ZF (motive_1:=λx=>∀e,ZF x e k=QO→∃a b c d,x=.Call a b c d∧k a b c d=QO) x e (λa b c d Z h=>(fP a b c d QJ h)) e f
theorem pL{k}{x:RX}(h:lz k x=QO):∃a b c,x=.Constant a b c∧k a b c=true:=(dq h).elim λe d=>XN (motive_1:=λx=>∀e,XN x e k=QO→∃a b c,x=.Constant a b c∧k a b c=QO) x e (λa b c Z h=>(cy a b c QJ h)) e d
theorem pH{k}{x:RX}(h:ly k x=QO):∃a b c,x=.Attribute a b c∧k a b c=true:=(dq h).elim λe d=>Xx (motive_1:=λx=>∀e,Xx x e k=QO→∃a b c,x=.Attribute a b c∧k a b c=QO) x e (λa b c Z h=>(cy a b c QJ h)) e d
theorem pM{k}{x:RX}(h:lC k x=QO):∃a b c,x=.Subscript a b c∧k a b c=true:=(dq h).elim λe d=>Xw (motive_1:=λx=>∀e,Xw x e k=QO→∃a b c,x=.Subscript a b c∧k a b c=QO) x e (λa b c Z h=>(cy a b c QJ h)) e d
theorem kA{k}{x:RX}(h:iw k x=QO):∃a b,x=.Name a b∧k a b=true:=(dq h).elim λe c=>ZC (motive_1:=λx=>∀e,ZC x e k=QO→∃a b,x=.Name a b∧k a b=QO) x e (λa b Z h=>(fy a b QJ h)) e c
theorem MJ{k}{x:RX}(h:tX k x=QO):∃a b,x=.List a b∧k a b=true:=(dq h).elim λe c=>ZD (motive_1:=λx=>∀e,ZD x e k=QO→∃a b,x=.List a b∧k a b=QO) x e (λa b Z h=>(fy a b QJ h)) e c
theorem uc{k}{x:RX}(h:lD k x=QO):∃a b c,x=.Tuple a b c∧k a b c=true:=(dq h).elim λe d=>Wf (motive_1:=λx=>∀e,Wf x e k=QO→∃a b c,x=.Tuple a b c∧k a b c=QO) x e (λa b c Z h=>(cy a b c QJ h)) e d
theorem Az{k}{x:RX}(h:ua k x=QO):∃a b c d,x=.Slice a b c d∧k a b c d=true:=(dq h).elim λe f=>YT (motive_1:=λx=>∀e,YT x e k=QO→∃a b c d,x=.Slice a b c d∧k a b c d=QO) x e (λa b c d Z h=>(fP a b c d QJ h)) e f
noncomputable def ng(v:PV)(c:Const):Bool:=match v with
 | .G=>(match c with| .none=>QO|_=>QR)
 | .D b=>(match c with| .bool d=>b==d|_=>QR)
 | .A i=>(match c with| .int j=>i==j|_=>QR)
 | .C k=>(match c with| .str x=>et k x|_=>QR)
 |_=>QR
noncomputable def me(o:Rz WO):Bool:=match o with
 |some k=>(match k with| .globalImplicit=>QO|_=>QR)
 |none=>QR
noncomputable def nU(o:Rz GV):Bool:=match o with
 |some g=>(match g with| .K=>QO|_=>QR)
 |none=>QR
noncomputable def eH(e:RX):Bool:= !SW e.ctorIdx 7
noncomputable def xT(e:RX):Bool:= !SW e.ctorIdx 20
noncomputable def rJ(e:RX):Bool:= !SW e.ctorIdx 26
noncomputable def ml(e:RX):Bool:= !kz (λZ s Z Z=>s.isEmpty) e
noncomputable def hX{α:Type}(k:α→RG)(l:QI α):Bool:=match l with
 |[]=>QR
 |x::r=>r.isEmpty&&k x
noncomputable def qb{α:Type}(k:α→α→RG)(l:QI α):Bool:=match l with
 |[]=>QR
 |x::r=>hX (k x) r
theorem hY{α:Type}{k:α→RG}{l:QI α}(h:hX k l=QO):∃x,l=[x]∧k x=true:=by
 induction l using Rm with
 |nil=>exact aD h
 |cons x r=>
  have h:=aT h;exact(ai x (iE h.1▸QJ) h.2)
theorem uU{α:Type}{k:α→α→RG}{l:QI α}(h:qb k l=QO):∃x y,l=[x,y]∧k x y=true:=by
 induction l using Rm with
 |nil=>exact aD h
 |cons x r=>(refine ag (λy a e=> ?_) (hY h);subst a);exact(fy x y QJ e)
noncomputable def qe{α:Type}(k:α→RG)(o:Rz α):Bool:=match o with
 |none=>QR
 |some x=>k x
noncomputable def fL(s:bD)(ts:QI QN)(t:RX):Bool:=Sr (SW ts.length 1)
 (iw (λx Z=>hX (λc=>et c x) ts&&fQ (s.lookup x)) t)
 (lD (λe Z Z=>Tv 1 ts.length&&SW ts.length e.length&&(ts.zip e).all λp=>iw (λx Z=>et p.1 x&&fQ (s.lookup x)) p.2) t)
noncomputable def nk(s:bD)(c:Xo):Bool:=
 Rc (c.kind=.function)&&c.names.all λp=>match p.2 with
  | .local=>c.names.lookup p.1==QG .local
  | .free=>qZ (s.lookup p.1)&& !(s.lookup p.1==QG .local)
  | .globalImplicit=>QO
  |_=>QR
noncomputable def ni(ts:QI QN)(s:Xo):Bool:=s.names.all λp=>p.2 !=.local||p.1==(".0" :Ux)||ts.any λc=>et c p.1
noncomputable def nh(k:QI QN)(s:QI (Rz RX)):Bool:=SW k.length s.length&&(k.zip s).all λp=>qe (lz λc Z Z=>ng (.C p.1) c) p.2
noncomputable def Gl(e:RX):Bool:=mG (λo x Z=>Rc (o=.USub)&&lz (λc Z Z=>ng (.A 1) c) x) e
noncomputable def fR(e:RX):Bool:=SW e.ctorIdx 25
noncomputable def jq(c:PE):Bool:=match c with
 | .B v=>(match v with| .D b=>b|_=>QR)
 |_=>QR
noncomputable def mh(c:PE):Bool:=match c with
 | .B v=>(match v with| .G=>QO|_=>QR)
 |_=>QR
noncomputable def uE(op:BoolOp)(y:RX)(rest:QI RX)(pos:Xv):Expr:=match rest with
 |[]=>y
 |z::r=>.BoolOp op (y::z::r) pos
noncomputable def uW(op:BoolOp)(k a:RX→RG)(e:RX):Bool:=tQ (λo s pos=>Rc (o=op)&&match s with
 |[]=>QR
 |x::r=>(match r with
  |[]=>QR
  |y::t=>k x&&a (uE op y t pos))) e
noncomputable def lA(s:bD)(k:RX→RG)(e:RX):Bool:=kz (λf a b Z=>b.isEmpty&&iw (λx Z=>nP.any (λp=>nU (QG p.2)&&et p.1 x&&nU (jj p.1))&&me (s.lookup x)) f&&hX k a) e
noncomputable def uY(k:RX→RX→QI RX→RG)(gens:QI ZL):Bool:=hX (λg=>Rc (g.is_async=0)&&k g.target g.iter g.ifs) gens
mutual
noncomputable def aQ:PE→bD→RX→RG
 | .B v,Z,d=>lz (λc Z Z=>ng v c) d
 | .A n,s,d=>iw (λx Z=>et n x&&qZ (s.lookup x)) d
 | .D n,s,d=>iw (λx Z=>et n x&&me (s.lookup x)) d
 | .qb n,s,d=>iw (λx Z=>et n x&&me (s.lookup x)) d
 | .J op a b,s,d=>tP (λl o r Z=>Rc (o=op.py)&&(aQ a s l&&aQ b s r)) d
 | .W a,s,d=>mG (λo x Z=>Rc (o=.USub)&&aQ a s x) d
 | .T a,s,d=>mG (λo x Z=>Rc (o=.Not)&&aQ a s x) d
 | .M a b,s,d=>uW .And (aQ a s) (aQ b s) d
 | .Q a b,s,d=>uW .Or (aQ a s) (aQ b s) d
 | .H op a b,s,d=>pK (λl os rs Z=>hX (λo=>Rc (o=op.py)) os&&(aQ a s l&&hX (λr=>eH r&&aQ b s r) rs)) d
 | .qc a1 a2 a b c,s,d=>pK (λl os rs Z=>qb (λp q=>Rc (p=a1.py)&&Rc (q=a2.py)) os&&(aQ a s l&&qb (λm r=>eH r&&(aQ b s m&&aQ c s r)) rs)) d
 | .P c a b,s,d=>tW (λt x y Z=>aQ c s t&&(aQ a s x&&aQ b s y)) d
 | .I es,s,d=>tX (λh Z=>eO es s h) d
 | .G es,s,d=>lD (λh Z Z=>eO es s h) d
 | .X,Z,d=>mF (λz h Z=>z.isEmpty&&h.isEmpty) d
 | .qd z es,s,d=>mF (λO h Z=>nh z O&&(eO es s h&&Rc (z.length=es.length∧0<z.length∧z.length≤15∧z.Nodup))) d
 | .qf k e,s,d=>mF (λO h Z=>hX (qe (lz λc Z Z=>ng (.A k) c)) O&&hX (aQ e s) h) d
 | .N ts it c e,s,d=>tY (λa3 U E Z=>uY (λt g a0=>(aQ it s g&&eH g)&&((nk s E&&ni ts E&&fL E.names ts t)&&((match a0 with|[]=>jq c|i::r=>r.isEmpty&&aQ c E.names i)&&aQ e E.names a3))) U) d
 | .V ts en it c k e,s,d=>tS (λkx vx U E Z=>uY (λt g a0=>(Sr en (lA s (aQ it s) g&&fR t) (aQ it s g)&&eH g)&&((nk s E&&ni ts E&&fL E.names ts t)&&((match a0 with|[]=>jq c|i::r=>r.isEmpty&&aQ c E.names i)&&(aQ k E.names kx&&aQ e E.names vx)))) U) d
 | .F f j,s,d=>kz (λfx h z Z=>(z.isEmpty&&xT fx&&Tv h.length 30)&&(aQ f s fx&&eO j s h)) d
 | .R o name j,s,d=>kz (λfx h z pos=>(z.isEmpty&&Tv h.length 30)&&(ly (λw x Y=>(ml w&&et name x&&Rc (Y.endLine=pos.line))&&aQ o s w) fx&&eO j s h)) d
 | .L o m j,s,d=>kz (λfx h z pos=>(z.isEmpty&&Tv h.length 30)&&(ly (λw x Y=>(ml w&&(m.qa==x)&&Rc (Y.endLine=pos.line))&&aQ o s w) fx&&eO j s h)) d
 | .K o a,s,d=>ly (λw x Z=>(ml w&&et a x)&&aQ o s w) d
 | .C o i,s,d=>lC (λw ix Z=>rJ ix&&(aQ o s w&&aQ i s ix)) d
 | .S o lo hi,s,d=>lC (λw ix Z=>aQ o s w&&ua (λl u st Z=>st.isNone&&((match l with|none=>mh lo|some x=>aQ lo s x)&&(match u with|none=>mh hi|some x=>aQ hi s x))) ix) d
 | .qe o,s,d=>lC (λw ix Z=>aQ o s w&&ua (λl u st Z=>l.isNone&&u.isNone&&qe Gl st) ix) d
noncomputable def eO:QI PE→bD→QI RX→RG
 |[],Z,a=>a.isEmpty
 |e::b,s,a=>match a with
  |[]=>QR
  |x::a=>aQ e s x&&eO b s a
end
end Mine
end
section
open PySem PySem.W PySem.Calls PyProof.Rows
set_option genInjectivity false
set_option genSizeOf false
set_option genSizeOfSpec false
namespace Mine
def AE(env:Wq)(x:Ux)(k:WO):Prop:=match k with
 | .local=>env.kindOf x=QG .local
 | .cell=>env.kindOf x=QG .cell∧∃a,env.cells.lookup x=QG a
 | .free=>(env.kindOf x=QG .free∨env.kindOf x=QG .cell)∧∃a,env.cells.lookup x=QG a
 | .globalImplicit=>env.kindOf x=QG .globalImplicit
 | .globalExplicit=>YB
def cO(s:bD)(env:Wq):Prop:=∀x k,s.lookup x=QG k→AE env x k
theorem cO.c{s:bD}{env:Wq}(N:cO s env){x:Ux}(h:qZ (s.lookup x)=QO):Mine.tc env x:=by
 induction e:s.lookup x using QQ with
 |none=>rw[e] at h;exact aD h
 |some k=>
  have n:=N x k e;rw[e] at h
  induction k using Tb with
  |«local»=>exact .inl n
  |cell=>exact .inr (.inl n.1)
  |free=>exact n.1.elim (λq=>.inr (.inr q)) λq=>.inr (.inl q)
  |_=>exact aD h
theorem cO.a{s:bD}{env:Wq}(N:cO s env){x:Ux}(h:fQ (s.lookup x)=QO):tA env.scope.names env.cells x:=by
 induction e:s.lookup x using QQ with
 |none=>rw[e] at h;exact aD h
 |some k=>
  have n:=N x k e;rw[e] at h
  induction k using Tb with
  |«local»=>exact .inl n
  |cell=>exact .inr ⟨n.1,n.2⟩
  |_=>exact aD h
theorem cO.b{s:bD}{env:Wq}(N:cO s env){x:Ux}(h:me (s.lookup x)=QO):env.kindOf x=QG .globalImplicit:=by
 induction e:s.lookup x using QQ with
 |none=>rw[e] at h;exact aD h
 |some k=>
  have n:=N x k e;rw[e] at h
  induction k using Tb with
  |globalImplicit=>exact n
  |_=>exact aD h
def kB(hs:RI)(x:Ux)(v:QU):Prop:=∀(M:Model) (A:SY) (E:QU→QZ→Prop) (s:QZ) (n:Wq) (Q:QU→QZ→Prop),(∀b o,hs.get? b=QG o→s.heap.get? b=QG o)→
 n.globals=Un→n.builtins=YE→Q v s→Rh M A (loadGlobal n x) Q E s
structure bB(prog:RP)(w:Sn)(hs:RI)(K:VH):Prop where
 fs:dD prog w
 fm:fF prog w
 sc:fZ K
 NT:K.In hs
 NU:∀n g x,jj n=QG g→bj n=QG x→kB hs x g.qa
 NV:∀n cs x,qi n=QG cs→bj n=QG x→∃a vs,kB hs x (.ref a)∧qbq hs a (VX vs)∧(∀h ads,aA h ads (cs.map .C) vs)∧cs.length≤aR
structure Cx(prog:RP)(w:Sn)(hs:RI)(d:QN) where
 NA:bD
 Nx:Wq
 ρ:ay
 A:SY
 E:QU→QZ→Prop
 s:QZ
 Nz:aH
 σ:af
 N:cO NA Nx
 hm:br A d
 R:ah prog w hs s.heap Nz σ
 ER:aw hs s.heap Nz Nx ρ
noncomputable abbrev Cx.Ny{prog:RP}{w:Sn}{hs:RI}{d:QN}(c:Cx prog w hs d){q:RG}{h:RI}{a:aH}{σ':af}(tk:QN)(b:ah prog w hs h a σ')(m:Mv q c.s.heap c.Nz h a):Cx prog w hs d:=
 {c with s:={c.s with heap:=h,toks:=tk},Nz:=a,σ:=σ',R:=b,ER:=c.ER.Oy m.st c.R}
section
variable(prog:RP)(w:Sn)(hs:RI)(d:QN)(C:QN→QI PV→M PV)
def Ok(e:PE):Prop:=∀(c:Cx prog w hs d) (x:RX) (q:RG),aQ e c.NA x=QO→(q=QO→e.qa=QO)→
 SP prog w hs q c.s c.Nz c.σ (ak C e c.ρ) (λQ=>Rh (Rf prog w) c.A (US x c.Nx) Q c.E c.s) av
def iZ(_:RI)(_:aH)(b:RG)(v:RG):Prop:=v=b
def Tr(e:PE):Prop:=∀(c:Cx prog w hs d) (x:RX) (q:RG),aQ e c.NA x=QO→(q=QO→e.qa=QO)→
 SP prog w hs q c.s c.Nz c.σ ((ak C e c.ρ).a bI) (λQ=>Rh (Rf prog w) c.A (YC x c.Nx (US x c.Nx)) Q c.E c.s) iZ
end
theorem bP{e:PE}{q:RG}{P:Prop}(h:q=QO→e.qa=QO)(k:e.qa=QR):q=QO→P:=λz=>Ro ((h z).symm.trans k) (by decide)
theorem M.k{α B γ:Type}(m:M α)(f:α→M B)(g:B→M γ):(m.a f).a g=m.a λx=>(f x).a g:=XW λZ=>YY ..
section
variable{prog:RP}{w:Sn}{hs:RI}{K:VH}{d:QN}{C:QN→QI PV→M PV}{q:RG}{γ δ:Type}{W₂:QU→QZ→(δ→QZ→Prop)→Prop}{W:(δ→QZ→Prop)→Prop}{RV:RI→aH→γ→δ→Prop}
theorem Cx.ev(c:Cx prog w hs d){e:PE}{g:RX}{f:PV→M γ}(l:Ok prog w hs d C e)(n:aQ e c.NA g=QO)(o:q=QO→e.qa=QO)
  (conv:∀Q,Rh (Rf prog w) c.A (US g c.Nx) (λv p=>W₂ v p Q) c.E c.s→W Q)
  (k:∀x v h b tk σ' (R:ah prog w hs h b σ') (m:Mv q c.s.heap c.Nz h b),av h b x v→SP prog w hs q (c.Ny tk R m).s b σ' (f x) (W₂ v (c.Ny tk R m).s) RV):
  SP prog w hs q c.s c.Nz c.σ ((ak C e c.ρ).a f) W RV:=
 SP.j conv (SP.i (l c g q n o) λx v h b tk σ' R m r=>k x v h b tk σ' R m r)
theorem Cx.tr(c:Cx prog w hs d){e:PE}{x:RX}{f:RG→M γ}{W₂:RG→QZ→(δ→QZ→Prop)→Prop}(l:Tr prog w hs d C e)(n:aQ e c.NA x=QO)(o:q=QO→e.qa=QO)
  (conv:∀Q,Rh (Rf prog w) c.A (YC x c.Nx (US x c.Nx)) (λv p=>W₂ v p Q) c.E c.s→W Q)
  (k:∀b h g tk σ' (R:ah prog w hs h g σ') (m:Mv q c.s.heap c.Nz h g),SP prog w hs q (c.Ny tk R m).s g σ' (f b) (W₂ b (c.Ny tk R m).s) RV):
  SP prog w hs q c.s c.Nz c.σ (((ak C e c.ρ).a bI).a f) W RV:=
 SP.j conv (SP.i (l c x q n o) λb v h g tk σ' R m r=>(show v=b from r)▸k b h g tk σ' R m)
theorem IT(v:PV):Ok prog w hs d C (.B v):=λc g q e Z=>by
 (refine bc (λk Z Z f e=> ?_) (pL e);subst f)
 induction v using PV.casesOn with
 |G=>
  induction k using UB with
  |none=>exact SP.a c.R QJ λQ h=>Constant_none h
  |_=>exact aD e
 |D b=>
  induction k using UB with
  |bool l=>obtain rfl:=Sk.mp e;exact SP.a c.R QJ λQ h=>Constant_bool h
  |_=>exact aD e
 |A i=>
  induction k using UB with
  |int j=>obtain rfl:=Sk.mp e;exact SP.a c.R ⟨_,QJ⟩ λQ h=>qcU h
  |_=>exact aD e
 |C n=>
  induction k using UB with
  |str x=>exact SP.a c.R (fy x _ (eT e) QJ) λQ h=>qcl h
  |_=>exact aD e
 |_=>exact aD e
theorem Jd(n:QN):Ok prog w hs d C (.A n):=λc j q k Z=>by
 (refine bq (λx pos a k=> ?_) (kA k);subst a)
 have k:=aT k;intro l t e Q H;refine ag (λp h i=> ?_) (mS e)
 (refine oA (λb f=> ?_) (Tw i);subst b;revert f;intro g;subst g)
 exact GG (eT k.1) (c.N.c k.2) c.ER h λv r=>H v c.s.heap c.Nz c.s.toks c.R (Mv.Qr ..) r
theorem rm{c:Cx prog w hs d}{x:Ux}{pos:Xv}{v:QU}{n:QN}{Q:QU→QZ→Prop}(a:bj n=QG x)(k:me (c.NA.lookup x)=QO)(G:kB hs x v)(h:Q v c.s):Rh (Rf prog w) c.A (US (.Name x pos) c.Nx) Q c.E c.s:=by
 refine wpAny_Name ?_ (xJ a);rw[loadName_read c.ER.Ov (c.N.b k)];exact G _ _ _ _ _ _ c.R.NX c.ER.OA c.ER.Oz h
theorem IZ(B:bB prog w hs K)(n:QN):Ok prog w hs d C (.D n):=λc j q k Z=>by
 (refine bq (λx pos b k=> ?_) (kA k);subst b)
 have k:=aT k;refine SP.n λv e=> ?_
 (refine ag (λg i f=> ?_) (mS e);subst f)
 exact SP.a c.R QJ λQ h=>rm (eT k.1) k.2 (B.NU n g x i (eT k.1)) h
theorem IY(B:bB prog w hs K)(n:QN):Ok prog w hs d C (.qb n):=λc r q k Z=>by
 (refine bq (λx pos b k=> ?_) (kA k);subst b)
 have k:=aT k;refine SP.n λu e=> ?_
 (refine ag (λs i f=> ?_) (mS e);subst f)
 (refine dw (λa v G z t l=> ?_) (B.NV n s x i (eT k.1));revert z;refine ou λo g j m p=> ?_)
 exact SP.a c.R (jn a o v m QJ (c.R.NX _ _ g) j p (t _ _) (by rw[QP];exact l)) λQ h=>rm (eT k.1) k.2 G h
theorem IL(B:bB prog w hs K)(op:aF){a b:PE}(i:Ok prog w hs d C a)(j:Ok prog w hs d C b):Ok prog w hs d C (.J op a b):=λc E q k f=>by
 (refine cv (λl o r pos e k=> ?_) (MB k);subst e)
 have k:=aT k;obtain rfl:=Rl k.1;have k:=aT k.2;refine c.ev i k.1 (bP f QJ) (λQ h=>wpAny_BinOp h) λx F G s t m R n p=>(c.Ny t R n).ev j k.2 (bP f QJ) (λQ h=>h) λy H I g u v z A D=> ?_;exact Bt B.fs c.hm z (av.a (R.NY A.st) _ p) D
theorem yw{a:PE}(j:Ok prog w hs d C a):Ok prog w hs d C (.W a):=λc p q k l=>by
 (refine bc (λo x pos e k=> ?_) (mH k);subst e)
 have k:=aT k;obtain rfl:=Rl k.1
 exact c.ev j k.2 (bP l QJ) (λQ h=>UnaryOp_ h) λx u y f b m R n r=>
  SP.g (V:=λv Q=>Rh (Rf prog w) c.A (unaryOp .USub v) Q c.E (c.Ny b R n).s) r λi t=>SP.a R ⟨_,QJ⟩ λQ h=>neg_int h
theorem gv{M:Model}{A:SY}{E:QU→QZ→Prop}{s:QZ}{b:RG}{P:RG→QZ→Prop}(h:P b s):Rh M A (qcn (.bool b)) P E s:=λZ Z Z=>h
theorem Jf{a:PE}(i:Ok prog w hs d C a):Ok prog w hs d C (.T a):=λc n q f j=>by
 (refine bc (λo x pos e f=> ?_) (mH f);subst e)
 have f:=aT f;obtain rfl:=Rl f.1;show SP prog w hs q c.s c.Nz c.σ (((ak C a c.ρ).a bI).a λb=>.b (.D (!b))) _ av;rw[M.k]
 exact c.ev i f.2 (bP j QJ) (λQ h=>UnaryOp_ h) λx p u g t l R m r=>
  SP.D (V:=λv Q=>Rh (Rf prog w) c.A (unaryOp .Not v) Q c.E (c.Ny t R m).s) r λb=>SP.a R QJ λQ h=>not_of (gv h)
theorem Ma{a:PE}(i:Tr prog w hs d C a):Tr prog w hs d C (.T a):=λc m q f j=>by
 (refine bc (λo x pos e f=> ?_) (mH f);subst e)
 have f:=aT f;obtain rfl:=Rl f.1;show SP prog w hs q c.s c.Nz c.σ ((((ak C a c.ρ).a bI).a λb=>.b (.D (!b))).a bI) _ iZ;rw[M.k];exact c.tr i f.2 (bP j QJ) (λQ h=>isTrue_not h) λb n g t l R p=>SP.a R QJ λQ h=>h
theorem yv{b:PE}{y:RX}{rest:QI RX}{pos:Xv}{op:BoolOp}(u:Ok prog w hs d C b)(c:Cx prog w hs d)(B:aQ b c.NA (uE op y rest pos)=QO)(F:q=QO→b.qa=QO):
  SP prog w hs q c.s c.Nz c.σ (((ak C b c.ρ).a bI).a λp=>.b (.D p)) (λQ=>Rh (Rf prog w) c.A (US (.BoolOp op (y::rest) pos) c.Nx) Q c.E c.s) av:=by
 rw[M.k]
 have n:∀{x v f e i t},ah prog w hs f e t→av f e x v→SP prog w hs q {c.s with heap:=f,toks:=i} e t ((bI x).a λp=>.b (PV.D p)) (λQ=>Q v {c.s with heap:=f,toks:=i}) av:=λ{x v f e i t} R r=>by
  induction x using PV.casesOn with
  |D p=>exact SP.a R r λQ h=>h
  |_=>exact SP.b
 induction rest using Rm with
 |nil=>exact c.ev u B F (λQ h=>BoolOp_one h) λx v G g j l m H o=>n m o
 |cons z r=>exact c.ev u B F (λQ h=>h) λx v G g j l m H o=>n m o
theorem IJ{a b:PE}(u:Ok prog w hs d C a)(z:Ok prog w hs d C b):Ok prog w hs d C (.M a b):=λc H q e i=>by
 (refine bc (λo B pos f e=> ?_) (pI e);subst f)
 have e:=aT e;obtain rfl:=Rl e.1
 induction B using Rm with
 |nil=>exact aD (e.2)
 |cons x r=>
  induction r using Rm with
  |nil=>exact aD (e.2)
  |cons y t=>
   have e:=aT e.2;show SP prog w hs q c.s c.Nz c.σ (((ak C a c.ρ).a bI).a λp=>Sr p (((ak C b c.ρ).a bI).a λq=>.b (.D q)) (.b (.D QR))) _ av;rw[M.k];refine c.ev u e.1 (bP i QJ) (λQ h=>BoolOp_and h) λx v I l g F R m G=>SP.D (V:=λv Q=>Rh (Rf prog w) c.A (qcn v) (λp n=>if p then Rh (Rf prog w) c.A (US (.BoolOp .And (y::t) pos) c.Nx) Q c.E n else Q v n) c.E (c.Ny g R m).s) G λp=> ?_
   induction p using QL with
   |false=>exact SP.a R QJ λQ h=>gv h
   |true=>exact SP.j (λQ h=>gv h) (yv z (c.Ny g R m) e.2 (bP i QJ))
theorem Jg{a b:PE}(u:Ok prog w hs d C a)(z:Ok prog w hs d C b):Ok prog w hs d C (.Q a b):=λc H q e i=>by
 (refine bc (λo B pos f e=> ?_) (pI e);subst f)
 have e:=aT e;obtain rfl:=Rl e.1
 induction B using Rm with
 |nil=>exact aD (e.2)
 |cons x r=>
  induction r using Rm with
  |nil=>exact aD (e.2)
  |cons y t=>
   have e:=aT e.2;show SP prog w hs q c.s c.Nz c.σ (((ak C a c.ρ).a bI).a λp=>Sr p (.b (.D QO)) (((ak C b c.ρ).a bI).a λq=>.b (.D q))) _ av;rw[M.k];refine c.ev u e.1 (bP i QJ) (λQ h=>BoolOp_or h) λx v I l g F R m G=>SP.D (V:=λv Q=>Rh (Rf prog w) c.A (qcn v) (λp n=>if p then Q v n else Rh (Rf prog w) c.A (US (.BoolOp .Or (y::t) pos) c.Nx) Q c.E n) c.E (c.Ny g R m).s) G λp=> ?_
   induction p using QL with
   |true=>exact SP.a R QJ λQ h=>gv h
   |false=>exact SP.j (λQ h=>gv h) (yv z (c.Ny g R m) e.2 (bP i QJ))
theorem LW{a b:PE}(E:Tr prog w hs d C a)(u:Tr prog w hs d C b):Tr prog w hs d C (.M a b):=λc J q e j=>by
 (refine bc (λo F pos f e=> ?_) (pI e);subst f)
 refine have e:=aT e;?_;obtain rfl:=Rl e.1
 induction F using Rm with
 |nil=>exact aD (e.2)
 |cons x r=>
  induction r using Rm with
  |nil=>exact aD (e.2)
  |cons y t=>
   refine have e:=aT e.2;?_;show SP prog w hs q c.s c.Nz c.σ ((((ak C a c.ρ).a bI).a λp=>Sr p (((ak C b c.ρ).a bI).a λq=>.b (.D q)) (.b (.D QR))).a bI) _ iZ;rw[M.k];refine c.tr E e.1 (bP j QJ) (λQ h=>isTrue_and h) λp L v g G l A=> ?_
   induction p using QL with
   |false=>exact SP.a l QJ λQ h=>h
   |true=>
    show SP prog w hs q _ _ _ ((((ak C b c.ρ).a bI).a λq=>.b (.D q)).a bI) _ iZ;rw[M.k];refine have B:=e.2;?_
    induction t using Rm with
    |nil=>
     refine(c.Ny g l A).tr u B (bP j QJ) (λQ h=>isTrue_and h) λp H i m n R I=> ?_
     induction p using QL with
     |true=>exact SP.a R QJ λQ h=>isTrue_and_nil h
     |false=>exact SP.a R QJ λQ h=>h
    |cons z r=>exact(c.Ny g l A).tr u B (bP j QJ) (λQ h=>h) λp H i m n R I=>SP.a R QJ λQ h=>h
theorem Mb{a b:PE}(E:Tr prog w hs d C a)(u:Tr prog w hs d C b):Tr prog w hs d C (.Q a b):=λc J q e j=>by
 (refine bc (λo F pos f e=> ?_) (pI e);subst f)
 refine have e:=aT e;?_;obtain rfl:=Rl e.1
 induction F using Rm with
 |nil=>exact aD (e.2)
 |cons x r=>
  induction r using Rm with
  |nil=>exact aD (e.2)
  |cons y t=>
   refine have e:=aT e.2;?_;show SP prog w hs q c.s c.Nz c.σ ((((ak C a c.ρ).a bI).a λp=>Sr p (.b (.D QO)) (((ak C b c.ρ).a bI).a λq=>.b (.D q))).a bI) _ iZ;rw[M.k];refine c.tr E e.1 (bP j QJ) (λQ h=>isTrue_or h) λp L v g G l A=> ?_
   induction p using QL with
   |true=>exact SP.a l QJ λQ h=>h
   |false=>
    show SP prog w hs q _ _ _ ((((ak C b c.ρ).a bI).a λq=>.b (.D q)).a bI) _ iZ;rw[M.k];refine have B:=e.2;?_
    induction t using Rm with
    |nil=>
     refine(c.Ny g l A).tr u B (bP j QJ) (λQ h=>isTrue_or h) λp H i m n R I=> ?_
     induction p using QL with
     |false=>exact SP.a R QJ λQ h=>isTrue_or_nil h
     |true=>exact SP.a R QJ λQ h=>h
    |cons z r=>exact(c.Ny g l A).tr u B (bP j QJ) (λQ h=>h) λp H i m n R I=>SP.a R QJ λQ h=>h
theorem Ja{t a b:PE}(j:Tr prog w hs d C t)(l:Ok prog w hs d C a)(n:Ok prog w hs d C b):Ok prog w hs d C (.P t a b):=λc r q k g=>by
 (refine cv (λx y z pos e k=> ?_) (Ay k);subst e)
 have k:=aT k;have i:=aT k.2;refine c.tr j k.1 (bP g QJ) (λQ h=>IfExp_ h) λp u s f o R m=> ?_
 induction p using QL with
 |true=>exact l (c.Ny f R m) _ q i.1 (bP g QJ)
 |false=>exact n (c.Ny f R m) _ q i.2 (bP g QJ)
theorem LZ{t a b:PE}(n:Tr prog w hs d C t)(o:Tr prog w hs d C a)(r:Tr prog w hs d C b):Tr prog w hs d C (.P t a b):=λc v q f i=>by
 (refine cv (λx y z pos e f=> ?_) (Ay f);subst e)
 have f:=aT f;have j:=aT f.2;show SP prog w hs q c.s c.Nz c.σ ((((ak C t c.ρ).a bI).a λp=>Sr p (ak C a c.ρ) (ak C b c.ρ)).a bI) _ iZ;rw[M.k];refine c.tr n f.1 (bP i QJ) (λQ h=>isTrue_IfExp h) λp A l g u R m=> ?_
 induction p using QL with
 |true=>exact o (c.Ny g R m) _ q j.1 (bP i QJ)
 |false=>exact r (c.Ny g R m) _ q j.2 (bP i QJ)
end
end Mine
end
section
open PySem PySem.W PySem.Calls PyProof.Rows
namespace Mine
theorem oi{op:qaP}{e:RX}{t:Sem QU}(h:eH e=QO):markedBehindIn op e t=t:=by
 have:behindInMarks op e=false:=by
  induction e using SU<;>first|rfl|exact(UU h).elim
 unfold markedBehindIn;rw[this]
section
variable{prog:RP}{w:Sn}{hs:RI}{K:VH}{d:QN}{C:QN→QI PV→M PV}{q:RG}
theorem DL{l r:RX}{op:qaP}{pos:Xv}{env:Wq}(h:eH r=QO):US (.Compare l [op] [r] pos) env=(do qan pos (←US l env) [op] [US r env]):=by
 show(do qan pos (←US l env) [op] (VL [op] [r] [US r env]))=_;unfold VL;rw[oi h]
theorem DM{l m r:RX}{o a:qaP}{pos:Xv}{env:Wq}(h:eH r=QO):US (.Compare l [o,a] [m,r] pos) env=(do qan pos (←US l env) [o,a] [US m env,US r env]):=by
 show(do qan pos (←US l env) [o,a] (VL [o,a] [m,r] [US m env,US r env]))=_;unfold VL VL;rw[oi h]
theorem Gm{l r:RX}{op:qaP}{pos:Xv}{env:Wq}{e:Sem QU}(h:eH r=QO):YC (.Compare l [op] [r] pos) env e=(do qbV pos (←US l env) [op] [US r env]):=by
 show(do qbV pos (←US l env) [op] (VL [op] [r] [US r env]))=_;unfold VL;rw[oi h]
theorem Gn{l m r:RX}{o a:qaP}{pos:Xv}{env:Wq}{e:Sem QU}(h:eH r=QO):YC (.Compare l [o,a] [m,r] pos) env e=(do qbV pos (←US l env) [o,a] [US m env,US r env]):=by
 show(do qbV pos (←US l env) [o,a] (VL [o,a] [m,r] [US m env,US r env]))=_;unfold VL VL;rw[oi h]
theorem vd{op:aj}{a b:PE}{s:bD}{x:RX}(k:aQ (.H op a b) s x=QO):∃l r pos,x=.Compare l [op.py] [r] pos∧eH r=QO∧aQ a s l=QO∧aQ b s r=true:=by
 (refine cv (λl j m pos e k=> ?_) (Ax k);subst e)
 have k:=aT k
 (refine ag (λo c h=> ?_) (hY k.1);subst c)
 have i:=aT k.2
 (refine ag (λr f g=> ?_) (hY i.2);subst f)
 have g:=aT g;exact(er l r pos (Rl h▸QJ) g.1 i.1 g.2)
theorem lM{a b:RG}{q:RG}(h:q=QO→(a&&b)=QO):(q=QO→a=QO)∧(q=QO→b=QO):=⟨λz=>(aT (h z)).1,λz=>(aT (h z)).2⟩
theorem IQ(B:bB prog w hs K)(op:aj){a b:PE}(n:Ok prog w hs d C a)(o:Ok prog w hs d C b):Ok prog w hs d C (.H op a b):=λc T q p g=>by
 (refine bc (λl r pos e f=> ?_) (vd p);subst e;revert f;refine bk λt u z=> ?_)
 have g:=lM g;rw[DL t];refine c.ev n u g.1 (λQ h=>QH h) λx U V s k A R D E=> ?_;refine(c.Ny k R D).ev o z g.2 (λQ h=>QH (RA (SJ h (λv W h=>QH (Sj (VN h))) λZ Z x=>x))) λy X Y j F G I J L=> ?_;exact SP.i (lV B.fs c.hm I (av.a (R.NY J.st) _ E) L) λr v h3 m N O P m3 S=>SP.a P S λQ h=>h
theorem LX(B:bB prog w hs K)(op:aj){a b:PE}(o:Ok prog w hs d C a)(p:Ok prog w hs d C b):Tr prog w hs d C (.H op a b):=λc X q u g=>by
 (refine bc (λl r pos e f=> ?_) (vd u);subst e;revert f;refine bk λz A E=> ?_)
 have g:=lM g;rw[Gm z];show SP prog w hs q c.s c.Nz c.σ (((ak C a c.ρ).a λx=>(ak C b c.ρ).a λy=>(eC op x y).a λr=>.b (.D r)).a bI) _ iZ;rw[M.k];refine c.ev o A g.1 (λQ h=>QH h) λx Y h1 j t F R G I=> ?_;rw[M.k]
 refine(c.Ny t R G).ev p E g.2
  (λQ h=>QH (RA (SJ h (λv J h=>QH (Sj (QH (VN (SJ h (λv J h=>RA h) λZ Z x=>x))))) λZ Z x=>x))) λy v2 h2 m L N O P S=> ?_
 rw[M.k];exact SP.i (lV B.fs c.hm O (av.a (R.NY P.st) _ I) S) λr v h3 n T U V m3 W=>SP.a V QJ λQ h=>(show v=.bool r from W)▸gv h
theorem vb{c f:aj}{a b e:PE}{s:bD}{x:RX}(k:aQ (.qc c f a b e) s x=QO):∃l m r pos,x=.Compare l [c.py,f.py] [m,r] pos∧eH r=QO∧aQ a s l=QO∧aQ b s m=QO∧aQ e s r=true:=by
 (refine cv (λl v y pos g k=> ?_) (Ax k);subst g)
 have k:=aT k
 (refine bq (λo p i h=> ?_) (uU k.1);subst i)
 have h:=aT h;have t:=aT k.2
 (refine bq (λm r j n=> ?_) (uU t.2);subst j)
 have n:=aT n;have u:=aT n.2;exact⟨l,m,r,pos,Rl h.1▸Rl h.2▸QJ,n.1,t.1,u⟩
theorem vc{G H:Type}{RV:RI→aH→G→H→Prop}(B:bB prog w hs K){o:aj}{a b:PE}{l m:RX}{pos:Xv}{f:PV→RG→M G}{rest:QU→QU→QU→Sem H}(c:Cx prog w hs d)(X:Ok prog w hs d C a)(Y:Ok prog w hs d C b)
  (c1:aQ a c.NA l=QO) (c2:aQ b c.NA m=QO) (I:q=QO→a.qa=QO) (J:q=QO→b.qa=QO)
  (k:∀g y j p t e tk σ' (R:ah prog w hs t e σ') (L:Mv q c.s.heap c.Nz t e),av t e y j→SP prog w hs q (c.Ny tk R L).s e σ' (f y p) (λQ=>Rh (Rf prog w) c.A (rest g j (.bool p)) Q c.E (c.Ny tk R L).s) RV):
  SP prog w hs q c.s c.Nz c.σ ((ak C a c.ρ).a λx=>(ak C b c.ρ).a λy=>(eC o x y).a λr=>f y r) (λQ=>Rh (Rf prog w) c.A (do
   let g←US l c.Nx
   let j←Xr [g] (US m c.Nx)
   Zr pos
   let z←Xr [g,j] (TH o.py g j)
   rest g j z) Q c.E c.s) RV:=by
 exact c.ev X c1 I (λQ h=>QH h) λx g I N u a0 O P r1=>
  (c.Ny u O P).ev Y c2 J
   (λQ h=>QH (RA (SJ h (λv s' h=>QH (Sj (QH (RA h)))) λZ Z x=>x))) λy j J S a1 a2 T U V=>
    SP.i (lV B.fs c.hm T (av.a (O.NY U.st) _ r1) V) λp v h3 n D F R3 W r3=>
     (show v=.bool p from r3)▸k g y j p h3 n D F R3 ((P.Qs U).Qs W) (av.a (T.NY W.st) _ V)
theorem IS(B:bB prog w hs K)(k o:aj){a b e:PE}(H:Ok prog w hs d C a)(I:Ok prog w hs d C b)(J:Ok prog w hs d C e):Ok prog w hs d C (.qc k o a b e):=λc ex q L n=>by
 (refine cv (λl m r pos f g=> ?_) (vb L);subst f;revert g;refine cY λN O P S=> ?_)
 rw[DM N];refine vc B c H I O P (bP n QJ) (bP n QJ) λv1 y T p h2 s t U R V W=> ?_
 induction p using QL with
 |false=>exact SP.a R QJ λQ h=>QH (Ws (QH (RA (gv (QT h)))))
 |true=>
  refine SP.j (λQ h=>QH (Ws (QH (RA (gv h))))) ?_;dsimp only[Sr];refine(c.Ny t R V).ev (W₂:=λu D Q=>Rh (Rf prog w) c.A (TH o.py T u) Q c.E D) J S (bP n QJ) (λQ h=> ?_) λz u h3 F X Y R3 m3 r3=> ?_
  ·exact QH (RA (SJ h (λv D h=>QH (Sj (VN h))) λZ Z x=>x))
  ·exact SP.i (lV B.fs c.hm R3 (av.a (R.NY m3.st) _ W) r3) λr v h4 G a0 a1 R4 m4 r4=>SP.a R4 r4 λQ h=>h
theorem LY(B:bB prog w hs K)(f o:aj){a b e:PE}(J:Ok prog w hs d C a)(L:Ok prog w hs d C b)(N:Ok prog w hs d C e):Tr prog w hs d C (.qc f o a b e):=λc ex q O t=>by
 (refine cv (λl m r pos g n=> ?_) (vb O);subst g;revert n;refine cY λP S T U=> ?_)
 rw[Gn P]
 have V:((ak C (.qc f o a b e) c.ρ).a bI)=(ak C a c.ρ).a λx=>(ak C b c.ρ).a λy=>(eC f x y).a λr=>(Sr r ((ak C e c.ρ).a λz=>(eC o y z).a λW=>.b (.D W)) (.b (.D QR))).a bI:=
  (M.k ..).trans (RH (M.a _) (XW λZ=>(M.k ..).trans (RH (M.a _) (XW λZ=>M.k ..))))
 rw[V];refine vc B c J L S T (bP t QJ) (bP t QJ) λv1 y X p h2 F u Y R m2 r2=> ?_
 induction p using QL with
 |false=>exact SP.a R QJ λQ h=>QH (Ws (QH (RA (gv (QT h)))))
 |true=>
  refine SP.j (λQ h=>QH (Ws (QH (RA (gv h))))) ?_;dsimp only[Sr];rw[M.k];refine(c.Ny u R m2).ev (W₂:=λG s Q=>Rh (Rf prog w) c.A (TH o.py X G) (λv s=>Rh (Rf prog w) c.A (qcn v) Q c.E s) c.E s) N U (bP t QJ) (λQ h=> ?_) λz G h3 H a0 a1 R3 m3 r3=> ?_
  ·exact QH (RA (SJ h (λv s h=>QH (Sj (QH (VN (SJ h (λv s h=>RA h) λZ Z x=>x))))) λZ Z x=>x))
  ·rw[M.k]
   exact SP.i (lV B.fs c.hm R3 (av.a (R.NY m3.st) _ r2) r3) λr v h4 I a2 a3 R4 m4 r4=>SP.a R4 QJ λQ h=>(show v=.bool r from r4)▸gv h
theorem Ak{e:PE}(i:Ok prog w hs d C e)(p:∀s f env l,aQ e s f=QO→YC f env l=(do let v←l;Zr f.pos;Xr [v] (qcn v))):Tr prog w hs d C e:=λc f q k j=>by
 refine c.ev i k j (λQ h=>isTrue_plain h (p _ _ _ _ k)) λx v n g t m R o r=> ?_
 induction x using PV.casesOn with
 |D b=>exact SP.a R QJ λQ h=>(show v=.bool b from r)▸gv h
 |_=>exact SP.b
end
noncomputable def qR(e:PE):Nat:=match e with
 | .B Z=>19| .A Z=>23| .D Z=>23| .qb Z=>23| .J Z U Y=>2| .W Z=>3| .T Z=>3| .M Z U=>0| .Q Z U=>0
 | .H Z U Y=>15| .qc Z U Y O a=>15| .P Z U Y=>5| .I Z=>24| .G Z=>25| .X=>6| .qd Z U=>6| .qf Z U=>6
 | .N Z U Y O=>8| .V Z U Y O a b=>10| .F Z U=>16| .R Z U Y=>16| .L Z U Y=>16| .K Z U=>20| .C Z U=>21| .S Z U Y=>21| .qe Z=>21
theorem eZ{n m:QN}{f:n=m→RG}(h:is n m f=QO):n=m:=(dq h).elim λe Z=>e
theorem MC{k}{x:RX}(h:lz k x=QO):x.ctorIdx=19:=eZ h
theorem tZ{k}{x:RX}(h:iw k x=QO):x.ctorIdx=23:=eZ h
theorem MA{k}{x:RX}(h:tP k x=QO):x.ctorIdx=2:=eZ h
theorem AA{k}{x:RX}(h:mG k x=QO):x.ctorIdx=3:=eZ h
theorem Av{k}{x:RX}(h:tQ k x=QO):x.ctorIdx=0:=eZ h
theorem Aw{k}{x:RX}(h:pK k x=QO):x.ctorIdx=15:=eZ h
theorem MF{k}{x:RX}(h:tW k x=QO):x.ctorIdx=5:=eZ h
theorem MI{k}{x:RX}(h:tX k x=QO):x.ctorIdx=24:=eZ h
theorem MK{k}{x:RX}(h:lD k x=QO):x.ctorIdx=25:=eZ h
theorem tT{k}{x:RX}(h:mF k x=QO):x.ctorIdx=6:=eZ h
theorem MG{k}{x:RX}(h:tY k x=QO):x.ctorIdx=8:=eZ h
theorem MD{k}{x:RX}(h:tS k x=QO):x.ctorIdx=10:=eZ h
theorem tR{k}{x:RX}(h:kz k x=QO):x.ctorIdx=16:=eZ h
theorem Mz{k}{x:RX}(h:ly k x=QO):x.ctorIdx=20:=eZ h
theorem ub{k}{x:RX}(h:lC k x=QO):x.ctorIdx=21:=eZ h
theorem jR{e:PE}{s:bD}{x:RX}(h:aQ e s x=QO):x.ctorIdx=qR e:=by
 induction e using PE.casesOn with
 |B Z=>exact MC h
 |A Z=>exact tZ h
 |D Z=>exact tZ h
 |qb Z=>exact tZ h
 |J Z U Y=>exact MA h
 |W Z=>exact AA h
 |T Z=>exact AA h
 |M Z U=>exact Av h
 |Q Z U=>exact Av h
 |H Z U Y=>exact Aw h
 |qc Z U Y O a=>exact Aw h
 |P Z U Y=>exact MF h
 |I Z=>exact MI h
 |G Z=>exact MK h
 |X=>exact tT h
 |qd Z U=>exact tT h
 |qf Z U=>exact tT h
 |N Z U Y O=>exact MG h
 |V Z U Y O a b=>exact MD h
 |F Z U=>exact tR h
 |R Z U Y=>exact tR h
 |L Z U Y=>exact tR h
 |K Z U=>exact Mz h
 |C Z U=>exact ub h
 |S Z U Y=>exact ub h
 |qe Z=>exact ub h
theorem nR(e:PE):qR e≠22:=by induction e using PE.casesOn<;>exact SV QJ
theorem pn{x:RX}(h:x.ctorIdx≠22)(xs:QI RX)(env:Wq):UR (x::xs) env=(QR,US x env)::UR xs env:=by
 induction x using SU<;>first|rfl|exact Ro QJ h
theorem Gp{x:RX}(a:x.ctorIdx≠0)(b:x.ctorIdx≠3)(c:x.ctorIdx≠5)(h:x.ctorIdx≠15)(env:Wq)(e:Sem QU):YC x env e=(do let v←e;Zr x.pos;Xr [v] (qcn v)):=by
 induction x using SU<;>first|rfl|exact Ro QJ a|exact Ro QJ b|exact Ro QJ c|exact Ro QJ h
section
variable{prog:RP}{w:Sn}{hs:RI}{K:VH}{d:QN}{C:QN→QI PV→M PV}{q:RG}
def hO(prog:RP)(w:Sn)(hs:RI)(d:QN)(C:QN→QI PV→M PV)(e:QI PE):Prop:=∀(c:Cx prog w hs d) (x:QI RX) (q:RG) (pos:Xv),eO e c.NA x=QO→(q=QO→e.all PE.qa=QO)→
 SP prog w hs q c.s c.Nz c.σ (cK C e c.ρ) (λQ=>Rh (Rf prog w) c.A (spliced (Wn pos (UR x c.Nx))) Q c.E c.s) aA
theorem Jt:hO prog w hs d C []:=λc s q pos k Z=>by
 obtain rfl:=iE k;exact SP.a c.R QJ λQ h=>qca h
theorem Jp{e:PE}{m:QI PE}(r:Ok prog w hs d C e)(s:hO prog w hs d C m):hO prog w hs d C (e::m):=λc f q pos k b=>by
 induction f using Rm with
 |nil=>exact aD k
 |cons x n=>
  have k:=aT k;have b:=lM b;rw[pn (jR k.1▸nR e)];refine c.ev (W₂:=λv u Q=>Rh (Rf prog w) c.A (spliced (Wn pos (UR n c.Nx))) (λg j=>Q (v::g) j) c.E u) r k.1 b.1 (λQ h=> ?_) λx v J o t y R z B=> ?_
  ·exact qbM h
  ·exact SP.i (s (c.Ny t R z) n q pos k.2 b.2) λl g L p D F G H I=>
    SP.a G (cX v g QJ (av.a (R.NY H.st) _ B) I) λQ h=>h
theorem lh:∀{s:QI PE},(∀e∈s,Ok prog w hs d C e)→hO prog w hs d C s
 |[],Z=>Jt
 |e::Z,h=>Jp (h e (.head _)) (lh λx a=>h x (.tail _ a))
theorem Jc{b:QI PE}(s:hO prog w hs d C b):Ok prog w hs d C (.I b):=λc p q k g=>by
 (refine bq (λx pos e k=> ?_) (MJ k);subst e)
 refine SP.j (λQ h=>(?_:Rh _ _ (US (.List x pos) c.Nx) Q _ _)) (SP.i (W₂:=λv m Q=>Rh (Rf prog w) c.A (qdx v) Q c.E m) (s c x q pos k (bP g QJ)) λl v u f t n R y r=> ?_)
 ·rw[arm_eval_List]
  exact QH (Sj (QH h))
 ·exact SP.z R r λo Q h=>wpAny_newList h (by rw[aA.a r];exact dT o)
theorem Jk{f:QI PE}(s:hO prog w hs d C f):Ok prog w hs d C (.G f):=λc u q b m=>by
 (refine bc (λx k pos e b=> ?_) (uc b);subst e)
 refine SP.j (λQ h=>(?_:Rh _ _ (US (.Tuple x k pos) c.Nx) Q _ _)) (SP.i (W₂:=λv n Q=>Rh (Rf prog w) c.A (PySem.newTuple v) Q c.E n) (s c x q pos b (bP m QJ)) λl v y g t o R z r=> ?_)
 ·rw[arm_eval_Tuple]
  exact QH (Sj (QH h))
 ·exact SP.L R r λp Q h=>wpAny_newTuple h (by rw[aA.a r];exact dT p)
theorem uD{o:RX}{a:Ux}{env:Wq}{e:Sem QU}(h:ml o=QO):attributeBase o a env e=e:=by
 induction o using SU with
 |Call f l k p=>
  induction f using SU with
  |Name Z U=>
   induction l using Rm with
   |nil=>
    induction k using Rm with
    |nil=>exact aD h
    |cons Z U=>rfl
   |cons Z U=>rfl
  |_=>rfl
 |_=>rfl
theorem aw.fr{env:Wq}{ρ:ay}{h:RI}{s:aH}{σ:af}(ER:aw hs h s env ρ)(R:ah prog w hs h s σ):∃m,Fr hs env.locals h m:=ER.ns.imp λZ n=>⟨n,R.NX,ER.Ow.2⟩
theorem IK(B:bB prog w hs K)(a:QN){o:PE}(f:Ok prog w hs d C o):Ok prog w hs d C (.K o a):=λc l q k g=>by
 (refine bc (λn x pos e k=> ?_) (pH k);subst e)
 have k:=aT k;have X:=aT k.1;refine c.ev (W₂:=λv s Q=>Rh (Rf prog w) c.A (qaC v x QO) Q c.E s) f k.2 (bP g QJ) (λQ h=> ?_) λy v p b t i R j r=> ?_
 ·rw[arm_eval_Attribute,uD X.1]
  exact QH (SJ h (λv s h=>QH (Sj (QH (RA (SJ h (λv s h=>QH (WM (QT h))) λZ Z x=>x))))) λZ Z x=>x)
 ·refine oE (λm F=> ?_) ((c.Ny t R j).ER.fr R)
  exact Fq B.sc B.NT F (eT X.2) R r
def mP(s:QZ)(v:QU):Prop:=s.TypeIs v "tuple" ∨s.TypeIs v "list" ∨s.TypeIs v "range" ∨s.TypeIs v "str" ∨s.TypeIs v "dict"
theorem qO{A:SY}{E:QU→QZ→Prop}{s:QZ}{v:QU}{Q:RG→QZ→Prop}(h:mP s v)(b:Q QR s):Rh (Rf prog w) A (getitemInPython v) Q E s:=by
 have o:∀{T i:WD},s.TypeIs v T→Slot T "__getitem__" i→Rh (Rf prog w) A (getitemInPython v) Q E s:=λa l=>by
  rw[getitemInPython_of_ne a.not_modules];exact QH (qaV a l.lookup (QT b))
 exact h.elim (λh=>o h XZ) λh=>h.elim (λh=>o h PySem.F.slot_list_getitem) λh=>h.elim (λh=>o h qaX) λh=>h.elim (λh=>o h PySem.F.slot_str_getitem) λh=>o h PySem.F.slot_dict_getitem
theorem Fv{h:aH}{σ σ':af}{s:QZ}{o i m:PV}{k:QU}(e:ie o i σ=QG (m,σ'))(R:ah prog w hs s.heap h σ)(j:av s.heap h o k):mP s k:=by
 induction o using PV.casesOn with
 |F l=>exact j.elim λa x=>x.elim λo x=>x.elim λv x=>x.elim λn x=>x.1▸.inl (ai o x.2.1 x.2.2.1)
 |I a b c=>exact j.elim λp x=>x.elim λt x=>x.elim λu x=>x.elim λy x=>x.1▸.inr (.inr (.inl (ai _ x.2 QJ)))
 |C c=>exact j.elim λx y=>y.elim λt y=>y.2▸.inr (.inr (.inr (.inl (typeIs_str s _ t))))
 |B n=>
  (revert j;refine ag λp z f=> ?_;subst f)
  refine ag (λL E G=> ?_) (bS e)
  (refine ag (λH J g=> ?_) (mS E);subst g)
  have r:=R.NW n p _ z J
  induction H using AO.casesOn with
  |A l=>exact r.2.elim λv x=>.inr (.inl x.1.isList.typeIs)
  |B l=>exact r.2.elim λv x=>.inr (.inr (.inr (.inr x.1.typeIs)))
  |D l=>exact r.2.elim λv x=>.inr (.inr (.inr (.inr x.1.typeIs)))
  |C Z U=>exact aI G
 |_=>exact aI e
theorem LB{x:RX}{o i:QU}(h:rJ x=QO):qcW x QR o i=operate [o,i] (Tz o i):=by
 induction x using SU with
 |Slice Z U Y O=>exact aD h
 |_=>rfl
theorem Jj{o i:PE}(u:Ok prog w hs d C o)(z:Ok prog w hs d C i):Ok prog w hs d C (.C o i):=λc O q k g=>by
 (refine bc (λP T pos b k=> ?_) (pM k);subst b)
 have k:=aT k;have j:=aT k.2;have g:=lM g;rw[ZT];refine c.ev u j.1 g.1 (λQ h=>QH h) λx U V l t A m B D=>(c.Ny t m B).ev z j.2 g.2 (λQ h=>QH (RA h)) λy W X n E F p G I=> ?_;have f:=av.a (m.NY G.st) _ D;intro J S e Q H;refine QH (Sj (QH (qO (Fv e p f) ?_)));rw[LB k.1];exact QH (VN (Fu p f I J S e _ λv L s N R M r=>QH (WM (QT (H v L s N R M r)))))
end
section
variable{prog:RP}{w:Sn}{A:SY}{E:QU→QZ→Prop}{s:QZ}
theorem tO{M:Model}{v:QU}{k:Rz RW}{Q:Rz RW→QZ→Prop}(a:ZV v k)(h:Q k s):Rh M A (YJ v) Q E s:=by
 cases a with
 |none=>exact QT h
 |int i t=>
  unfold YJ;rw[SK (show ¬((VR i t==YO)=QO) from UU)];refine QH (qaV (qdJ s i t) int_index ?_);exact QH (YZ QJ (QT h))
theorem ze(l:QI QU)(a:QN):∀n,(RE n).filterMap (λk=>l[a+k]?)=(l.drop a).take n
 |0=>QJ
 |n+1=>by
  rw[Yi,List.filterMap_append,ze l a n,Zv,List.getElem?_drop]
  congr 1
theorem JQ(m:TS QU)(a b:QN):(RE (b-a)).filterMap (λ(k:QN)=>m[((a:RW)+(k:RW)*1).toNat]?)=(m.toList.take b).drop a:=by
 have e:(λ(k:QN)=>m[((a:RW)+(k:RW)*1).toNat]?)=λ(k:QN)=>m.toList[a+k]?:=by
  funext k
  have:((a:RW)+(k:RW)*1).toNat=a+k:=(TQ _ _ _).symm;rw[this,Wi]
 rw[e,ze,List.drop_take]
theorem Fw{t sl:RK}{items:TS QU}{vl vu:QU}{lo hi:Rz RW}{a b:QN}{Q:QU→QZ→Prop}(ht:qbq s.heap t items)
  (hs:s.heap.get? sl=QG {cls:=.type "slice",data:=.fields #[vl,vu,.none]}) (pl:ZV vl lo) (pu:ZV vu hi)
  (hab:Wr lo hi 1 items.size=((a:RW),(b:RW))) (hb:b≤items.size) (hz:items.size≤qcX)
  (h1:a=0→b=items.size→Q (.ref t) s)
  (h2:Q (.ref s.heap.objs.size) {s with heap:=s.heap.push {cls:=.type "tuple",data:=.seq ((items.toList.take b).drop a).toArray}}):
  Rh (Rf prog w) A (Tz (.ref t) (.ref sl)) Q E s:=by
 obtain⟨⟨cls,dd,data,sl'⟩,ho,hc,n,hd⟩:=id ht;subst hc hd;have hT:s.TypeIs (.ref t) "tuple" :=(ai _ ho QJ);have hS:s.TypeIs (.ref sl) "slice" :=(ai _ hs QJ);refine wpAny_getItem_slot hT (by decide) XZ (Vo XZ hT F.entry_tuple_getitem ?_ (F.args_tuple_getitem_2 _ _));refine QH (QT ?_);refine QH (QH (QH (wpAny_load ho (QT (QT ?_)))));refine QH (qah hS ?_);rw[SH (by decide)];refine QH (QH (QH (qcV hs QJ QJ (QH (qcV hs QJ QJ (QH (qcV hs QJ QJ (QT ?_))))))));dsimp only;refine QH (tO .none ?_);rw[SK (by decide)];refine QH (tO pl (QH (tO pu (QH (QT (QT ?_))))))
 have hn:YW (a:RW) (b:RW) 1=b-a:=by
  unfold YW;rw[SH (by decide),qel];split
  ·next h=>rw[←VQ (Sm (Ug.mp h)),Int.sub_add_cancel];rfl
  ·next h=>exact(Nat.sub_eq_zero_of_le (Sz.mp (Xm.mp h))).symm
 simp only[Option.getD_none,hab,hn]
 by_cases hc:(a:RW)=0∧b-a=items.size
 ·rw[SH (by simpa using hc)]
  refine QH (QH (qah hT (QT ?_)));rw[SH (by decide)];exact QH (Wb (QT (ai _ QJ (h1 (Vk hc.1) ((qbs b).symm.trans ((RH (b-·) (Vk hc.1)).symm.trans hc.2))))))
 ·rw[SK (by simpa using hc),JQ]
  refine QH (XO (QT (ai _ QJ h2)) ?_);show((items.toList.take b).drop a).toArray.size≤qcX;rw[RZ,XH,XG,RT];exact QK (Zk _ _) (QK (ZZ _ _) (by assumption))
end
theorem AP(o i:Rz QN)(n:QN):Wr (o.map λk=>(k:RW)) (i.map λk=>(k:RW)) 1 n=(((min (o.getD 0) n:QN):RW),((min (i.getD n) n:QN):RW)):=by
 have c:∀k:QN,(if(k:RW)<0 then max ((k:RW)+n) 0 else min (k:RW) n)=((min k n:QN):RW):=λk=>(SK (Xm.mpr (Rx k))).trans ((qeg k n).elim (λh=>by rw[WG h,Int.min_eq_left (Sz.mpr h)]) λh=>by rw[qdq h,Int.min_eq_right (Sz.mpr h)]);unfold Wr;rw[SK (by decide),SK (by decide)]
 induction o using QQ with
 |none=>
  induction i using QQ with
  |none=>exact Yy (by simp) (by simp)
  |some k=>exact Yy (by simp) (c k)
 |some j=>
  induction i using QQ with
  |none=>exact Yy (c j) (by simp)
  |some k=>exact Yy (c j) (c k)
theorem vp{α:Type}(l:QI α)(o i:Rz QN):(l.take (min (i.getD l.length) l.length)).drop (min (o.getD 0) l.length)=(l.take (i.getD l.length)).drop (o.getD 0):=by
 rw[←List.take_take,Wk]
 (refine oO (λh=> ?_) (λh=> ?_) (qeg (o.getD 0) l.length))
 ·rw[WG h]
 ·rw[qdq h,XU (qbC ..),XU (QK (qbC ..) h)]
theorem Dp{α:Type}{l:QI α}{o i:Rz QN}(h:min (o.getD 0) l.length=0)(a:min (i.getD l.length) l.length=l.length):(l.take (i.getD l.length)).drop (o.getD 0)=l:=by
 rw[←vp,h,a,Wk];rfl
section
variable{prog:RP}{w:Sn}{hs:RI}{K:VH}{d:QN}{C:QN→QI PV→M PV}{q:RG}{ads:aH}{σ:af}{A:SY}{E:QU→QZ→Prop}{s:QZ}
theorem SP.I{c D:Type}{f:Rz QN→M c}{W:(D→QZ→Prop)→Prop}{RV:RI→aH→c→D→Prop}{h:RI}{A:aH}{x:PV}{v:QU}(r:av h A x v)
  (k:∀j:Rz QN,ZV v (j.map λk=>(k:RW))→SP prog w hs q s ads σ (f j) W RV):SP prog w hs q s ads σ ((rB x).a f) W RV:=by
 induction x using PV.casesOn with
 |G=>
  obtain rfl:v=.none:=r;exact k RM .none
 |A i=>
  induction i using Int.casesOn with
  |ofNat n=>exact r.elim λt e=>k (QG n) (e▸IsPart.int _ t)
  |negSucc n=>exact SP.b
 |_=>exact SP.b
theorem Dq{O:RK}{x:PV}{v S P:QU}{i m:Rz QN}(R:ah prog w hs s.heap ads σ)(T:s.heap.get? O=QG {cls:=.type "slice",data:=.fields #[S,P,.none]})(U:av s.heap ads x v)(W:ZV S (i.map λk=>(k:RW)))(X:ZV P (m.map λk=>(k:RW))):
  SP prog w hs q s ads σ (lX x i m) (λQ=>Rh (Rf prog w) A (Tz v (.ref O)) Q E s) av:=by
 induction x using PV.casesOn with
 |F l=>
  (revert U;refine cv λa o r n t u=> ?_;subst t;revert u;refine eu λg c Y J N=> ?_)
  have f:r.toArray.size=l.length:=by rw[RZ,J.a]
  refine SP.c λZ=>SP.c λL=> ?_;intro pv a0 e Q H;refine Fw (gF o g c n Y) T W X (by rw[f];exact AP i m l.length) (by rw[f];exact ZZ ..) (by rw[f];exact dT N) (λh1 h2=> ?_) ?_
  ·have ec:kK l i m=l:=Dp h1 (h2.trans f)
   rw[ec] at e
   (refine oA (λD G=> ?_) (sP e);subst D;revert G;intro I;subst I)
   exact H _ _ ads s.toks R (Mv.Qr ..) (jn a o r n QJ g c Y J N)
  ·have rc:aA s.heap ads (kK l i m) ((r.take (min (m.getD l.length) l.length)).drop (min (i.getD 0) l.length)):=by
    show aA _ _ ((l.take _).drop _) _;rw[←vp];exact(J.j _).g _
   exact SP.y (RV:=av) (a:=.F (kK l i m)) (λb o e=>Rw _ e) R
    (jn _ _ _ _ QJ (RY _ QJ) QJ QJ (aA.b (wL _ _ _).MN _ rc) (lB L)) (λZ h=>h) _ _ e Q H
 |B n=>
  dsimp only[lX];refine SP.o (V:=λv Q=>Rh (Rf prog w) A (Tz v (.ref O)) Q E s) R U λn p l r hp ho Z g J N=>SP.c λhh=> ?_
  induction m using QQ with
  |some Z=>exact aD hh
  |none=>
   obtain rfl:P=.none:=by cases X;rfl
   refine SP.z (n:=0) (tk:=s.toks) R (show aA _ _ (kK l i RM) (r.drop (i.getD 0)) from ?_) λL Q h=>qbE g.isList (bz _ T QJ QJ) W .none .none (by simp) ?_ (by rw[RZ,J.a];exact dT N)
   ·show aA _ _ ((l.take l.length).drop _) _
    rw[Wk];exact J.g _
   ·have gR:slicePick r.toArray (i.map λk=>(k:RW)) RM RM=(r.drop (i.getD 0)).toArray:=by
     induction i using QQ with
     |none=>rw[slicePick_plain];simp
     |some k=>exact slicePick_from' r.toArray k
    rw[gR];exact h
 |_=>exact SP.b
theorem Ds{x:PV}{v l u:QU}{f i:Rz QN}(R:ah prog w hs s.heap ads σ)(g:av s.heap ads x v)(p:ZV l (f.map λk=>(k:RW)))(j:ZV u (i.map λk=>(k:RW))):
  SP prog w hs q s ads σ (lX x f i) (λQ=>Rh (Rf prog w) A (Tz v (.ref s.heap.objs.size)) Q E {s with heap:=s.heap.push {cls:=.type "slice",data:=.fields #[l,u,.none]}}) av:=by
 have h:∀b o,s.heap.get? b=QG o→(s.heap.push {cls:=.type "slice",data:=.fields #[l,u,.none]}).get? b=QG o:=λb o e=>Rw _ e;have G:=aP.MM ads h
 exact λm t e Q H=>Dq (R.NZ h) (RY _ QJ) (av.a G.MN x g) p j m t e Q
  λv n c y R M r=>H v n c y R ((G.mv q).Qs M) r
theorem xP{o:PE}(h:mh o=QO):o=.B .G:=by
 induction o using PE.casesOn with
 |B v=>
  induction v using PV.casesOn with
  |G=>rfl
  |_=>exact aD h
 |_=>exact aD h
theorem yJ{o:PE}{l:Rz RX}(c:Cx prog w hs d)(b:Ok prog w hs d C o)(k:(match l with|none=>mh o|some x=>aQ o c.NA x)=QO)(e:q=QO→o.qa=QO):
  SP prog w hs q c.s c.Nz c.σ (ak C o c.ρ) (λQ=>Rh (Rf prog w) c.A (evalPart l c.Nx) Q c.E c.s) av:=by
 induction l using QQ with
 |some x=>exact b c x q k e
 |none=>
  obtain rfl:=xP k;exact SP.a c.R QJ λQ h=>QT h
theorem LF{l h:Rz RX}{p:Xv}{o i:QU}:qcW (.Slice l h RM p) QR o i=operate [i,o] (Tz o i):=QJ
theorem LD{l h:Rz RX}{t:RX}{p:Xv}{o i:QU}:qcW (.Slice l h (QG t) p) QR o i=operate [o,i] (Tz o i):=QJ
theorem Dn{σ':af}{x i:PV}{v:QU}{j k:Rz QN}(R:ah prog w hs s.heap ads σ)(r:av s.heap ads x v)(e:lX x j k σ=QG (i,σ'))(o:Obj):mP {s with heap:=s.heap.push o} v:=by
 induction x using PV.casesOn with
 |F l=>exact r.elim λa x=>x.elim λf x=>x.elim λt x=>x.elim λn x=>x.1▸.inl (ai f (Rw _ x.2.1) x.2.2.1)
 |B n=>
  (revert r;refine ag λp u b=> ?_;subst b)
  refine ag (λf h Z=> ?_) (bS e);refine ag (λy h z=> ?_) (bS h)
  (refine ag (λD G c=> ?_) (mS h);subst c)
  induction D using AO.casesOn with
  |A l=>exact(R.NW n p _ u G).2.elim λt x=>x.1.elim λm g=>.inr (.inl (ai _ (Rw _ g) QJ))
  |_=>exact aI z
 |_=>exact aI e
theorem Jh{o N O:PE}(ho:Ok prog w hs d C o)(hl:Ok prog w hs d C N)(hh:Ok prog w hs d C O):Ok prog w hs d C (.S o N O):=λc ex q g F=>by
 (refine bc (λox ix pos b g=> ?_) (pM g);subst b)
 have g:=aT g
 (refine cv (λl u st p f D=> ?_) (Az g.2);subst f)
 have D:=aT D;have m:=aT D.2;obtain rfl:=WU.mp D.1;rw[ZT];refine c.ev ho g.1 (bP F QJ) (λQ h=>QH h) λx v1 h1 P t a0 G U r1=> ?_;refine SP.j (λQ h=>QH (RA (wpAny_Slice h))) (SP.i (yJ (c.Ny t G U) hl m.1 (bP F QJ)) λy v2 h2 V J a1 L W r2=>SP.i (yJ ((c.Ny t G U).Ny J L W) hh m.2 (bP F QJ)) λz v3 h3 X a2 a3 Y Z r3=> ?_);refine SP.I (av.a (L.NY Z.st) _ r2) λj pj=>SP.I r3 λk pk=> ?_;have n:=av.a (L.NY Z.st) _ (av.a (G.NY W.st) _ r1);intro pv T e Q H;refine QT (QH (Sj (QH (qO (Dn Y n e _) ?_))));rw[LF];exact QH (VN (Ds Y n pj pk pv T e _ λv h' B tk R M r=>QH (WM (QT (H v h' B tk R M r)))))
theorem Kq{b:RK}{x:PV}{v vs:QU}(R:ah prog w hs s.heap ads σ)(c:s.heap.get? b=QG {cls:=.type "slice",data:=.fields #[.none,.none,vs]})(ps:ZV vs (QG (-1)))(e:av s.heap ads x v):
  SP prog w hs q s ads σ ((bZ x).a λl=>cR l.reverse) (λQ=>Rh (Rf prog w) A (Tz v (.ref b)) Q E s) av:=by
 refine SP.o (V:=λv Q=>Rh (Rf prog w) A (Tz v (.ref b)) Q E s) R e λn p l u k m Z g r f=> ?_;refine SP.z (n:=0) (tk:=s.toks) R r.i λj Q h=>qbE g.isList (bz _ c QJ QJ) .none .none ps (by simp) ?_ (by rw[RZ,r.a];exact dT f);rw[krv_pick];exact h
theorem GY{s:QZ}{G:Type}{f:QI PV→M G}{i:G}{σ':af}{x:PV}{v:QU}(R:ah prog w hs s.heap ads σ)(r:av s.heap ads x v)(e:(bZ x).a f σ=QG (i,σ'))(o:Obj):mP {s with heap:=s.heap.push o} v:=by
 induction x using PV.casesOn with
 |B n=>
  (revert r;refine ag λp j b=> ?_;subst b)
  refine ag (λz h Z=> ?_) (bS e);refine ag (λk h t=> ?_) (bS h)
  (refine ag (λu y c=> ?_) (mS h);subst c)
  induction u using AO.casesOn with
  |A l=>exact(R.NW n p _ j y).2.elim λD x=>x.1.elim λm g=>.inr (.inl (ai _ (Rw _ g) QJ))
  |_=>exact aI t
 |_=>exact aI e
theorem Ji{o:PE}(V:Ok prog w hs d C o):Ok prog w hs d C (.qe o):=λc ex q t W=>by
 (refine bc (λox ix pos g t=> ?_) (pM t);subst g)
 refine have t:=aT t;?_
 (refine cv (λl u N p j z=> ?_) (Az t.2);subst j)
 refine have z:=aT z;?_;refine have B:=aT z.1;?_;obtain rfl:=WU.mp B.1;obtain rfl:=WU.mp B.2
 induction N using QQ with
 |none=>exact aD (z.2)
 |some N=>
  (refine bc (λop y p2 m f=> ?_) (mH z.2);subst m)
  refine have f:=aT f;?_;obtain rfl:=Rl f.1
  (refine bc (λk Z Z n D=> ?_) (pL f.2);subst n)
  induction k using UB with
  |int i=>
   obtain rfl:1=i:=Sk.mp D;rw[ZT];refine c.ev V t.1 (bP W QJ) (λQ h=>QH h) λx v1 O F J X P m1 T=> ?_;intro Y S e Q H;refine QH (RA (wpAny_Slice (QT (QT (UnaryOp_ (qcU (neg_int ?_)))))));refine have U:∀o b L,O.get? b=QG L→(O.push o).get? b=QG L:=λo b L e=>Rw _ e;?_;refine QH (Sj (QH (qO (GY P T e _) ?_)));rw[LD];refine have G:=aP.MM F (U {cls:=.type "slice",data:=.fields #[.none,.none,.int (-1) (J+1)]});?_
   exact QH (VN (Kq (P.NZ (U _)) (RY _ QJ) (.int _ _) (av.a G.MN x T) Y S e _
    λv h' I tk R M r=>QH (WM (QT (H v h' I tk R ((G.mv q).Qs M) r)))))
  |_=>exact aD D
end
theorem nZ{o:Obj}{T:WD}(c:o.cls=.type T)(h:T≠ "tuple")(b:T≠ "frozenset")(g:T≠ "range"):¬fX o:=λf=>by
 have a:∀{t:WD},o.cls=.type t→T≠t→False:=λe n=>n (Zs (c.symm.trans e));exact f.elim (λz=>a z.1 h) λz=>z.elim (λz=>a z.1 b) λz=>a z.1 g
section
variable{prog:RP}{w:Sn}{hs:RI}{K:VH}{d:QN}{C:QN→QI PV→M PV}{q:RG}{ads:aH}{σ:af}{A:SY}{E:QU→QZ→Prop}{s:QZ}
theorem ah.Ol{h B:RI}(R:ah prog w hs h ads σ){D:RK}{o:AO}(L:¬bF ads D)(I:hs.get? D=RM)(N:3<D)(t:∀n,h.get? D=QG n→¬fX n)
  (H:∀b o,b≠D→h.get? b=QG o→B.get? b=QG o) (P:bw h ads B (ads++[(D,D)])→eL prog w B (ads++[(D,D)]) (D,D) o):ah prog w hs B (ads++[(D,D)]) (σ++[o]):=by
 have K:bw h ads B (ads++[(D,D)]):=⟨UT ..,λa n e f=>H a n (λq=>t n (q▸e) f) e⟩;have l:∀{k:QN} {q:RK×RK},ads[k]?=QG q→q.1≠D∧q.2≠D:=λe=>⟨λz=>L (ai _ (Rg e) (.inl z.symm)),λz=>L (ai _ (Rg e) (.inr z.symm))⟩;refine⟨λb o e=>H b o (λq=>nomatch (q▸e).symm.trans I) (R.NX b o e),R.Og,by rw[QW,QW,R.Oa];rfl,?_,?_,?_⟩
 ·rintro b ⟨q,c,e⟩
  (refine oO (λc=> ?_) (λc=> ?_) (mA c))
  ·exact R.Of b (ai q c e)
  ·rw[m1 c] at e
   exact e.elim (λe=>e▸⟨I,N⟩) λe=>e▸⟨I,N⟩
 ·intro i j a b Q O F
  (refine oO (oA λZ G=> ?_) (oA λS p=> ?_) (gq Q)<;>try subst p)
  ·(refine oO (oA λZ r=> ?_) (oA λZ u=> ?_) (gq O)<;>try subst u)
   ·exact R.Oh i j a b G r F
   ·exact let g:=l G;(cq g.1 g.1 g.2 g.2)
  ·(refine oO (oA λZ r=> ?_) (oA λT Z=> ?_) (gq O))
   ·exact let g:=l r;(cq (Vi g.1) (Vi g.2) (Vi g.1) (Vi g.2))
   ·exact Ro (S.trans T.symm) F
 ·intro i q n c m
  (refine oO (oA λJ c=> ?_) (oA λJ v=> ?_) (gq c)<;>try subst v)
  ·(refine oO (oA λZ m=> ?_) (oA λx Z=> ?_) (gq m))
   ·exact(R.NW i q n c m).a K (λZ e=>H _ _ (l c).1 e) λZ e=>H _ _ (l c).2 e
   ·exact Ro (R.Oa▸J) (x▸Ts _)
  ·(refine oO (oA λx Z=> ?_) (oA λZ y=> ?_) (gq m)<;>try subst y)
   ·exact Ro x (J▸R.Oa▸Ts _)
   ·exact P K
theorem au.Pk{c h j:RI}{a:aH}{r:QI RK}(S:au r c a h ads){D:RK}(g:c.get? D=RM)(k:∀b o,b≠D→h.get? b=QG o→j.get? b=QG o):au r c a j (ads++[(D,D)]) where
 Pc:=S.Pc.trans (UT ..)
 Pd:=λb=>ag λq f e=>(mA f).elim (λf=>S.Pd b (ai q f e)) λf=>by rw[m1 f] at e;exact e.elim (λe=>e▸.inr g) λe=>e▸.inr g
 Pa:=λb o l i e=>k b o (λq=>nomatch (q▸e).symm.trans g) (S.Pa b o l i e)
 Pe:=λb o i e=>(S.Pe b o i e).imp λm n=>k b m (λq=>nomatch (q▸e).symm.trans g) n
theorem ba.k{h:RI}{κ κ':Type}{rk:κ'→κ→Prop}(j:∀a b c,rk b a→rk c a→b=c):∀{l:QI (κ'×PV)} {kvs:QI (κ×QU)},ba h ads rk l kvs→(l.map (·.1)).Nodup→(kvs.map (·.1)).Nodup
 |[],Z,r,U=>(show _=[] from r)▸UD
 |b::l,Z,z,n=>by
  revert z;refine fg λa v r e g Z f=> ?_;subst e;refine oA (λi o=> ?_) (SO.mp (Tq .. ▸n))
  have S:∀{l:QI (κ'×PV)} {kvs:QI (κ×QU)},ba h ads rk l kvs→a∈kvs.map (·.1)→b.1∈l.map (·.1):=λ{l}=>by
   induction l with
   |nil=>intro kvs r m;rw[(show kvs=[] from r)] at m;cases m
   |cons y l p=>
    rintro _ ⟨x,B,D,rfl,t,_,u⟩ m
    (refine oO (λe=> ?_) (λm=> ?_) (mC m))
    ·exact j _ _ _ (e▸t:rk y.1 a) g▸.head _
    ·exact .tail _ (p u m)
  exact SO.mpr ⟨λm=>i (S f m),ba.k j f o⟩
theorem vD{κ κ':Type}[Wh κ][Wh κ']{knd:KeyKind prog w κ}{rk:κ'→κ→Prop}{f:aH}{D:RK}{vs:QI (QU×QU)}{kvs:QI (κ×QU)}{l:QI (κ'×PV)}{mk:QI (κ'×PV)→AO}
  (u:∀(h:RI) (ads:aH) kvs l,h.DictOf knd D kvs→ba h ads rk l kvs→l.length≤aR→eL prog w h ads (D,D) (mk l)) (m:∀a b c,rk b a→rk c a→b=c) (v:(l.map (·.1)).Nodup)
  {Q:UE→QZ→Prop} {s₂:QZ} (N:s.heap.get? D=RM) (x:3<D) (y:hs.get? D=RM) (S:au [] s.heap ads s₂.heap f) (R:ah prog w hs s₂.heap f σ) (hm:s₂.heap.DictOf knd D []) (O:Carries knd vs kvs) (F:ba s₂.heap f rk l kvs) (L:l.length≤aR) (G:¬bF f D)
  (H:∀j i tk,ah prog w hs j i (σ++[mk l])→au [] s.heap ads j i→av j i (.B σ.length) (.ref D)→Q () {s₂ with heap:=j,toks:=tk}):
  Rh (Rf prog w) A (storeAll D vs) Q E s₂:=by
 refine wpAny_storeAll vs kvs [] s₂ _ O hm (by rw[UJ,F.a,SG];exact dT L) λj p P=> ?_;rw[merged_nil_of_nodup kvs (F.k m v)] at p;have r:∀b o,b≠D→s₂.heap.get? b=QG o→j.get? b=QG o:=λb o n e=>(P.2 b n).trans e
 have t:∀I,s₂.heap.get? D=QG I→¬fX I:=λI e=>by
  (revert hm;refine gO λo T U g z Z=> ?_;revert z;refine oA λJ Z=> ?_)
  obtain rfl:=QS (g.symm.trans e);exact nZ J (by decide) (by decide) (by decide)
 exact H j (f++[(D,D)]) _ (R.Ol G y x t r λk=>u _ _ _ _ p (F.b k) L) (S.Pk N r) (ai _ (R.Oa▸Ul) QJ)
theorem nE{κ:Type}[Wh κ](knd:KeyKind prog w κ){h:RI}{D:RK}(g:h.get? D=QG {cls:=.type "dict",data:=.dict #[]}):h.DictOf knd D []:=
 ⟨_,_,_,g,(aL QJ QJ QJ),QJ,λZ e=>by simp at e,Pairs.nil,UD⟩
theorem IW:Ok prog w hs d C .X:=λc x q k Z=>by
 (refine bc (λy b pos a k=> ?_) (tU k);subst a)
 have k:=aT k;obtain rfl:=iE k.1;obtain rfl:=iE k.2;rw[arm_eval_Dict]
 exact SP.B (p:=(c.s.heap.objs.size,c.s.heap.objs.size)) c.R (λZ Z e=>Rw _ e) ⟨dI _,c.R.Oc⟩ ⟨dI _,c.R.Oc⟩ (cW QJ ([]) (nE _ (RY _ QJ)) QJ (RQ _))
  λQ h=>QH (Sj (XO h))
def AG(prog:RP)(w:Sn)(k:QI QN)(h:RI)(ads:aH)(l:QI PV)(ps:QI (QU×QU)):Prop:=
 ∃v,Carries (strKind prog w) ps v∧ba h ads (λc x=>bj c=QG x) (k.zip l) v∧l.length=k.length
theorem yG{pos:Xv}:∀{o:QI PE} {m:QI QN} {b:QI (Rz RX)} {xs:QI RX} (c:Cx prog w hs d),(∀e∈o,Ok prog w hs d C e)→nh m b=QO→eO o c.NA xs=QO→m.length=o.length→(q=QO→False)→
  SP prog w hs q c.s c.Nz c.σ (cK C o c.ρ) (λQ=>Rh (Rf prog w) c.A (evalPairs (pairTrees b xs c.Nx pos)) Q c.E c.s) (AG prog w m)
 |[],m,b,xs,c,Z,f,g,p,U=>by
  obtain rfl:m=[]:=Ui.mp p;refine have k1:=SN (aT f).1;?_;obtain rfl:b=[]:=Ui.mp k1.symm;obtain rfl:=iE g;exact SP.a (v:=[]) c.R (bz ([]) Tu QJ QJ) λQ h=>evalPairs_nil h
 |Z::U,[],Y,O,H,I,J,L,p,N=>nomatch p
 |Z::U,Y::O,H,[],I,J,L,g,N,Z6=>aD g
 |Z::U,Y::O,[],H::I,J,L,f,N,Z6,Z7=>aD f
 |e::o,k::m,B::b,x::xs,c,r,f,g,p,P=>by
  refine have f:=aT f;?_;refine have S:=aT (Ww▸f.2);?_;refine have g:=aT g;?_;refine have D:nh m b=true:=Sv.mpr ⟨f.1,S.2⟩;?_;refine have X:=S.1;?_
  induction B using QQ with
  |none=>exact aD X
  |some kx=>
   (refine bc (λkc Z Z n X=> ?_) (pL X);subst n)
   induction kc using UB with
   |str y=>
    let T:Cx prog w hs d:={c with s:={c.s with toks:=c.s.toks+1},R:=c.R,ER:=c.ER}
    refine SP.j (λQ h=>evalPairs_cons (qcl h)) (T.ev (W₂:=λv V Q=>Rh (Rf prog w) c.A (evalPairs (pairTrees b xs c.Nx pos)) (λvs F=>Q ((.str y c.s.toks,v)::vs) F) c.E V) (r e (.head _)) g.1 (λz=>(P z).elim) (λQ h=> ?_) λa v h1 W G a1 R1 m1 r1=> ?_)
    ·exact QH (SJ h (λv V h=>QH (Sj (QT h))) λZ Z x=>x)
    ·refine SP.i (yG (T.Ny G R1 m1) (λz hz=>r z (.tail _ hz)) D g.2 (Ve p) P) λl ps h2 a0 a2 a3 R2 m2=>du λt hc hk u=> ?_
     exact SP.a (v:=(.str y c.s.toks,v)::ps) R2 (bz ((y,v)::t) (aL (tC y _) QJ hc) (er y v t QJ (eT X) (av.a (R1.NY m2.st) _ r1) hk) (RH (·+1) u)) λQ h=>h
   |_=>exact aD X
theorem xq:∀{a:QI QN} {y:QI (Rz RX)},nh a y=QO→y.all (·.isSome)=QO
 |Z,[],U=>QJ
 |[],Z::U,h=>aD h
 |k::a,e::y,h=>by
  have h:=aT h;have b:=aT (Ww▸h.2);rw[Ww];refine Sv.mpr ⟨?_,xq (Sv.mpr ⟨h.1,b.2⟩)⟩;have c:=b.1
  induction e using QQ with
  |none=>exact aD c
  |some Z=>rfl
theorem uX{e:bD}:∀{a:QI PE} {xs:QI RX},eO a e xs=QO→xs.length=a.length
 |[],Z,h=>iE h▸QJ
 |Z::U,[],h=>aD h
 |Z::U,Y::O,h=>RH (·+1) (uX (aT h).2)
theorem IV{J:QI QN}{L:QI PE}(u:∀e∈L,Ok prog w hs d C e):Ok prog w hs d C (.qd J L):=λc ex q k W=>by
 (refine bc (λy xs pos f k=> ?_) (tU k);subst f)
 refine have k:=aT k;?_;refine have x:=aT k.2;?_;refine cY (λN O P X=> ?_) (Rl x.2);refine have B:J.length=y.length:=SN (aT k.1).1;?_;refine have Y:=uX x.1;?_;intro pv Z e Q H;refine wpAny_Dict_any (xq k.1) (by rw[←B,Y,N]) (λz=>by rw[B,z] at O;exact Ro O (Ts _)) (B▸P) ?_;refine have F:∀b o,c.s.heap.get? b=QG o→(c.s.heap.push {cls:=.type "dict",data:=.dict #[]}).get? b=QG o:=λb o e=>Rw _ e;?_;have S:¬bF c.Nz c.s.heap.objs.size:=λz=>let⟨_,e,_⟩:=c.R.Od z;bV (e.symm.trans (dI _))
 have G:hs.get? c.s.heap.objs.size=none:=by
  induction z:hs.get? c.s.heap.objs.size using QQ with
  |none=>rfl
  |some o=>exact bV ((c.R.NX _ _ z).symm.trans (dI _))
 refine ag (λp e1 e2=> ?_) (bS e)
 (refine oA (λi j=> ?_) (sP e2);subst i;revert j;intro m;subst m)
 refine yG ({c with s:={c.s with heap:=c.s.heap.push {cls:=.type "dict",data:=.dict #[]}},R:=c.R.NZ F,ER:=c.ER.Ox F}:Cx prog w hs d) u k.1 x.1 N (λz=>aD z) _ _ e1 _ λps T U a0 R1 I=>du λv hc hr n=> ?_;refine have V:=RY c.s.heap (o:={cls:=.type "dict",data:=.dict #[]}) QJ;?_;refine vD (mk:=.D) (λh ads v l g r hl=>(cW QJ v g r hl)) (λa b c T h2=>jG T h2) (by rw[ZN (Sx n.symm)];exact X) (dI _) c.R.Oc G (((aP.MM c.Nz F).MP []).Pb I.st) R1 (nE _ (I.st.Pa _ _ S (λz=>nomatch z) V)) hc hr ?_ (I.st.Pf S V) λh' t tk R' S' r'=> ?_
 ·rw[qdt]
  exact QK (qdC ..) (QK P (by decide))
 ·exact H _ h' t tk R' ⟨S',bP W QJ⟩ r'
theorem IX{k:RW}{x:PE}(W:Ok prog w hs d C x):Ok prog w hs d C (.qf k x):=λc ex q F Y=>by
 (refine bc (λS xs pos f F=> ?_) (tU F);subst f)
 refine have F:=aT F;?_
 (refine ag (λI j X=> ?_) (hY F.1);subst j)
 (refine ag (λy m qb=> ?_) (hY F.2);subst m)
 induction I using QQ with
 |none=>exact aD X
 |some kx=>
  (refine bc (λkc Z Z n X=> ?_) (pL X);subst n)
  induction kc using UB with
  |int i=>
   obtain rfl:k=i:=Sk.mp X;intro pv a0 e Q H;refine wpAny_Dict_any QJ QJ (by simp) (show(1:QN)≤15 by decide) ?_;refine have J:∀b o,c.s.heap.get? b=QG o→(c.s.heap.push {cls:=.type "dict",data:=.dict #[]}).get? b=QG o:=λb o e=>Rw _ e;?_;have T:¬bF c.Nz c.s.heap.objs.size:=λz=>let⟨_,e,_⟩:=c.R.Od z;bV (e.symm.trans (dI _))
   have L:hs.get? c.s.heap.objs.size=none:=by
    induction z:hs.get? c.s.heap.objs.size using QQ with
    |none=>rfl
    |some o=>exact bV ((c.R.NX _ _ z).symm.trans (dI _))
   refine ag (λp e1 e2=> ?_) (bS e)
   (refine oA (λt u=> ?_) (sP e2);subst t;revert u;intro D;subst D)
   refine evalPairs_cons (qcU (QH (W ({c with s:={c.s with heap:=c.s.heap.push {cls:=.type "dict",data:=.dict #[]},toks:=c.s.toks+1},R:=c.R.NZ J,ER:=c.ER.Ox J}:Cx prog w hs d) y QR qb (λz=>aD z) _ _ e1 _ λv N U O R1 P r1=>QH (Sj (QT (evalPairs_nil ?_))))));refine have V:=RY c.s.heap (o:={cls:=.type "dict",data:=.dict #[]}) QJ;?_
   exact vD (s:=c.s) (s₂:={c.s with heap:=N,toks:=O}) (knd:=Ub prog w) (rk:=(·=·)) (kvs:=[(k,v)]) (l:=[(k,p.1)]) (mk:=.B) (λh ads kvs l g r hl=>(cW QJ kvs g r hl)) (λa b c N h2=>N.trans h2.symm) (by simp) (dI _) c.R.Oc L (((aP.MM c.Nz J).MP []).Pb P.st) R1
    (nE _ (P.st.Pa _ _ T (λz=>nomatch z) V)) (aL (gG k _) QJ Tu) (er k v ([]) QJ QJ r1 QJ) (show(1:QN)≤4096 by decide) (P.st.Pf T V) λh' G tk R' S' r'=>H _ h' G tk R' ⟨S',bP Y QJ⟩ r'
  |_=>exact aD X
end
structure dZ(prog:RP)(w:Sn)(hs:RI)(d:QN)(C:QN→QI PV→M PV):Prop where
 Ql:∀a args σ r,C a args σ=QG r→∃pf,gA a=QG pf
 Qm:∀(a:QN) (args:QI PV) (vals:QI QU) (σ:af) (A:SY) (s:QZ) (ads:aH),br A d→hs.objs.size≤s.heap.objs.size→ah prog w hs s.heap ads σ→aA s.heap ads args vals→
  SP prog w hs QR s ads σ (C a args) (λQ=>∀R:Result→QZ→Prop,(∀v s',Q v s'→R (.ok (.ret v)) s')→XQ (Rf prog w) A (.call (.ref a) ⟨vals,[]⟩) R s) av
structure fG(K:VH):Prop where
 fn:∀a pf,gA a=QG pf→keepIn K (.ref a)=QO
 QE:∀c a,ma c=QG a→keepIn K (.ref c)=QO
theorem xe{e:PE}{q:RG}(h:q=QO→e.qa=QO)(k:e.qa=QR):q=false:=by
 induction q using QL with
 |true=>exact Ro ((h QJ).symm.trans k) (by decide)
 |false=>rfl
section
variable{prog:RP}{w:Sn}{hs:RI}{K:VH}{d:QN}{C:QN→QI PV→M PV}{q:RG}{ads:aH}{σ:af}{A:SY}{E:QU→QZ→Prop}{s:QZ}
theorem dZ.Qk(O:dZ prog w hs d C){a:QN}{args:QI PV}{l:QI QU}(hm:br A d)(z:hs.objs.size≤s.heap.objs.size)(R:ah prog w hs s.heap ads σ)(r:aA s.heap ads args l):
  SP prog w hs QR s ads σ (C a args) (λQ=>Rh (Rf prog w) A (Ur (.ref a) l) Q E s) av:=
 SP.j (λZ h=>wpAny_call (h _ λZ Z k=>k)) (O.Qm a args l σ A s ads hm z R r)
theorem Dg(B:bB prog w hs K)(T:dZ prog w hs d C){c:QN}{args:QI PV}{l:QI QU}(hm:br A (d+1))(U:hs.objs.size≤s.heap.objs.size)(R:ah prog w hs s.heap ads σ)(V:aA s.heap ads args l):
  SP prog w hs QR s ads σ (kW C c args) (λQ=>Rh (Rf prog w) A (Ur (.ref c) l) Q E s) av:=by
 refine SP.t λa W=> ?_;intro pv Y e Q H;refine ag (λp e3 F=> ?_) (bS (show((C a (.B σ.length::args)) (σ++[.C c []])).bind _=_ from e));obtain⟨r,x⟩:=p
 induction r using PV.casesOn with
 |G=>
  (refine oA (λf i=> ?_) (sP F);subst f;revert i;intro j;subst j)
  obtain⟨h,g,dr,tk,os⟩:=s;refine bk (λk1 k2 k3=> ?_) (B.sc.Nq c a W);have X:K.In h:=λb o hb=>R.NX b o (B.NT b o hb);refine wpAny_call (make_core (makes_of X k1) (looks_findIn X k2) (λm=>bind_fn X m k3) (.inl QJ) ?_);have gD:((h.push Yu).push (XR c h.objs.size)).get? h.objs.size=QG emptyDict:=Rw _ (RY _ QJ);have gx:((h.push Yu).push (XR c h.objs.size)).get? (h.objs.size+1)=QG (XR c h.objs.size):=Yx h Yu▸RY (h.push Yu) QJ;have I:∀b o,h.get? b=QG o→((h.push Yu).push (XR c h.objs.size)).get? b=QG o:=λb o e=>Rw _ (Rw _ e)
  have J:h.get? (h.objs.size+1)=none:=by
   induction z:h.get? (h.objs.size+1) using QQ with
   |none=>rfl
   |some o=>exact Ro (SS z) (TO.mpr (Uk _))
  have L:3<h.objs.size:=R.Oc;have P:=R.Oo (p:=(h.objs.size+1,h.objs.size)) (o:=.C c []) I ⟨J,VA L⟩ ⟨dI h,L⟩ (qQ (Wu _) gx (fy ([]) 0 gD QJ) (RQ _) λZ hf=>nomatch hf);have G:=wK ads (p:=(h.objs.size+1,h.objs.size)) I J (dI h);have N:av ((h.push Yu).push (XR c h.objs.size)) (ads++[(h.objs.size+1,h.objs.size)]) (.B σ.length) (.ref (h.objs.size+1)):=(ai _ (R.Oa▸Ul) QJ);refine T.Qm a (.B σ.length::args) (.ref (h.objs.size+1)::l) _ (A.under (.builtin "type.__call__" ⟨.ref c::l,[]⟩)) {heap:=(h.push Yu).push (XR c h.objs.size),gens:=g,drawn:=dr,toks:=tk,os:=os} (ads++[(h.objs.size+1,h.objs.size)]) ⟨hm.Qh,?_,?_⟩ ?_ P (cX _ _ QJ N (aA.b G.MN _ V)) _ _ e3 (λv O=>v=.none∧Q (.ref (h.objs.size+1)) O) (λv h' n y R' S r'=>⟨r',H _ h' n y R' ((G.mv QR).Qs S) (av.a (P.NY S.st) _ N)⟩) _ λv O k=> ?_
  ·have:=hm.Qj
   have D:qee (.builtin "type.__call__" ⟨.ref c::l,[]⟩)=1:=QJ;show A.depth+qee _+d≤900;rw[D];exact AZ this
  ·have:=hm.Qi
   have D:qef (.builtin "type.__call__" ⟨.ref c::l,[]⟩)=1:=QJ;show A.units+qef _+8*d≤9000;rw[D];exact AY this
  ·show hs.objs.size≤_
   rw[Yx,Yx];exact QK U (Sh _ 2)
  ·(revert k;refine oA λu k=> ?_;subst u)
   exact⟨QJ,k⟩
 |_=>exact aI F
theorem uR{x:RX}{xs:QI RX}{pos:Xv}{env:Wq}(h:xT x=QO):US (.Call x xs [] pos) env=(do Zj pos (←US x env) [] (Wn pos (UR xs env)) []):=by
 induction x using SU<;>first|rfl|exact(UU h).elim
theorem oq{m:bD}:∀{a:QI PE} {xs:QI RX},eO a m xs=QO→∀(env:Wq) (pos:Xv),(Wn pos (UR xs env)).any (·.1)=QR
 |[],Z,h,U,Y=>iE h▸QJ
 |Z::U,[],h,Y,O=>aD h
 |e::Z,U::Y,h,env,pos=>by
  have h:=aT h;rw[pn (jR h.1▸nR e)];exact oq h.2 env pos
theorem vK{m:bD}{a:QI PE}{xs:QI RX}{env:Wq}{pos:Xv}{f:QU}{P:Args→QZ→Prop}(k:eO a m xs=QO)(h:Rh (Rf prog w) A (spliced (Wn pos (UR xs env))) (λvs b=>P ⟨vs,[]⟩ b) E s):
  Rh (Rf prog w) A (evalArgs f QO (Wn pos (UR xs env)) []) P E s:=by
 induction a using Rm with
 |nil=>
  obtain rfl:=iE k;exact QH (SJ h (λvs b c=>RA (QH (QT (QH (QT (QT c)))))) λZ Z x=>x)
 |cons e a=>
  induction xs using Rm with
  |nil=>exact aD k
  |cons x xs=>
   rw[pn (jR (aT k).1▸nR e)] at h⊢;exact Calls.evalArgs_plain h
theorem lQ{c:Cx prog w hs d}{t:QI PE}{xs:QI RX}{pos o:Xv}{f:QU}{first:QI QU}{P:RI→Prop}{g:QI PV→M PV}(u:hO prog w hs d C t)(v:eO t c.NA xs=QO)(x:q=QO→t.all PE.qa=QO)
  (y:∀h,P h→∃k,(k=qdz∨k=qcH∨k=qbL)∧Looks (Rf prog w) h (qcZ f) k)
  (k:∀l vs n b tk σ' (R:ah prog w hs n b σ') (m:Mv q c.s.heap c.Nz n b),aA n b l vs→P n∧SP prog w hs q (c.Ny tk R m).s b σ' (g l) (λQ=>Rh (Rf prog w) c.A (Ur f (first++vs)) Q c.E (c.Ny tk R m).s) av):
  SP prog w hs q c.s c.Nz c.σ ((cK C t c.ρ).a g) (λQ=>Rh (Rf prog w) c.A (Zj o f first (Wn pos (UR xs c.Nx)) []) Q c.E c.s) av:=
 SP.j (λZ h=>callWith_of (by rw[oq v c.Nx pos];rfl) y (vK v h)) (SP.i (u c xs q pos v x)
  λl vs n b tk σ' R m r z p e Q H=>⟨(k l vs n b tk σ' R m r).1,(k l vs n b tk σ' R m r).2 z p e Q H⟩)
theorem rD{f:QU}(a:qcZ f=UK .machine)(h:RI)(_:YB):∃k,(k=qdz∨k=qcH∨k=qbL)∧Looks (Rf prog w) h (qcZ f) k:=(ai _ (.inr (.inl QJ)) (Looks.of_pure a))
theorem IP(B:bB prog w hs K)(KC:fG K)(CO:dZ prog w hs d C){f:PE}{args:QI PE}(hf:Ok prog w hs (d+1) C f)(r:hO prog w hs (d+1) C args):Ok prog w hs (d+1) C (.F f args):=λc ex q u hq=>by
 (refine cv (λfx xs ks pos O u=> ?_) (pJ u);subst O)
 refine have u:=aT u;?_;refine have hX:=aT (aT u.1).1;?_;refine have Y:=aT u.2;?_;obtain rfl:=iE hX.1;obtain rfl:=xe hq QJ;rw[uR hX.2];refine c.ev hf Y.1 (λz=>aD z) (λQ h=>QH h) λg v h1 P t a0 x y r1=> ?_;refine have T:∀{h' U S},ah prog w hs h' U S→K.In h':=λR b o hb=>R.NX b o (B.NT b o hb);?_
 induction g using PV.casesOn with
 |J g=>
  obtain rfl:v=g.qa:=r1
  have i:∀{g':GV},qcZ g'.qa=UK .machine→SP prog w hs QR (c.Ny t x y).s P a0 ((cK C args c.ρ).a (lR g')) (λQ=>Rh (Rf prog w) c.A (Zj pos g'.qa [] (Wn pos (UR xs c.Nx)) []) Q c.E (c.Ny t x y).s) av:=λ{g'} hk=>
   lQ r Y.2 (λz=>aD z) (rD hk) λl vs h2 n j V m m2 W=>⟨Tu,CX B.fm c.hm m W⟩
  induction g using GV.casesOn with
  |A a=>
   intro pv S e Q H;refine ag (λp Z e2=> ?_) (bS e);refine oE (λpf a1=> ?_) (CO.Ql _ _ _ _ e2);exact lQ (c:=c.Ny t x y) r Y.2 (λz=>aD z) (λh X=>keeps_K (KC.fn a pf a1) h X) (λl vs h2 n j V m m2 W=>⟨T m,CO.Qk (c.hm.le (Uk _)) ((c.Ny t x y).Ny j m m2).ER.OD m W⟩) pv S e Q H
  |B k=>
   intro pv S e Q H;refine ag (λp Z e2=> ?_) (bS e)
   induction hi:ma k using QQ with
   |none=>
    have:kW C k p.1 p.2=none:=by unfold kW;rw[hi];rfl
    exact aI (this.symm.trans e2)
   |some a=>exact lQ (c:=c.Ny t x y) r Y.2 (λz=>aD z) (λh X=>keeps_K (KC.QE k a hi) h X) (λl vs h2 n j V m m2 W=>⟨T m,Dg B CO c.hm ((c.Ny t x y).Ny j m m2).ER.OD m W⟩) pv S e Q H
  |D=>exact i (g':=.D) QJ
  |M=>exact i (g':=.M) QJ
  |C=>exact i (g':=.C) QJ
  |F=>exact i (g':=.F) QJ
  |N=>exact i (g':=.N) QJ
  |K=>exact i (g':=.K) QJ
  |I=>exact i (g':=.I) QJ
  |L=>exact i (g':=.L) QJ
  |H=>exact i (g':=.H) QJ
  |J=>exact i (g':=.J) QJ
  |G=>exact i (g':=.G) QJ
 |_=>exact λZ Z e=>(bS e).elim λZ z=>aI z.2
theorem HB{a:RX}{x:Ux}{xs:QI RX}{o pos:Xv}{env:Wq}{e:bD}{b:QI PE}{v:QU}(c:eO b e xs=QO)(p:o.endLine=pos.line)(n:xs.length<30):
  qdK a x o pos env v (xs.length+0) (Wn pos (UR xs env)) []=(do
   let(f,first)←Xr [v] (XF v x (do return (←qaN a env).getD QO))
   Zj pos f first (Wn pos (UR xs env)) []):=by
 have h:(Wn pos (UR xs env)).all (!·.1)=true:=SX.mpr λz g=>by rw[Bool.eq_false_iff.mpr (Zx.mp (oq c env pos) z g)];rfl
 have i:methodCallForm (xs.length+0) (Wn pos (UR xs env)) []=true:=Sv.mpr ⟨Sv.mpr ⟨h,QJ⟩,Ry n⟩;have j:∀(k:Xv→Sem QU),methodCallPos QO a env o pos>>=k=k pos:=λk=>(RH (·>>=k) (SH (Sk.mpr p))).trans (pure_bind _ _);unfold qdK;rw[i];exact RH (Xr [v] _>>=·) (XW λq=>j _)
theorem xH{c:Cx prog w hs d}{o:PE}{e:RX}{x:Ux}{xs:QI RX}{p pos:Xv}{i:QI PE}{f:PV→M PV}(j:Ok prog w hs d C o)(ns:ml e=QO)(l:aQ o c.NA e=QO)(n:eO i c.NA xs=QO)(r:p.endLine=pos.line)(t:xs.length<30)(u:q=QO→o.qa=QO)
  (k:∀y v g b tk σ' (R:ah prog w hs g b σ') (m:Mv q c.s.heap c.Nz g b),av g b y v→SP prog w hs q (c.Ny tk R m).s b σ' (f y) (λQ=>Rh (Rf prog w) c.A (do
   let(f,first)←Xr [v] (XF v x (do return (←qaN e c.Nx).getD QO))
   Zj pos f first (Wn pos (UR xs c.Nx)) []) Q c.E (c.Ny tk R m).s) av):
  SP prog w hs q c.s c.Nz c.σ ((ak C o c.ρ).a f) (λQ=>Rh (Rf prog w) c.A (US (.Call (.Attribute e x p) xs [] pos) c.Nx) Q c.E c.s) av:=
 c.ev j l u (λZ h=>by
  rw[arm_eval_Call,uD ns]
  exact QH (SJ h (λv z h=>QH (Sj (by rw[show qdK e x p pos c.Nx v (xs.length+([]:QI Keyword).length) (Wn pos (UR xs c.Nx)) (backToKw pos (keywordEach [] c.Nx))=_ from HB n r t];exact h))) λZ Z x=>x)) k
theorem Je(B:bB prog w hs K)(CO:dZ prog w hs d C)(KC:fG K)(name:QN){o:PE}{args:QI PE}(ho:Ok prog w hs (d+1) C o)(r:hO prog w hs (d+1) C args):Ok prog w hs (d+1) C (.R o name args):=λc ex q j hq=>by
 (refine cv (λfx xs ks pos D j=> ?_) (pJ j);subst D)
 have j:=aT j;have hX:=aT j.1;have U:=aT j.2
 (refine bc (λox x a3 G i=> ?_) (pH U.1);subst G)
 have i:=aT i;have I:=aT i.1;have J:=aT I.1;obtain rfl:=iE hX.1;obtain rfl:=xe hq QJ;refine xH ho J.1 i.2 U.2 (Rl I.2) (lB hX.2) (λz=>aD z) λy v h1 a4 t W u O r1=> ?_
 refine SP.p (V:=λv Q=>Rh (Rf prog w) c.A (do
   let(f,first)←Xr [v] (XF v x (do return (←qaN ox c.Nx).getD QO))
   Zj pos f first (Wn pos (UR xs c.Nx)) []) Q c.E (c.Ny t u O).s) r1 λn p hp=>SP.k λob Y=> ?_
 intro pv S e Q H;refine ag (λz Z e2=> ?_) (bS e)
 induction ob using AO.casesOn with
 |C k P=>
  refine ag (λz2 e3 e4=> ?_) (bS e2)
  (refine ag (λa a0 L=> ?_) (mS e3);subst L)
  have N:bG P name=none:=by
   induction hd:bG P name using QQ with
   |none=>rfl
   |some v=>
    have:(M.c (!(bG P name).isSome) (C a (.B n::z.1))) z.2=none:=by rw[hd];rfl
    exact aI (this.symm.trans e4)
  refine oE (λm F=> ?_) ((c.Ny t u O).ER.fr u);refine QH (RA (Fx B.sc (λb o hb=>B.NT b o hb) F (eT J.2) a0 N u hp Y ?_))
  have e':((cK C args c.ρ).a λT=>C a (.B n::T)) W=QG (pv,S):=by
   refine UG.mpr (ai z (by assumption) ?_);have:(M.c (!(bG P name).isSome) (C a (.B n::z.1))) z.2=C a (.B n::z.1) z.2:=by rw[N];rfl
   exact this.symm.trans e4
  refine oE (λpf a1=> ?_) ((bS e').elim λZ z=>CO.Ql _ _ _ _ z.2)
  exact lQ (c:=c.Ny t u O) (g:=λT=>C a (.B n::T)) r U.2 (λz=>aD z) (λh X=>keeps_K (KC.fn a pf a1) h X) (λl T h2 a5 a2 a6 R2 m2 r2=>⟨λb o hb=>R2.NX b o (B.NT b o hb),
   CO.Qk (c.hm.le (Uk _)) ((c.Ny t u O).Ny a2 R2 m2).ER.OD R2 (cX _ _ QJ (ai p (lp m2.st.Pc hp) QJ) r2)⟩) pv S e' Q H
 |_=>exact aI e2
theorem JY{o:PE}{m:aO}{args:QI PE}{q:RG}(h:q=QO→(PE.L o m args).qa=QO):(q=QO→m=.A)∧(q=QO→o.qa=QO)∧(q=QO→args.all PE.qa=QO):=by
 induction q using QL with
 |false=>exact(aL (λz=>(aD z)) (λz=>(aD z)) λz=>(aD z))
 |true=>
  refine have h:=h QJ;?_
  induction m using aO.casesOn with
  |A=>
   induction args using Rm with
   |nil=>exact aD ((aT (show(o.qa&&QR)=QO from h)).2)
   |cons a r=>
    induction r using Rm with
    |nil=>
     refine have h:=aT (show(o.qa&&a.qa)=QO from h);?_;exact(aL (λZ=>QJ) (λZ=>h.1) λZ=>Sv.mpr ⟨h.2,QJ⟩)
    |cons Z U=>exact aD ((aT (show(o.qa&&QR)=QO from h)).2)
  |_=>exact aD h
theorem IM{m:aO}{o:PE}{args:QI PE}(W:Ok prog w hs d C o)(g:hO prog w hs d C args):Ok prog w hs d C (.L o m args):=λc ex q b Y=>by
 (refine cv (λfx xs ks pos i b=> ?_) (pJ b);subst i)
 refine have b:=aT b;?_;refine have X:=aT b.1;?_;refine have G:=aT b.2;?_
 (refine bc (λox x N j a=> ?_) (pH G.1);subst j)
 refine have a:=aT a;?_;refine have r:=aT a.1;?_;refine have t:=aT r.1;?_;obtain rfl:=iE X.1;obtain rfl:m.qa=x:=Sk.mp t.2;refine bk (λhg q1 q2=> ?_) (JY Y);refine xH W t.1 a.2 G.2 (Rl r.2) (lB X.2) q1 λy v h1 O u a0 R P r1=> ?_
 refine SP.p (V:=λv Q=>Rh (Rf prog w) c.A (do
   let(f,first)←Xr [v] (XF v m.qa (do return (←qaN ox c.Nx).getD QO))
   Zj pos f first (Wn pos (UR xs c.Nx)) []) Q c.E (c.Ny u R P).s) r1 λn p T=>SP.k λh I=> ?_
 intro pv S e Q H;refine ag (λz Z e2=> ?_) (bS e);refine ag (λB e3 e4=> ?_) (bS e2)
 have J:(hW m h&&jC h B.1)=true:=by
  induction J:(hW m h&&jC h B.1) using QL with
  |true=>rfl
  |false=>
   have:(M.c (hW m h&&jC h B.1) (kJ n B.1 m z.1)) B.2=none:=by rw[J];rfl
   exact aI (this.symm.trans e4)
 refine QH (RA (HC (aT J).1 R T I ?_));refine lQ (c:=c.Ny u R P) g G.2 q2 (rD QJ) (λl vs h2 U a1 a2 R2 m2 r2=>⟨Tu,?_⟩) pv S e Q H;refine SP.k λa3 D=>SP.c λF=> ?_;refine have F:=aT F;?_;rw[HD F.2];exact BA hg (Bz F.2 F.1) R2 (lp m2.st.Pc T) D r2
end
end Mine
end
section
open PySem PySem.W PySem.Calls PyProof.Rows
set_option genInjectivity false
set_option genSizeOf false
set_option genSizeOfSpec false
namespace Mine
def Iv{α:Type}(m:M α)(σ:af)(G:α→af→Prop):Prop:=∀a σ',m σ=QG (a,σ')→G a σ'
section
variable{α β:Type}{G:α→af→Prop}{σ:af}
theorem Iv.a{a:α}(h:G a σ):Iv (.b a) σ G:=λZ Z e=>by
 (refine oA (λc r=> ?_) (sP e);subst c;revert r;intro f;subst f)
 exact h
theorem Iv.f:Iv .g σ G:=λZ Z e=>aI e
theorem Iv.i{o:Rz α}(h:∀a,o=QG a→G a σ):Iv (.h o) σ G:=by
 induction o using QQ with
 |none=>exact Iv.f
 |some a=>exact Iv.a (h a QJ)
theorem Iv.c{b:RG}{m:M α}(h:b=QO→Iv m σ G):Iv (.c b m) σ G:=by
 induction b using QL with
 |true=>exact h QJ
 |false=>exact Iv.f
theorem Iv.l{m:M β}{f:β→M α}(h:Iv m σ λa σ'=>Iv (f a) σ' G):Iv (m.a f) σ G:=λa σ' e=>by
 refine ag (λp b c=> ?_) (bS e);exact h p.1 p.2 b a σ' c
theorem Iv.b{n:QN}{f:AO→M α}(h:∀o,σ[n]?=QG o→Iv (f o) σ G):Iv ((M.f n).a f) σ G:=Iv.l λo σ' e=>by
 refine ag (λp i k=> ?_) (mS e)
 (refine oA (λc r=> ?_) (Tw k);subst c;revert r;intro g;subst g)
 exact h _ i
theorem Iv.g{o:AO}{f:QI PV→M α}(h:∀l,o=.A l→Iv (f l) σ G):Iv ((eN o).a f) σ G:=by
 induction o using AO.casesOn with
 |A l=>exact h l QJ
 |_=>exact Iv.f
theorem Iv.k{o:AO}{f:QI (RW×PV)→M α}(h:∀l,o=.B l→Iv (f l) σ G):Iv ((iC o).a f) σ G:=by
 induction o using AO.casesOn with
 |B l=>exact h l QJ
 |_=>exact Iv.f
end
def de(prog:RP)(w:Sn)(h:RI)(ads:aH)(n j:QN)(I:RK)(fp:QI RK):aG→Prop
 | .A l=>fp=[I]∧n=l.length∧((∃t e,h.IsTupleIter I t j∧qbq h t (VX e)∧aA h ads l e∧l.length≤aR)∨
   ∃a b c,l=gn a b c∧n=cF a b c∧IsRangeIter h I (a+c*(j:RW)) ((n:RW)-(j:RW)) c)
 | .D i=>fp=[I]∧∃p:RK×RK,ads[i]?=QG p∧h.IsListIter I p.1 j
 | .B i=>∃(J:RK) (p:RK×RK) (o:QU),fp=[I,J]∧ads[i]?=QG p∧IsEnum h I J (j:RW) o∧h.IsListIter J p.1 j∧I≠J
 | .C i=>fp=[I]∧∃(f:QN) (p:RK×RK) (v:QI (RW×QU)),ads[i]?=QG p∧h.DictAt (Ub prog w) p.1 v f∧n=v.length∧h.IsKeyIter I p.1 j n f
structure bC(hs h:RI)(ads:aH)(fp:QI RK):Prop where
 OX:∀b∈fp,∃o,h.get? b=QG o
 OV:∀b∈fp,¬bF ads b
 OW:∀b∈fp,hs.get? b=RM
def kC(h:RI)(fp:QI RK):Prop:=∀b∈fp,∀o,h.get? b=QG o→¬fX o
theorem lr{h:RI}{a:RK}{fp:QI RK}{f:Obj}{T:WD}(e:h.get? a=QG f)(c:f.cls=.type T)(k:T≠ "tuple")(l:T≠ "frozenset")(m:T≠ "range")(r:kC h fp):kC h (a::fp):=λb g o i=>
 (mC g).elim (λq=>QS ((q▸e:h.get? b=QG f).symm.trans i)▸nZ c k l m) λg=>r b g o i
theorem mB{h:RI}:kC h []:=λZ b=>nomatch b
section
variable{prog:RP}{w:Sn}{hs h h':RI}{ads ads':aH}{σ σ':af}{A:SY}{E:QU→QZ→Prop}{s:QZ}{d:QN}{src:aG}{n j:QN}{I:RK}{fp fr:QI RK}
theorem de.b(t:de prog w h ads n j I fp src):kC h fp:=by
 induction src using aG.casesOn with
 |A l=>
  (revert t;refine oA λa r=> ?_;subst a;revert r;refine oA λZ h=> ?_)
  exact h.elim (bq λZ Z z Z=>z.elim λZ z=>lr z.1 z.2.1 (by decide) (by decide) (by decide) mB)<|gO λZ U Y O u e=>lr e QJ (by decide) (by decide) (by decide) mB
 |D i=>
  (revert t;refine oA λf g=> ?_;subst f;revert g;refine ym λZ Z Z e c Z=> ?_)
  exact lr e c (by decide) (by decide) (by decide) mB
 |B i=>
  (revert t;refine bc λJ Z Z k m=> ?_;subst k;revert m;refine cY λZ i o Z=> ?_;revert o;refine du λZ e c Z=> ?_)
  exact lr i QJ (by decide) (by decide) (by decide) (lr e c (by decide) (by decide) (by decide) mB)
 |C i=>
  (revert t;refine oA λp q=> ?_;subst p;revert q;refine yo λZ Z Z Z Z Z Z e c Z=> ?_)
  exact lr e c (by decide) (by decide) (by decide) mB
theorem xm{a:RK}{vs:TS QU}(k:bw h ads h' ads')(t:qbq h a vs):qbq h' a vs:=t.imp λZ x=>⟨k.PI _ _ x.1 (x.2.2.elim λn e=>.inl ⟨x.2.1,_,n,e⟩),x.2⟩
theorem de.a(K:de prog w h ads n j I fp src)(k:bw h ads h' ads')(H:∀b∈fp,∀o,h.get? b=QG o→h'.get? b=QG o)
  (P:src.qa=QO→∀b o,bF ads b→h.get? b=QG o→h'.get? b=QG o):de prog w h' ads' n j I fp src:=by
 induction src using aG.casesOn with
 |A l=>
  (revert K;refine oA λf m=> ?_;subst f;revert m;refine oA λL x=> ?_)
  have O:=H I (.head _);exact(aL QJ L (x.imp (dw λt Q i g r R=>(eF t Q (i.at O) (xm k g) (aA.b k _ r) R)) (gO λa b c S T i=>(jm a b c S T (O _ i)))))
 |D i=>
  (revert K;refine oA λq u=> ?_;subst q;revert u;refine ag λp a i=> ?_)
  exact(cE QJ p (lp k.PJ a) (i.at (H I (.head _))))
 |B i=>
  (revert K;refine bc λJ p M v y=> ?_;subst v;revert y;refine cY λa i l U=> ?_)
  exact⟨J,p,M,QJ,lp k.PJ a,H I (.head _) _ i,l.at (H J (.tail _ (.head _))),U⟩
 |C i=>
  (revert K;refine oA λz F=> ?_;subst z;revert F;refine fg λV p N a W L i=> ?_)
  exact⟨QJ,V,p,N,lp k.PJ a,W.at' λo e=>P QJ _ o (ai _ (Rg a) (.inl QJ)) e,L,i.at (H I (.head _))⟩
theorem bC.OY(F:bC hs h ads fp)(S:au fr h ads h' ads'):bC hs h' ads' fp:=
 ⟨λb a=>(F.OX b a).elim λZ e=>S.Pj (F.OV b a) e,λb a=>(F.OX b a).elim λZ e=>S.Pf (F.OV b a) e,F.OW⟩
theorem bC.OZ{p:QI RK}(F:bC hs h ads fp)(f:∀b∈p,b∈fp):bC hs h ads p:=⟨λb a=>F.OX b (f b a),λb a=>F.OV b (f b a),λb a=>F.OW b (f b a)⟩
theorem nM(R:ah prog w hs h ads σ)(F:bC hs h ads fp)(c:kC h fp)(k:∀b o,b∉fp→h.get? b=QG o→h'.get? b=QG o):ah prog w hs h' ads σ∧bw h ads h' ads:=by
 have K:bw h ads h' ads:=⟨UI,λb o e f=>k b o (λq=>c b q o e f) e⟩;exact⟨R.Oj (λb o e=>k b o (λq=>aI ((F.OW b q).symm.trans e)) (R.NX b o e)) K λb o a e=>k b o (λq=>F.OV b q a) e,K⟩
theorem qF(R:ah prog w hs h ads σ)(F:bC hs h ads fp)(f:kC h fp)(k:∀b o,b∉fp→h.get? b=QG o→h'.get? b=QG o)(t:∀b∈fp,∃o,h'.get? b=QG o):
  ah prog w hs h' ads σ∧au fp h ads h' ads∧bw h ads h' ads:=
 let⟨a,K⟩:=nM R F f k
 (aL a ⟨UI,λZ z=>.inl z,λb Z Z c e=>k b _ c e,λb Z g Z=>t b g⟩ K)
theorem ba.i{h:RI}:∀{l:QI (RW×PV)} {kvs:QI (RW×QU)},ba h ads (·=·) l kvs→∀{j:QN} {q:RW×PV},l[j]?=QG q→∃x,kvs[j]?=QG (q.1,x)
 |[],Z,U,Y,O,e=>aI e
 |Z::U,Y,z,0,O,e=>by revert z;refine gO λk v Z a b Z=>⟨v,?_⟩;subst a;exact RH QG (Yy ((RH qav (QS e)).symm.trans b).symm QJ)
 |Z::U,Y,z,O+1,f,e=>by revert z;exact fg λZ Z Z a Z Z c=>a▸ba.i c e
theorem JI{e:QI VP}{kvs:QI (RW×QU)}(p:Pairs (Ub prog w) e kvs):∀{v:QI (RW×QU)},Pairs (Ub prog w) e v→kvs=v:=by
 induction p with
 |nil=>intro Z q;cases q;rfl
 |@cons Z k U Y a b c i=>
  intro Z q
  cases q with
  |@cons Z f U Y g l m=>rw[i m,show k=f from Yy ((Ub prog w).inj _ _ _ a g) (b.symm.trans l)]
theorem DA{p:RK}{kvs v:QI (RW×QU)}{c:QN}(a:h.DictAt (Ub prog w) p kvs c)(b:h.DictOf (Ub prog w) p v):kvs=v:=by
 (revert a;refine mq λo t f Z g u i x=> ?_)
 (revert b;refine kZ λy k l m Z q z r B=> ?_)
 obtain rfl:=QS (f.symm.trans m)
 (refine oA (λe Z=> ?_) (Data.dict.inj (g.symm.trans q));subst e)
 exact JI i r
theorem od{t:RX}{I:RK}{v:QU}{o:Obj}{T:WD}{Q:UE→QZ→Prop}(g:s.heap.get? I=QG o)(c:o.cls=.type T)(f:(["enumerate","zip","dict_itemiterator","dict_reverseitemiterator","odict_iterator","itertools.zip_longest","itertools.pairwise"].contains T)=QR)
  (h:Q () s):Rh (Rf prog w) A (TV t (.ref I) v) Q E s:=by
 have y:∀{r:QU},Rh (Rf prog w) A (TV t (.ref I) r) Q E s:=λ{r}=>by
  have p:Rh (Rf prog w) A (TV (.Tuple [] 0 qcE) (.ref I) r) Q E s:=by
   induction r using YF with
   |ref a=>
    refine QH (wpAny_load g ?_);rw[c]
    induction i:o.data using Yp<;>first|exact QT h|(dsimp only;rw[f,qdH,SK UU];exact QT h)
   |_=>exact QT h
  have b:TV t (.ref I) r=TV (.Tuple [] 0 qcE) (.ref I) r∨TV t (.ref I) r=UK ():=by
   induction t using SU with
   |Tuple Z U Y=>exact .inl QJ
   |List Z U=>exact .inl QJ
   |_=>exact .inr QJ
  exact b.elim (λe=>e▸p) λe=>e▸QT h
 exact y
theorem Gq{x:RX}(h:fR x=QO):∃a b c,x=.Tuple a b c:=Wf (motive_1:=λx=>∃a b c,x=.Tuple a b c) x (SN h) λa b c=>⟨a,b,c,QJ⟩
noncomputable def iL(s:aG):Bool:=match s with
 | .B Z=>QO
 |_=>QR
structure eV(prog:RP)(w:Sn)(hs h:RI)(ads:aH)(σ:af)(src:aG)(n j:QN)(I:RK)(fp:QI RK)(x:PV)(v:QU)(h':RI):Prop where
 R:ah prog w hs h' ads σ
 S:au fp h ads h' ads
 K:bw h ads h' ads
 it:de prog w h' ads n (j+1) I fp src
 r:av h' ads x v
 PH:src.qa=QO→∀b o,b∉fp→h.get? b=QG o→h'.get? b=QG o
theorem HP{x:PV}{tg:RX}{Q:QU→QZ→Prop}{S:Rz QU→QZ→Prop}(e:jr src n j σ=QG (x,σ'))(hj:j<n)(a9:iL src=QO→fR tg=QO)(R:ah prog w hs s.heap ads σ)(it:de prog w s.heap ads n j I fp src)(F:bC hs s.heap ads fp)
  (hS:∀v s',Rh (Rf prog w) A (TV tg (.ref I) v) (λZ s₂=>Q v s₂) E s'→S (QG v) s')
  (H:σ'=σ→∀v h' tk,eV prog w hs s.heap ads σ src n j I fp x v h'→Q v {s with heap:=h',toks:=tk}):Rh (Rf prog w) A (ZR (.ref I)) S E s:=by
 have sf:=it.b
 have z:∀{h':RI},Su I s.heap h'→fp=[I]→(∃o,h'.get? I=QG o)→ah prog w hs h' ads σ∧au fp s.heap ads h' ads∧bw s.heap ads h' ads:=λ{h'} K m hI=>
  qF R F sf (λb o M e=>(K.2 b λq=>M (m▸q▸.head _)).trans e) λb M=>m1 (m▸M)▸hI
 have b0:∀{h':RI},Su I s.heap h'→fp=[I]→∀b o,b∉fp→s.heap.get? b=QG o→h'.get? b=QG o:=λK m b o M e=>(K.2 b λq=>M (m▸q▸.head _)).trans e;revert e
 suffices Iv (jr src n j) σ λa σ'=>(σ'=σ→∀v h' tk,eV prog w hs s.heap ads σ src n j I fp a v h'→Q v {s with heap:=h',toks:=tk})→Rh (Rf prog w) A (ZR (.ref I)) S E s from λe=>this x σ' e H
 clear H
 induction src using aG.casesOn with
 |A l=>
  (revert it;refine bk λm hn x=> ?_)
  refine Iv.i λx X=> ?_;intro H;rcases‹_∨_›with⟨t,vs,O,ht,rv,N⟩|⟨a,b,c,b1,b2,O⟩
  ·refine ag (λv hv rx=> ?_) (rv.d X)
   refine wpAny_pyNext_tuple_item O ht (by simpa using hv) λh' r K=> ?_;refine du (λoI Y cI Z=> ?_) (id r);refine bk (λP U L=> ?_) (z K m ⟨_,Y⟩);exact hS _ _ (od (T:="tuple_iterator") Y cI (by decide) (H QJ v h' _ ⟨P,U,L,(aL m hn (.inl (eF t vs r (xm L ht) (aA.b L _ rv) N))),av.a L _ rx,λq=>aD q⟩))
  ·subst b1
   (refine oA (λb8 a2=> ?_) (zt X);subst a2)
   refine wpAny_pyNext_range_item O (by simp_all) λh' r K=> ?_;refine bk (λP U L=> ?_) (z K m ⟨_,r⟩);have e2:a+c*(j:RW)+c=a+c*((j+1:QN):RW):=by rw[qdF,Int.mul_add];simp[qdY]
   have e3:(n:RW)-(j:RW)-1=(n:RW)-((j+1:QN):RW):=by(simp+arith)
   rw[e2,e3] at r;exact hS _ _ (od (T:="range_iterator") r QJ (by decide) (H QJ _ h' _ ⟨P,U,L,(aL m hn (.inr (jm a b c QJ b2 r))),⟨_,QJ⟩,λq=>aD q⟩))
 |D i=>
  (revert it;refine cc λm p V O=> ?_)
  dsimp only[jr];refine Iv.b λo ho=>Iv.g λl N=>Iv.c λZ=>Iv.i λx X=> ?_;intro H;subst N;refine cj (λZ vs g rv N=> ?_) (R.NW i p _ V ho);refine ag (λv hv rx=> ?_) (rv.d X);refine qck O g.isList (by simpa using hv) λh' r K=> ?_;refine du (λoI Y cI Z=> ?_) (id r);refine bk (λP U L=> ?_) (z K m ⟨_,Y⟩);exact hS _ _ (od (T:="list_iterator") Y cI (by decide) (H QJ v h' _ ⟨P,U,L,(cE m p V r),av.a L _ rx,λq=>aD q⟩))
 |B i=>
  (revert it;refine rR λJ p b9 m V he O ne=> ?_)
  dsimp only[jr];refine Iv.b λo ho=>Iv.g λl N=>Iv.c λZ=>Iv.i λx X=> ?_;intro H;subst N
  (refine ag (λy hy a3=> ?_) (mS X);subst a3)
  refine cj (λZ vs g rv N=> ?_) (R.NW i p _ V ho);refine ag (λv hv rx=> ?_) (rv.d hy);refine wpAny_pyNext_enum_item he O g.isList (by simpa using hv) ne λh' b3 r ht hz hk=>hS _ _ ?_
  (refine IF (λb7 x1 pos a4=> ?_) (Gq (a9 QJ));subst a4)
  refine wpAny_letOwnedTupleGo_enum b3 λW a0 K=> ?_;have a1:W.IsListIter J p.1 (j+1):=r.at λo e=>(K.2 _ (Vi ne)).trans e;have b4:∀b o,b∉fp→s.heap.get? b=QG o→W.get? b=QG o:=λb o M e=>(K.2 b λq=>M (m▸q▸.head _)).trans (hk b o (λq=>M (m▸q▸.head _)) (λq=>M (m▸q▸.tail _ (.head _))) e);refine ag (λoJ gJ Z=> ?_) (id a1)
  refine bk (λP U L=> ?_) (qF R F sf b4 λb M=>by
   rcases mC (m▸M:b∈[I,J]) with rfl|q
   ·exact⟨_,a0⟩
   ·rw[m1 q];exact⟨_,gJ⟩)
  have hI:s.heap.objs.size≠I:=Vi (Tj (SS he));have a7:W.get? s.heap.objs.size=QG {cls:=qbJ "tuple",data:=Data.seq #[VR (j:RW) s.toks,v]}:=(K.2 _ hI).trans ht;exact H QJ _ W _ ⟨P,U,L,⟨J,p,_,m,V,by simpa using a0,a1,ne⟩,(jn _ _ ([VR (j:RW) s.toks,v]) _ QJ a7 QJ QJ (cX _ _ QJ ⟨_,QJ⟩ (aA.f (av.a L _ rx))) (show 2≤4096 by decide)),λq=>aD q⟩
 |C i=>
  (revert it;refine rP λm ep p b5 V hd hn O=> ?_)
  dsimp only[jr];refine Iv.b λo ho=>Iv.k λl N=>Iv.c λZ=>Iv.i λx X=> ?_;intro H;subst N
  (refine ag (λq hq a5=> ?_) (mS X);subst a5)
  refine cj (λZ ks g rk N=> ?_) (R.NW i p _ V ho);obtain rfl:=DA hd g;refine oE (λu hu=> ?_) (rk.i hq);subst hn;refine wpAny_pyNext_dict_item (knd:=Ub prog w) O hd hu λc0 h' a8 r K=> ?_;refine du (λoI Y cI Z=> ?_) (id r);refine bk (λP U L=> ?_) (z K m ⟨_,Y⟩)
  (refine oE (λt a6=> ?_) (qbY a8);subst a6)
  have b6:p.1≠I:=λq=>F.OV I (m▸.head _) (ai p (Rg V) (.inl q.symm));exact hS _ _ (od (T:="dict_keyiterator") Y cI (by decide) (H QJ _ h' _ ⟨P,U,L,⟨m,ep,p,b5,V,hd.at' λo e=>(K.2 _ b6).trans e,QJ,r⟩,⟨t,QJ⟩,λZ=>b0 K m⟩))
theorem qp{vs:QI QU}{n:QN}(h:vs.length=n):vs.toArray[n]?=none:=by rw[Yq];exact TZ (Sx h)
theorem xM{Q:Rz QU→QZ→Prop}{u:UE}(hm:A.handled=RM)(e:kr src n σ=QG (u,σ'))(R:ah prog w hs s.heap ads σ)(z:de prog w s.heap ads n n I fp src)(F:bC hs s.heap ads fp)
  (H:∀h' tk,σ'=σ→ah prog w hs h' ads σ→bw s.heap ads h' ads→(∀b o,b∉fp→s.heap.get? b=QG o→h'.get? b=QG o)→Q RM {s with heap:=h',toks:=tk}):Rh (Rf prog w) A (ZR (.ref I)) Q E s:=by
 have U:=z.b;have O:∀{h':RI} {tk:QN},σ'=σ→(∀b o,b∉fp→s.heap.get? b=QG o→h'.get? b=QG o)→Q RM {s with heap:=h',toks:=tk}:=λ{h' tk} P S=>H h' tk P (nM R F U S).1 (nM R F U S).2 S;have L:∀{h':RI},fp=[I]→(∀b o,b≠I→s.heap.get? b=QG o→h'.get? b=QG o)→∀b o,b∉fp→s.heap.get? b=QG o→h'.get? b=QG o:=λf m b o v e=>m b o (λq=>v (f▸q▸.head _)) e;revert e
 suffices Iv (kr src n) σ λZ σ'=>(∀{h':RI} {tk:QN},σ'=σ→(∀b o,b∉fp→s.heap.get? b=QG o→h'.get? b=QG o)→Q RM {s with heap:=h',toks:=tk})→Rh (Rf prog w) A (ZR (.ref I)) Q E s from λe=>this u σ' e O
 induction src using aG.casesOn with
 |A l=>
  (revert z;refine bk λf T x=> ?_)
  refine Iv.a ?_;intro H;rcases‹_∨_›with⟨t,V,r,W,K,y⟩|⟨a,b,c,X,Y,r⟩
  ·exact wpAny_pyNext_tuple_end hm r W (qp (K.a.trans T.symm)) λh' m=>H QJ (L f m)
  ·exact wpAny_pyNext_range_end hm r (by simp) λh' m=>H QJ (L f m)
 |D i=>
  (revert z;refine cc λf p M r=> ?_)
  dsimp only[kr];refine Iv.b λo N=>Iv.g λl y=>Iv.c λv=>Iv.a ?_;intro H;subst y;refine cj (λZ V g K y=> ?_) (R.NW i p _ M N);exact qcG hm r g.isList (qp (K.a.trans (SN v))) λh' m=>H QJ (L f m)
 |B i=>
  (revert z;refine rR λJ p a0 f M he r ne=> ?_)
  dsimp only[kr];refine Iv.b λo N=>Iv.g λl y=>Iv.c λv=>Iv.a ?_;intro H;subst y;refine cj (λZ V g K y=> ?_) (R.NW i p _ M N);exact wpAny_pyNext_enum_end hm he r g.isList (qp (K.a.trans (SN v))) λh' m=>H QJ λb o v e=>m b o (λq=>v (f▸q▸.tail _ (.head _))) e
 |C i=>
  (revert z;refine rP λf ep p a1 M hd T r=> ?_)
  dsimp only[kr];refine Iv.b λo N=>Iv.k λl y=>Iv.c λv=>Iv.a ?_;intro H;subst T;exact wpAny_pyNext_dict_end hm r hd (TZ (Sd _)) λh' m=>H QJ (L f m)
end
section
variable{prog:RP}{w:Sn}{A:SY}{E:QU→QZ→Prop}{s:QZ}
theorem vH{e t:RK}{m:TS QU}(f:t≠e):∀(n i:QN) (s:QZ) (Q:QI QU→QZ→Prop),s.heap.IsListIter e t i→s.heap.IsList t m→i+n≤m.size→
  (∀k,k.IsListIter e t (i+n)→Su e s.heap k→Q ((m.toList.drop i).take n) {s with heap:=k})→Rh (Rf prog w) A (draw (.ref e) n) Q E s
 |0,i,s,Q,c,Z,U,o=>QT (o s.heap c (Uh ..))
 |n+1,i,s,Q,c,p,l,o=>by
  have g:i<m.size:=Rj (Tc (Th n)) l;refine QH (qck c p (Xn g) λq a h=> ?_);refine QH (RA (vH f n (i+1) _ _ a (p.extBut h.extBut f) (QK (Sx (RO _ _ _)) l) λj b d=>QT ?_));have r:m.toList.drop i=m[i]::m.toList.drop (i+1):=by simp[Xp,g]
  have:=o j (by rw[show i+(n+1)=i+1+n by(simp+arith)];exact b) (h.trans d);rw[r,List.take_succ_cons] at this;exact this
theorem Mm{t:RK}{m:TS QU}{Q:QI QU→QZ→Prop}(k:A.handled=RM)(c:s.heap.IsList t m)
  (n:∀f,qed s.heap.objs.size s.heap f→Q m.toList {s with heap:=f}):Rh (Rf prog w) A (qaM (.ref t) m.size RM) Q E s:=by
 have l:t≠s.heap.objs.size:=c.elim λo p=>Tj (SS p.1);refine QH (QH (qaV c.typeIs PySem.F.slot_list_iter.lookup (QT ?_)));refine QH (RA (qai c ?_));refine QH (RA (vH l m.size 0 _ _ (bz _ (RY _ QJ) QJ QJ) (c.push _) (by simp) λg i h=> ?_));rw[List.drop_zero,XT (by simp),SK (by simp)];exact QH (RA (qcG k i ((c.push _).extBut h.extBut l) (by simp) λd a=>QT (n d λb o j e=>a b o j (h.extBut b o j (Rw _ e)))))
end
noncomputable def hZ(e:bD)(ts:QI QN)(a:QI RX):Bool:=SW ts.length a.length&&(ts.zip a).all λp=>iw (λx Z=>et p.1 x&&fQ (e.lookup x)) p.2
theorem qd{e:bD}{a:QI RX}(h:hZ e [] a=QO):a=[]:=Ui.mp (SN (aT h).1).symm
theorem nj{m:bD}{c:QN}{ts:QI QN}{b:QI RX}(h:hZ m (c::ts) b=QO):∃x pos d,b=.Name x pos::d∧bj c=QG x∧fQ (m.lookup x)=QO∧hZ m ts d=true:=by
 induction b using Rm with
 |nil=>exact aD ((aT h).1)
 |cons e b=>
  refine have h:=aT h;?_;refine have f:=aT (Ww▸h.2);?_
  (refine bq (λx pos a k=> ?_) (kA f.1);subst a)
  refine have k:=aT k;?_;exact(er x pos b QJ (eT k.1) k.2 (Sv.mpr ⟨h.1,f.2⟩))
theorem uZ{e:bD}{ts:QI QN}{t:RX}(h:fL e ts t=QO):(∃c x pos,ts=[c]∧t=.Name x pos∧bj c=QG x∧fQ (e.lookup x)=QO)∨∃g k pos,t=.Tuple g k pos∧1<ts.length∧hZ e ts g=true:=by
 unfold fL at h
 induction i:SW ts.length 1 using QL with
 |true=>
  rw[i] at h
  (refine bq (λx pos a k=> ?_) (kA h);subst a)
  refine have k:=aT k;?_
  (refine ag (λc b f=> ?_) (hY k.1);subst b)
  exact .inl (er c x pos QJ QJ (eT f) k.2)
 |false=>
  rw[i] at h
  (refine bc (λg k pos d f=> ?_) (uc h);subst d)
  refine have f:=aT f;?_;refine have j:=aT f.1;?_;exact .inr (jm g k pos QJ (lB j.1) (Sv.mpr ⟨j.2,f.2⟩))
structure bh(prog:RP)(w:Sn)(hs:RI)(fr:QI RK)(h:RI)(ads:aH)(σ:af)(env:Wq)(ρ:ay)(h':RI):Prop where
 R:ah prog w hs h' ads σ
 ER:aw hs h' ads env ρ
 S:au fr h ads h' ads
 K:bw h ads h' ads
 ON:∀b o,b∉fr→h.get? b=QG o→h'.get? b=QG o
section
variable{prog:RP}{w:Sn}{hs:RI}{ads:aH}{σ σ':af}{A:SY}{E:QU→QZ→Prop}{s:QZ}{pv:PV}{env:Wq}{ρ:ay}{fr:QI RK}
theorem bh.OP{h:RI}(R:ah prog w hs h ads σ)(ER:aw hs h ads env ρ):bh prog w hs fr h ads σ env ρ h:=⟨R,ER,au.Pg _ _ _,(aP.MS h ads).MN,λZ Z Z e=>e⟩
theorem bw.PK{h c g:RI}{ads d b:aH}(x:bw h ads c d)(y:bw c d g b):bw h ads g b:=⟨x.PJ.trans y.PJ,λa o e f=>y.PI a o (x.PI a o e f) f⟩
theorem bh.OQ{h c d:RI}{f a:ay}(x:bh prog w hs fr h ads σ env f c)(y:bh prog w hs fr c ads σ env a d):bh prog w hs fr h ads σ env a d:=
 ⟨y.R,y.ER,x.S.Pb y.S,x.K.PK y.K,λb o g e=>y.ON b o g (x.ON b o g e)⟩
theorem bh.OO{h a c:RI}(k:∀b o,h.get? b=QG o→a.get? b=QG o)(y:bh prog w hs fr a ads σ env ρ c):bh prog w hs fr h ads σ env ρ c:=
 ⟨y.R,y.ER,((aP.MM ads k).MP fr).Pb y.S,(aP.MM ads k).MN.PK y.K,λb o d e=>y.ON b o d (k b o e)⟩
theorem tL{v:QU}{l:QI PV}{Q:QI QU→QZ→Prop}(hm:A.handled=RM)(R:ah prog w hs s.heap ads σ)(r:av s.heap ads pv v)
  (e:fV pv σ=QG (l,σ')) (H:∀vs h,σ'=σ→(∀b o,s.heap.get? b=QG o→h.get? b=QG o)→aA h ads l vs→Q vs {s with heap:=h}):Rh (Rf prog w) A (qaM v l.length RM) Q E s:=by
 refine have G:∀{h:RI},qed s.heap.objs.size s.heap h→∀b o,s.heap.get? b=QG o→h.get? b=QG o:=λd b o e=>d b o (Tj (SS e)) e;?_
 induction pv using PV.casesOn with
 |F I=>
  (refine oA (λj k=> ?_) (sP e);subst j;revert k;intro m;subst m)
  (revert r;refine cv λa o vs n q t=> ?_;subst q;revert t;refine eu λg c y x z=> ?_)
  rw[←x.a,show vs.length=vs.toArray.size from QJ];exact wpAny_unpackItems_tuple hm (gF o g c n y) λh d=>H vs h QJ (G d) (aA.b (aP.MM ads (G d)).MN _ x)
 |B i=>
  (revert r;refine ag λp C u=> ?_;subst u)
  revert e
  suffices Iv (bZ (.B i)) σ λl σ'=>(∀vs h,σ'=σ→(∀b o,s.heap.get? b=QG o→h.get? b=QG o)→aA h ads l vs→Q vs {s with heap:=h})→Rh (Rf prog w) A (qaM (.ref p.1) l.length RM) Q E s from λe=>this l σ' e H
  refine Iv.b λo D=> ?_
  induction o using AO.casesOn with
  |A l=>
   refine Iv.a λH=> ?_;refine cj (λZ vs g x z=> ?_) (R.NW i p _ C D);rw[←x.a,show vs.length=vs.toArray.size from QJ];exact Mm hm g.isList λh d=>H vs h QJ (G d) (aA.b (aP.MM ads (G d)).MN _ x)
  |_=>exact Iv.f
 |_=>exact aI e
def lI(env:Wq)(fr:QI RK)(ts:QI QN):Prop:=∀c∈ts,∀x,bj c=QG x→oU env x fr
theorem mY{c:QN}{x:Ux}{v:QU}{Q:UE→QZ→Prop}(b:bj c=QG x)(t:tA env.scope.names env.cells x)(r:oU env x fr)(R:ah prog w hs s.heap ads σ)(ER:aw hs s.heap ads env ρ)(d:av s.heap ads pv v)
  (h:∀a tk,bh prog w hs fr s.heap ads σ env ((c,pv)::ρ) a→Q () {s with heap:=a,toks:=tk}):Rh (Rf prog w) A (Yt env x v) Q E s:=by
 exact QH (RA (qcT (QH (Lp b t r R ER d λa tk e f S K k=>qcT (h a tk ⟨e,f,S,K,k⟩)))))
theorem pY{m:bD}(N:cO m env):∀{ts:QI QN} {d:QI RX} {vs:QI QU} {l:QI PV} {ρ:ay} {s:QZ} {Q:UE→QZ→Prop},hZ m ts d=QO→lI env fr ts→ah prog w hs s.heap ads σ→aw hs s.heap ads env ρ→aA s.heap ads l vs→l.length=ts.length→
  (∀n tk,bh prog w hs fr s.heap ads σ env ((ts.zip l).reverse++ρ) n→Q () {s with heap:=n,toks:=tk})→
  Rh (Rf prog w) A (XY ((Wc d env).map (·.2)) vs) Q E s
 |[],d,vs,l,ρ,s,Q,k,Z,R,i,o,h,H=>by
  obtain rfl:=qd k;obtain rfl:=Ui.mp h;obtain rfl:vs=[]:=o;exact QT (H s.heap s.toks (bh.OP R i))
 |c::ts,d,vs,[],ρ,s,Q,k,P,R,i,o,h,H=>nomatch h
 |c::ts,d,vs,pv::l,ρ,s,Q,k,P,R,i,q,h,H=>by
  revert q;refine cm λv g e u y=> ?_;subst e
  (refine bc (λx pos d f r=> ?_) (nj k);subst f;revert r;refine bk λp B j=> ?_)
  show Rh _ A (do Xr g (XC (.Name x pos) env v);XY ((Wc d env).map (·.2)) g) Q E s;refine QH (RA (show Rh _ A (do Zr pos;Yt env x v) _ E s from QH (Sj (mY p (N.a B) (P c (.head _) x p) R i u λI C T=> ?_))));refine pY N j (λz D=>P z (.tail _ D)) T.R T.ER (aA.b T.K _ y) (Ve h) λF t G=>H F t ?_;rw[qcc,UH,Rq];exact T.OQ G
theorem qc{m:bD}:∀{ts:QI QN} {e:QI RX},hZ m ts e=QO→(Wc e env).length=ts.length∧(Wc e env).findIdx? (·.1)=RM
 |[],e,h=>by obtain rfl:=qd h;exact⟨QJ,QJ⟩
 |c::ts,e,h=>by
  (refine bc (λx pos e a r=> ?_) (nj h);subst a;revert r;refine bk λZ Z h=> ?_)
  refine oA (λb d=> ?_) (qc h);rw[show Wc (.Name x pos::e) env=(QR,XC (.Name x pos) env)::Wc e env from QJ];exact⟨RH (·+1) b,by rw[List.findIdx?_cons];simp[d]⟩
theorem Bc{m:bD}{ts:QI QN}{B:RX}{v:QU}{d:ay}{Q:UE→QZ→Prop}(N:cO m env)(hm:A.handled=RM)(n:fL m ts B=QO)(P:lI env fr ts)(e:bL ts pv ρ σ=QG (d,σ'))(R:ah prog w hs s.heap ads σ)(ER:aw hs s.heap ads env ρ)(C:av s.heap ads pv v)
  (H:∀h tk,σ'=σ→bh prog w hs fr s.heap ads σ env d h→Q () {s with heap:=h,toks:=tk}):Rh (Rf prog w) A (XC B env v) Q E s:=by
 rcases uZ n with⟨c,x,pos,rfl,rfl,D,G⟩|⟨F,k,pos,rfl,f,n⟩
 ·(refine oA (λg i=> ?_) (sP e);subst g;revert i;intro j;subst j)
  show Rh _ A (do Zr pos;Yt env x v) _ E s;exact QH (Sj (mY D (N.a G) (P c (.head _) x D) R ER C λh tk T=>H h tk QJ T))
 ·induction ts using Rm with
  |nil=>exact Ro f (by decide)
  |cons t r=>
   induction r using Rm with
   |nil=>exact Ro f (Ts _)
   |cons o r=>
    refine ag (λp I q=> ?_) (bS (show((fV pv).a λl=>M.c (SW l.length (t::o::r).length) (.b (((t::o::r).zip l).reverse++ρ))) σ=_ from e));revert q
    suffices Iv (M.c (SW p.1.length (t::o::r).length) (.b (((t::o::r).zip p.1).reverse++ρ))) p.2 λd σ'=>(∀h tk,σ'=σ→bh prog w hs fr s.heap ads σ env d h→Q () {s with heap:=h,toks:=tk})→Rh (Rf prog w) A (XC (.Tuple F k pos) env v) Q E s from λq=>this d σ' q H
    refine Iv.c λf=>Iv.a ?_;intro H;have f:=SN f;refine oA (λJ K=> ?_) (qc (env:=env) n);show Rh _ A (do Zr pos;unpack v (Wc F env)) _ E s;refine QH (Sj ?_);unfold unpack;rw[K,J,←f];exact QH (RA (tL hm R C I λS U u y L=>pY N n P (R.NZ y) (ER.Ox y) L f λO z T=>H O z u (T.OO y)))
end
noncomputable def ig(ts:QI QN)(ρ:ay):ay:=ρ.filter λq=> !ts.contains q.1
theorem il{B:Type}{c k:QN}{v:B}{l:QI (QN×B)}:(c=k∧((k,v)::l).lookup c=QG v)∨(c≠k∧((k,v)::l).lookup c=l.lookup c):=by
 rw[Tn]
 induction h:c==k using QL with
 |true=>exact .inl ⟨Sk.mp h,QJ⟩
 |false=>exact .inr ⟨Tp.mp h,QJ⟩
theorem kT(ts:QI QN)(c:QN):∀ρ:ay,(c∈ts→(ig ts ρ).lookup c=RM)∧(c∉ts→(ig ts ρ).lookup c=ρ.lookup c)
 |[]=>⟨λZ=>QJ,λZ=>QJ⟩
 |(k,v)::ρ=>by
  have i:=kT ts c ρ;unfold ig at i⊢;rw[TU]
  induction b:ts.contains k using QL with
  |true=>
   refine⟨i.1,λa=>(i.2 a).trans ?_⟩;exact(il).elim (λz=>Ro (z.1▸qbv.mp b) a) λz=>z.2.symm
  |false=>
   have e:c∈ts→c≠k:=λa q=>by rw[←q,qbv.mpr a] at b;cases b
   refine⟨λa=>(il).elim (λz=>Ro z.1 (e a)) λz=>z.2.trans (i.1 a),λa=> ?_⟩
   (refine oO (λz=> ?_) (λz=> ?_) (il (c:=c) (k:=k) (v:=v) (l:=ρ)))
   ·exact(il).elim (λy=>y.2.trans z.2.symm) λy=>Ro z.1 y.1
   ·exact(il).elim (λy=>Ro y.1 z.1) λy=>y.2.trans ((i.2 a).trans z.2.symm)
theorem jt{B:Type}(c:QN)(b:QI (QN×B)):∀a:QI (QN×B),((∃q∈a,q.1=c)→(a++b).lookup c=a.lookup c∧(a.lookup c).isSome=QO)∧((∀q∈a,q.1≠c)→(a++b).lookup c=b.lookup c)
 |[]=>⟨ag λZ h Z=>(nomatch h),λZ=>QJ⟩
 |(k,v)::a=>by
  have i:=jt c b a;rw[XI]
  (refine oO (λz=> ?_) (λz=> ?_) (il (c:=c) (k:=k) (v:=v) (l:=a++b)))
  ·refine⟨λZ=> ?_,λh=>Ro z.1.symm (h _ (.head _))⟩
   exact(il).elim (λy=>⟨z.2.trans y.2.symm,y.2▸QJ⟩) λy=>Ro z.1 y.1
  ·refine⟨ag λq d e=> ?_,λh=>z.2.trans (i.2 λq d=>h q (.tail _ d))⟩
   have d:q∈a:=(mC d).elim (λr=>Ro (r▸e).symm z.1) id;exact(il).elim (λy=>Ro y.1 z.1) λy=>⟨z.2.trans ((i.1 (ai q d e)).1.trans y.2.symm),y.2.symm▸(i.1 (ai q d e)).2⟩
theorem Mp{ts:QI QN}{x:PV}{ρ f:ay}{σ σ':af}(e:bL ts x ρ σ=QG (f,σ')):∃z:QI (QN×PV),(∀q∈z,q.1∈ts)∧(∀c∈ts,∃q∈z,q.1=c)∧f=z++ρ∧∀d,bL ts x d σ=QG (z++d,σ'):=by
 induction ts using Rm with
 |nil=>exact aI e
 |cons t r=>
  induction r using Rm with
  |nil=>
   (refine oA (λg j=> ?_) (sP e);subst g;revert j;intro k;subst k)
   exact(fO ([(t,x)]) (λq v=>m1 v▸.head _) (λc y=>(ai _ (.head _) ((m1 y).symm))) QJ λd=>QJ)
  |cons u r=>
   refine ag (λp C D=> ?_) (bS (show((fV x).a λl=>M.c (SW l.length (t::u::r).length) (.b (((t::u::r).zip l).reverse++ρ))) σ=_ from e))
   have s:SW p.1.length (t::u::r).length=true:=by
    exact Iv.c (λh Z Z Z=>h) f σ' D
   have A:∀d:ay,bL (t::u::r) x d σ=QG (((t::u::r).zip p.1).reverse++d,p.2):=λd=>by
    refine UG.mpr (ai p C ?_);show M.c (SW p.1.length (t::u::r).length) (M.b (((t::u::r).zip p.1).reverse++d)) p.2=_;rw[s]
    rfl
   have s:=SN s
   (refine oA (λm n=> ?_) (Tw (QS ((A ρ).symm.trans e)));subst m;revert n;intro o;subst o)
   refine(fO _ (λq v=>(qag (Vg.mp v)).1) (λc y=> ?_) QJ A);obtain⟨i,B,rfl⟩:=qbT y;refine(ai ((t::u::r)[i],p.1[i]'(s▸B)) (Vg.mpr ?_) QJ);exact(List.getElem_zip (h:=by rw[qdt,s,Nat.min_self];exact B):((t::u::r).zip p.1)[i]'_=_)▸UP _
theorem Mn{ts:QI QN}{x:PV}{ρ ρ':ay}{σ σ':af}(e:bL ts x ρ σ=QG (ρ',σ')):∃ρ₁,bL ts x (ig ts ρ) σ=QG (ρ₁,σ')∧∀{hs h:RI} {ads:aH} {env:Wq},(aw hs h ads env ρ₁→aw hs h ads env ρ')∧(aw hs h ads env ρ'→aw hs h ads env (ig ts ρ)):=by
 (refine jv (λz h1 h2 e_168 h3=> ?_) (Mp e);subst e_168)
 refine⟨z++ig ts ρ,h3 _,λE=>E.OF λc pv hc=> ?_,λE=>E.OF λc pv hc=> ?_⟩
 ·by_cases hm:c∈ts
  ·rw[((jt c _ z).1 (h2 c hm)).1] at hc⊢
   exact hc
  ·have hz:∀q∈z,q.1≠c:=λq hq e=>hm (e▸h1 q hq)
   rw[(jt c _ z).2 hz] at hc⊢;rw[(kT ts c ρ).2 hm];exact hc
 ·by_cases hm:c∈ts
  ·rw[(kT ts c ρ).1 hm] at hc;exact aI hc
  ·rw[(kT ts c ρ).2 hm] at hc
   rw[(jt c _ z).2 λq hq e=>hm (e▸h1 q hq)];exact hc
noncomputable def fM(cells:QI (Ux×RK)):bD→QI (Ux×RK)→QI (Ux×RK)
 |[],c=>c
 |p::r,c=>Sr (p.2==VF) (fM cells r ((p.1,(cells.lookup p.1).getD 0)::c)) (fM cells r c)
set_option autoImplicit true in
theorem qf:fM cells (p::r) acc=Sr (p.2==VF) (fM cells r ((p.1,(cells.lookup p.1).getD 0)::acc)) (fM cells r acc):=QJ
theorem Df{scope:Xo}{env:Wq}(h:∀q∈scope.names,q.2=.free→∃a,env.cells.lookup q.1=QG a):closureFor scope env=UK (fM env.cells scope.names []):=by
 have key:∀(l:bD) (acc:QI (Ux×RK)),(∀q∈l,q.2=.free→∃a,env.cells.lookup q.1=QG a)→
   (forIn l acc λx __s=>(match x with
    |(name,kind)=>
     if(kind==VF)=QO then do
      let __do_lift←cellOf env name
      UK (TK ((name,__do_lift)::__s))
     else UK (TK __s):Sem (ForInStep (List (Str×Addr)))))=UK (fM env.cells l acc):=by
  intro l
  induction l with
  |nil=>intro acc Z;rfl
  |cons q l ih=>
   intro acc hq;rw[List.forIn_cons];rw[qf]
   induction hk:q.2==VF using QL with
   |true=>
    refine oE (λa ha=> ?_) (hq q (.head _) (Sk.mp hk));have:cellOf env q.1=UK a:=by unfold cellOf;rw[ha]
    dsimp only;rw[SH hk,this,ha];exact ih _ λq hq'=>hq q (.tail _ hq')
   |false=>
    dsimp only;rw[SK (by rw[hk];exact UU)];exact ih _ λq hq'=>hq q (.tail _ hq')
 exact(RH (λm=>m>>=λcs=>UK cs) (key scope.names [] h)).trans QJ
theorem ir{B:Type}{c k:Ux}{v:B}{l:QI (Ux×B)}:(c=k∧((k,v)::l).lookup c=QG v)∨(c≠k∧((k,v)::l).lookup c=l.lookup c):=by
 rw[Tn]
 induction h:c==k using QL with
 |true=>exact .inl ⟨Sk.mp h,QJ⟩
 |false=>exact .inr ⟨Tp.mp h,QJ⟩
theorem nq{cells:QI (Ux×RK)}:∀{l:bD} {acc:QI (Ux×RK)},(∀q∈l,q.2=.free→∃a,cells.lookup q.1=QG a)→∀{x:Ux} {a:RK},(fM cells l acc).lookup x=QG a→acc.lookup x=QG a∨cells.lookup x=QG a
 |[],acc,Z,x,a,h=>.inl h
 |p::l,acc,e,x,a,h=>by
  rw[qf] at h
  induction f:p.2==VF using QL with
  |true=>
   rw[f] at h;refine(nq (λq d=>e q (.tail _ d)) h).elim (λh=> ?_) .inr;refine oE (λb g=> ?_) (e p (.head _) (Sk.mp f))
   (refine oO (λz=> ?_) (λz=> ?_) (ir (c:=x) (k:=p.1) (v:=(cells.lookup p.1).getD 0) (l:=acc)))
   ·rw[z.2,g] at h
    exact .inr (z.1▸g.trans h)
   ·exact .inl (z.2.symm.trans h)
  |false=>rw[f] at h;exact nq (λq d=>e q (.tail _ d)) h
theorem qg{cells:QI (Ux×RK)}:∀{l:bD} {acc:QI (Ux×RK)} {x:Ux},(l.lookup x=QG .free∨(acc.lookup x).isSome=QO)→((fM cells l acc).lookup x).isSome=QO
 |[],acc,x,h=>h.elim (λz=>(aI z)) id
 |p::l,acc,x,h=>by
  have i:∀{acc},(l.lookup x=QG .free∨(acc.lookup x).isSome=QO)→((fM cells l acc).lookup x).isSome=true:=λh=>qg h;rw[qf]
  induction a:p.2==VF using QL with
  |true=>
   refine i (ir.elim (λz=>.inr (z.2▸QJ)) λz=>h.imp (λy=> ?_) λy=>z.2.symm▸y);exact(ir).elim (λy=>Ro y.1 z.1) λu=>u.2.symm.trans y
  |false=>
   refine i (h.imp (λy=> ?_) id)
   (refine oO (λz=> ?_) (λz=> ?_) (ir (c:=x) (k:=p.1) (v:=p.2) (l:=l)))
   ·rw[QS (z.2.symm.trans y)] at a;cases a
   ·exact z.2.symm.trans y
theorem pa{env:Wq}{sc:Xo}{x:Ux}:(∀k,sc.names.lookup x=QG k→(qco sc env).names.lookup x=QG k∨(k=.free∧(qco sc env).names.lookup x=QG .cell))∧
  ∀k,(qco sc env).names.lookup x=QG k→sc.names.lookup x=QG k∨(k=.cell∧sc.names.lookup x=QG .free):=by
 show(∀k,sc.names.lookup x=QG k→(sc.names.map _).lookup x=QG k∨(k=.free∧(sc.names.map _).lookup x=QG VG))∧∀k,(sc.names.map _).lookup x=QG k→_
 induction sc.names with
 |nil=>exact⟨λZ h=>(aI h),λZ h=>aI h⟩
 |cons q l ih=>
  rw[Tq];dsimp only
  by_cases hc:(q.2==.free&&env.scope.kind==.function&&env.kindOf q.1==QG .cell)=QO
  ·rw[SH hc]
   have hf:q.2=.free:=by simp only[Tf,Sk] at hc;exact hc.1.1
   (refine oO (λz=> ?_) (λz=> ?_) (ir (c:=x) (k:=q.1) (v:=q.2) (l:=l)))
   ·have y:=(ir (v:=VG) (l:=l.map λx=>if(x.2==.free&&env.scope.kind==.function&&env.kindOf x.1==QG .cell)=QO then(x.1,.cell) else(x.1,x.2))).elim id λy=>Ro z.1 y.1
    exact⟨λk h=>.inr ⟨(QS (z.2.symm.trans h)).symm.trans hf,y.2⟩,λk h=>.inr ⟨(QS (y.2.symm.trans h)).symm,z.2.trans (RH QG hf)⟩⟩
   ·have y:=(ir (v:=VG) (l:=l.map λx=>if(x.2==.free&&env.scope.kind==.function&&env.kindOf x.1==QG .cell)=QO then(x.1,.cell) else(x.1,x.2))).elim (λy=>Ro y.1 z.1) id
    exact⟨λk h=>(ih.1 k (z.2.symm.trans h)).imp (λu=>y.2.trans u) λu=>⟨u.1,y.2.trans u.2⟩,λk h=>(ih.2 k (y.2.symm.trans h)).imp (λu=>z.2.trans u) λu=>⟨u.1,z.2.trans u.2⟩⟩
  ·rw[SK hc]
   (refine oO (λz=> ?_) (λz=> ?_) (ir (c:=x) (k:=q.1) (v:=q.2) (l:=l)))
   ·have y:=(ir (v:=q.2) (l:=l.map λx=>if(x.2==.free&&env.scope.kind==.function&&env.kindOf x.1==QG .cell)=QO then(x.1,.cell) else(x.1,x.2))).elim id λy=>Ro z.1 y.1
    exact⟨λk h=>.inl (y.2.trans (z.2.symm.trans h)),λk h=>.inl (z.2.trans (y.2.symm.trans h))⟩
   ·have y:=(ir (v:=q.2) (l:=l.map λx=>if(x.2==.free&&env.scope.kind==.function&&env.kindOf x.1==QG .cell)=QO then(x.1,.cell) else(x.1,x.2))).elim (λy=>Ro y.1 z.1) id
    exact⟨λk h=>(ih.1 k (z.2.symm.trans h)).imp (λu=>y.2.trans u) λu=>⟨u.1,y.2.trans u.2⟩,λk h=>(ih.2 k (y.2.symm.trans h)).imp (λu=>z.2.trans u) λu=>⟨u.1,z.2.trans u.2⟩⟩
theorem LM{c:QN}{x:Ux}(a:bj c=QG x):(x==(".0" :Ux))=false:=tG a (by decide+kernel)
noncomputable def eW(sc:Xo)(env:Wq)(L:RK):Env:={newEnv sc L env.globals (fM env.cells sc.names []) env.qual RM .none (QG env) env.builtins with scope:=qco sc env}
structure cH(names:bD)(ts:QI QN)(sc:Xo):Prop where
 Qa:sc.kind=.function
 Qc:∀x,(x,NameKind.local)∈sc.names→sc.names.lookup x=QG .local
 Qb:∀x,(x,VF)∈sc.names→names.lookup x=QG .cell∨names.lookup x=QG .free
 PY:∀x,(x,VG)∉sc.names
 Qd:∀x,(x,NameKind.local)∈sc.names→x=(".0" :Ux)∨∃c∈ts,bj c=QG x
theorem KY{names:bD}{ts:QI QN}{sc:Xo}(b:nk names sc=QO)(g:ni ts sc=QO):cH names ts sc:=by
 have b:=aT b;have f:=SX.mp b.2;refine⟨Rl b.1,λx a=>Sk.mp (f _ a),λx a=> ?_,λx a=>(aD (f _ a)),λx a=> ?_⟩
 ·have k:=aT (f _ a)
  have d:=k.1;have n:names.lookup x≠QG .local:=by simpa using k.2
  induction e:names.lookup x using QQ with
  |none=>rw[e] at d;exact aD d
  |some v=>
   rw[e] at d n
   induction v using Tb with
   |«local»=>exact Ro QJ n
   |cell=>exact .inl QJ
   |free=>exact .inr QJ
   |_=>exact aD d
 ·have k:=SX.mp g _ a
  simp only[UL,XA,Vs,UQ,Sk] at k;exact k.imp id λ⟨c,i,h⟩=>⟨c,i,eT h⟩
section
variable{prog:RP}{w:Sn}{hs:RI}{ads:aH}{σ:af}{names:bD}{ts:QI QN}{sc:Xo}{env:Wq}{L:RK}{ρ:ay}{h h':RI}
theorem cH.PZ(S:cH names ts sc)(N:cO names env):∀q∈sc.names,q.2=.free→∃a,env.cells.lookup q.1=QG a:=λ⟨x,k⟩ b c=>by
 obtain rfl:k=.free:=c;exact(S.Qb x b).elim (λh=>(N x _ h).2) λh=>(N x _ h).2
theorem nu(S:cH names ts sc):cO sc.names (eW sc env L):=λx k a=>by
 have m:=ff a;have r:(eW sc env L).kindOf x=QG k∨(k=.free∧(eW sc env L).kindOf x=QG .cell):=pa.1 k a
 induction k using Tb with
 |«local»=>exact r.elim id λh=>nomatch h.1
 |cell=>exact Ro m (S.PY x)
 |free=>exact⟨r.imp id λh=>h.2,Tx.mp (qg (.inl a))⟩
 |globalImplicit=>exact r.elim id λh=>nomatch h.1
 |globalExplicit=>trivial
theorem Dh{m:Ux→Rz QU}(S:cH names ts sc)(N:cO names env)(ER:aw hs h ads env ρ)(R:ah prog w hs h ads σ)
  (C:∀b o,h.get? b=QG o→h'.get? b=QG o) (A:h.get? L=RM) (D:hs.objs.size≤L) (ns:h'.Ns L m):aw hs h' ads (eW sc env L) (ig ts ρ):=by
 have E:=ER.Ox C
 have l:∀x a,(eW sc env L).cells.lookup x=QG a→env.cells.lookup x=QG a:=λx a e=>
  (nq (S.PZ N) (show(fM env.cells sc.names []).lookup x=QG a from e)).elim (λh=>aI h) id
 refine⟨S.Qa,ER.OA,ER.Oz,⟨m,ns⟩,λc x F i j f=> ?_,λx a e=> ?_,λx y a G I=>ER.inj x y a (l x a G) (l y a I),⟨λq=> ?_,D⟩⟩
 ·have g:c∉ts:=λg=>aI (((kT ts c ρ).1 g).symm.trans f)
  have f:=((kT ts c ρ).2 g).symm.trans f;have n:∀k,(eW sc env L).kindOf x=QG k→sc.names.lookup x=QG k∨(k=.cell∧sc.names.lookup x=QG .free):=pa.2
  have r:sc.names.lookup x=QG .free:=by
   (revert j;refine oO (λh=> ?_) (oO (λh=> ?_) (λh=> ?_)))
   ·(refine oO (λh=> ?_) (λh=> ?_) (n _ h))
    ·(refine oO (λh=> ?_) (ag λV p h=> ?_) (S.Qd x (ff h)))
     ·have z:=LM i
      rw[h,UY] at z
      cases z
     ·exact Ro (jG i h▸p) g
    ·exact nomatch h.1
   ·exact(n _ h).elim (λh=>Ro (ff h) (S.PY x)) λh=>h.2
   ·exact(n _ h).elim id λh=>nomatch h.1
  have s:(eW sc env L).kindOf x=QG .cell∨(eW sc env L).kindOf x=QG .free:=(pa.1 _ r).elim .inr λh=>.inl h.2;refine oE (λa B=> ?_) (Tx.mp (qg (cells:=env.cells) (acc:=[]) (.inl r)));have u:=l x a B;have t:env.kindOf x=QG .cell∨env.kindOf x=QG .free:=(S.Qb x (ff r)).elim (λh=>.inl (N x _ h).1) λh=>(N x _ h).1.elim .inr .inl;refine ag (λv J H=> ?_) (E.OB c x F i (.inr t) f);refine(ai v J (.inr (cE s a B ?_)))
  (revert H;refine oO (oA λk Z=> ?_) (cc λZ b K M=> ?_))
  ·exact t.elim (λh=>nomatch k.symm.trans h) λh=>nomatch k.symm.trans h
  ·exact QS (K.symm.trans u)▸M
 ·refine cY (λO P Q W=> ?_) (E.Ou x a (l x a e))
  (refine oA (λd Z=> ?_) (ER.Ou x a (l x a e));revert d;refine bq λX T U Z=> ?_)
  exact(cq O P Q λq=>bV ((show h.get? L=QG T from(show a=L from q)▸U).symm.trans A))
 ·exact(R.Od (show bF ads L from q)).elim λo z=>bV (z.1.symm.trans A)
end
structure bW(prog:RP)(w:Sn)(hs h:RI)(ads:aH)(σ:af)(src:aG)(n:QN)(I:RK)(fp:QI RK)(h':RI):Prop where
 R:ah prog w hs h' ads σ
 OR:∀b o,h.get? b=QG o→h'.get? b=QG o
 it:de prog w h' ads n 0 I fp src
 F:bC hs h' ads fp
 OT:∀b∈fp,h.get? b=RM
 OU:n≤aR
section
variable{prog:RP}{w:Sn}{hs:RI}{K:VH}{d:QN}{C:QN→QI PV→M PV}{ads:aH}{σ σ':af}{A:SY}{E:QU→QZ→Prop}{s:QZ}{pv:PV}{src:aG}{n:QN}
theorem qE{h c:RI}{p:QI RK}(R:ah prog w hs h ads σ)(f:∀b∈p,h.get? b=RM)(g:∀b∈p,∃o,c.get? b=QG o):bC hs c ads p:=
 ⟨g,λb a q=>(R.Od q).elim λZ z=>(bV (z.1.symm.trans (f b a))),λb a=>by
  induction e:hs.get? b using QQ with
  |none=>rfl
  |some o=>exact bV ((R.NX b o e).symm.trans (f b a))⟩
theorem bW.OS{o:Obj}(R:ah prog w hs s.heap ads σ)(h:o.isFreed=QR)(l:n≤aR)(t:de prog w (s.heap.push o) ads n 0 s.heap.objs.size [s.heap.objs.size] src):
  bW prog w hs s.heap ads σ src n s.heap.objs.size [s.heap.objs.size] (s.heap.push o):=
 ⟨R.NZ λZ Z e=>Rw _ e,λZ Z e=>Rw _ e,t,qE R (λZ b=>m1 b▸dI _) λZ b=>m1 b▸⟨_,RY _ h⟩,λZ b=>m1 b▸dI _,l⟩
theorem Li{a b c:RW}(h:pg a b c=QO)(l:cF a b c≤aR):qae a b c=true:=by
 refine eu (λg i j k f=> ?_) (Rl h);have o:=oW a b c (f.elim (λe=>e▸by decide) λe=>e▸by decide);have l:cF a b c≤4096:=l;unfold qae
 have t:∀z:RW,-(2^62)≤z→z≤2^62→Wd z=true:=λz g i=>by
  unfold Wd;exact Sv.mpr ⟨Ry (RN (by decide) g),Ry (Zo i (by decide))⟩
 have m:∀{z:RW},-2≤z→z≤2→Wd (b+z)=true:=λp q=>t _ (RN (by decide) (qdN j p)) (RN (qdN k q) (by decide));rw[o,t a (RN (by decide) g) (RN i (by decide)),t b (RN (by decide) j) (RN k (by decide)),t c (f.elim (λe=>e▸by decide) λe=>e▸by decide) (f.elim (λe=>e▸by decide) λe=>e▸by decide),t (cF a b c:RW) (RN (by decide) (Rx _)) (RN (Sz.mpr l) (by decide))];simp only[qdO,YQ,Vs]
 right
 split
 ·exact m (f.elim (λe=>by rw[e];decide) λe=>by rw[e];decide) (f.elim (λe=>by rw[e];decide) λe=>by rw[e];decide)
 ·exact m (f.elim (λe=>by rw[e];decide) λe=>by rw[e];decide) (f.elim (λe=>by rw[e];decide) λe=>by rw[e];decide)
theorem Ln{v:QU}{h:aG×QN}{Q:QU→QZ→Prop}(R:ah prog w hs s.heap ads σ)(r:av s.heap ads pv v)(e:dh pv σ=QG (h,σ'))
  (H:σ'=σ→iL h.1=QR→∀I N G tk,bW prog w hs s.heap ads σ h.1 h.2 I N G→Q (.ref I) {s with heap:=G,toks:=tk}):Rh (Rf prog w) A (qcp v) Q E s:=by
 revert e
 suffices Iv (dh pv) σ λh σ'=>(σ'=σ→iL h.1=QR→∀I N G tk,bW prog w hs s.heap ads σ h.1 h.2 I N G→Q (.ref I) {s with heap:=G,toks:=tk})→Rh (Rf prog w) A (qcp v) Q E s from λe=>this h σ' e H
 induction pv using PV.casesOn with
 |F l=>
  refine Iv.a ?_;intro H
  (revert r;refine cv λa o P m q y=> ?_;subst q;revert y;refine eu λg c S T j=> ?_)
  have U:∀b O,s.heap.get? b=QG O→∀x,(s.heap.push x).get? b=QG O:=λb O e x=>Rw _ e;exact wpAny_pyIter_tuple (gF _ g c _ S) (H QJ QJ _ _ _ s.toks (bW.OS R QJ j (aL QJ QJ (.inl (eF a P (bz _ (RY _ QJ) QJ QJ) (gF o (U _ _ g _) c m S) (aA.b (aP.MM ads λb o e=>U b o e _).MN _ T) j)))))
 |I a b c=>
  refine Iv.c λJ=>Iv.a ?_;intro H;have J:=aT J;have j:=lB J.1
  (revert r;refine cv λp t u x z Y=> ?_;subst z)
  have hc:c≠0:=by refine eu (λZ Z Z Z h5=>h5.elim (λe=>e▸by decide) λe=>e▸by decide) (Rl J.2)
  refine wpAny_pyIter_range Y (Li J.2 j) (H QJ QJ _ _ _ s.toks (bW.OS R QJ j (aL QJ ?_ (.inr (jm a b c QJ QJ ?_)))))
  ·unfold gn;rw[QP,RC]
  ·have hi:IsRangeIter (s.heap.push {cls:=qbJ "range_iterator",data:=Data.fields #[rawInt a,rawInt (Ut a b c),rawInt c]}) s.heap.objs.size a (Ut a b c) c:=RY _ QJ
   have e1:a+c*((0:QN):RW)=a:=by simp
   have e2:(cF a b c:RW)-((0:QN):RW)=Ut a b c:=by rw[oW a b c hc];simp
   rw[e1,e2];exact hi
 |B i=>
  (revert r;refine ag λp L D=> ?_;subst D)
  dsimp only[dh];refine Iv.b λo V=> ?_
  induction o using AO.casesOn with
  |A l=>
   refine Iv.a ?_;intro H;refine cj (λZ P g T j=> ?_) (R.NW i p _ L V);exact qai g.isList (H QJ QJ _ _ _ s.toks (bW.OS R QJ j (jk QJ p L _ (RY _ QJ) QJ QJ)))
  |B l=>
   refine Iv.a ?_;intro H;refine cj (λZ W g rk j=> ?_) (R.NW i p _ L V);refine oE (λep X=> ?_) (g.dictAt);have k:W.length=l.length:=rk.a;exact wpAny_pyIter_dict (R.Oe (ai p (Rg L) (.inl QJ))) X (H QJ QJ _ _ _ s.toks (bW.OS R QJ j ⟨QJ,ep,p,W,L,X.at' λo e=>Rw _ e,k.symm,k▸(bz _ (RY _ QJ) QJ QJ)⟩))
  |_=>exact Iv.f
 |_=>exact Iv.f
theorem Lm{v:QU}{c:aG×QN}{Q:QU→QZ→Prop}(R:ah prog w hs s.heap ads σ)(r:av s.heap ads pv v)(e:gU pv σ=QG (c,σ'))
  (H:σ'=σ→∀u I m h tk,(∀P k,P u {s with heap:=h,toks:=tk}→Rh (Rf prog w) A (qcp u) P k {s with heap:=h,toks:=tk})→u=.ref I→bW prog w hs s.heap ads σ c.1 c.2 I m h→Q u {s with heap:=h,toks:=tk}):
  Rh (Rf prog w) A (Ur (.type "enumerate") [v]) Q E s:=by
 induction pv using PV.casesOn with
 |B i=>
  (revert r;refine ag λp z j=> ?_;subst j)
  revert e
  suffices Iv (gU (.B i)) σ λc σ'=>(σ'=σ→∀u I m h tk,(∀P k,P u {s with heap:=h,toks:=tk}→Rh (Rf prog w) A (qcp u) P k {s with heap:=h,toks:=tk})→u=.ref I→bW prog w hs s.heap ads σ c.1 c.2 I m h→Q u {s with heap:=h,toks:=tk})→Rh (Rf prog w) A (Ur (.type "enumerate") [.ref p.1]) Q E s from λe=>this c σ' e H
  change Iv ((M.f i).a λo=>(eN o).a λl=>M.b (aG.B i,l.length)) σ _;refine Iv.b λo J=>Iv.g λl x=>Iv.a ?_;intro H;subst x;refine cj (λZ U g V x=> ?_) (R.NW i p _ z J);refine call_enumerate_list g.isList λh y D W F=> ?_
  have G:s.heap.get? (s.heap.objs.size+1)=none:=by
   induction q:s.heap.get? (s.heap.objs.size+1) using QQ with
   |none=>rfl
   |some o=>exact Ro (SS q) (TO.mpr (Uk _))
  refine du (λX L Y dJ=> ?_) (id D);have t:∀{P:RK→Prop},P (s.heap.objs.size+1)→P s.heap.objs.size→∀b∈[s.heap.objs.size+1,s.heap.objs.size],P b:=λN O b S=>(mC S).elim (λq=>q▸N) λq=>m1 q▸O
  exact H QJ _ _ [s.heap.objs.size+1,s.heap.objs.size] h s.toks (λP k T=>qdP y T) QJ
   ⟨R.NZ F,F,⟨_,p,_,QJ,z,by simpa using y,D,Wu _⟩,qE R (t G (dI _)) (t ⟨_,y⟩ ⟨_,L⟩),t G (dI _),x⟩
 |_=>exact aI e
def uj(c:Cx prog w hs d)(r:RX)(src:aG)(n:QN)(b:af):Prop:=
 ∀(P:QU→QZ→Prop) (E:QU→QZ→Prop),(∀h a I p f k,au [] c.s.heap c.Nz h a→ah prog w hs h a b→aw hs h a c.Nx c.ρ→bW prog w hs h a b src n I p f→P (.ref I) {c.s with heap:=f,toks:=k})→
  Rh (Rf prog w) c.A (US r c.Nx) (λx e=>Rh (Rf prog w) c.A (qcp x) P E e) E c.s
theorem DH{x:Ux}(B:bB prog w hs K)(h:(nP.any λp=>nU (QG p.2)&&et p.1 x&&nU (jj p.1))=QO):kB hs x (.type "enumerate")∧∃n,bj n=QG x:=by
 refine ag (λp Z h=> ?_) (UQ.mp h);have h:=aT h;have b:=eT (aT h.1).2;have a:=h.2
 induction e:jj p.1 using QQ with
 |none=>rw[e] at a;exact aD a
 |some g=>
  rw[e] at a
  induction g using GV.casesOn with
  |K=>exact⟨B.NU p.1 _ x e b,_,b⟩
  |_=>exact aD a
theorem tq(B:bB prog w hs K){c:Cx prog w hs d}{U:PE}{en:RG}{r tg:RX}{q:aG×QN}{g:af}(V:Ok prog w hs d C U)(t:Sr en (lA c.NA (aQ U c.NA) r&&fR tg) (aQ U c.NA r)=QO)
  (e:((ak C U c.ρ).a λv=>Sr en (gU v) (dh v)) c.σ=QG (q,g)):uj c r q.1 q.2 g∧(iL q.1=QO→fR tg=QO):=by
 refine bQ (λpv j e1 e2=> ?_) (bS e)
 induction en using QL with
 |false=>
  have a0:iL q.1=QR∧g=j:=(show Iv (dh pv) j λq σ'=>iL q.1=QR∧σ'=j by
   induction pv using PV.casesOn with
   |F l=>exact Iv.a ⟨QJ,QJ⟩
   |I a b c=>exact Iv.c λZ=>Iv.a ⟨QJ,QJ⟩
   |B i=>
    dsimp only[dh];refine Iv.b λo Z=> ?_
    induction o using AO.casesOn with
    |A l=>exact Iv.a ⟨QJ,QJ⟩
    |B l=>exact Iv.a ⟨QJ,QJ⟩
    |_=>exact Iv.f
   |_=>exact Iv.f) q g e2
  (revert a0;refine oA λk1 J=> ?_;subst J)
  refine⟨λP E H=> ?_,λh=>aD (k1.symm.trans h)⟩
  exact V {c with E:=E} r QR t (λz=>aD z) pv g e1 _ λv W m L X Y r1=>
   Ln (s:={c.s with heap:=W,toks:=L}) X r1 e2 λZ Z I fp h' tk O=>H W m I fp h' tk Y.st X (c.ER.Oy Y.st c.R) O
 |true=>
  refine have t:=aT t;?_;refine⟨λP E H=> ?_,λZ=>t.2⟩
  (refine cv (λf xs ks pos N cx=> ?_) (pJ t.1);subst N)
  refine have t:=aT cx;?_;refine have hX:=aT t.1;?_
  (refine bq (λx p Q k=> ?_) (kA hX.2);subst Q)
  refine have k:=aT k;?_
  (refine ag (λy S T=> ?_) (hY t.2);subst S)
  obtain rfl:=iE hX.1;refine kX (λG n hx=> ?_) (DH B k.1);rw[uR QJ];refine have D:eO [U] c.NA [y]=true:=Sv.mpr ⟨T,QJ⟩;?_;refine QH (rm (c:={c with E:=E}) hx k.2 G (callWith_of (P:=λZ=>YB) (by rw[oq D c.Nx pos];rfl) (rD QJ) (vK D ?_)));rw[pn (jR T▸nR U)];refine qbM (V {c with E:=E} y QR T (λz=>aD z) pv j e1 _ λv W m L X Y r1=>qca ⟨Tu,?_⟩);refine Lm (s:={c.s with heap:=W,toks:=L}) X r1 e2 λa1 u I fp h' tk hp hu O=>hp P E ?_;subst a1 hu;exact H W m I fp h' tk Y.st X (c.ER.Oy Y.st c.R) O
end
section
variable{prog:RP}{w:Sn}{hs:RI}{K:VH}{d:QN}{C:QN→QI PV→M PV}{ads:aH}{σ σ':af}{A:SY}{E:QU→QZ→Prop}{s:QZ}
theorem au.Ph{f r:QI RK}{h h':RI}{ads':aH}(S:au f h ads h' ads')(a:∀b∈f,b∈r)(n:∀b∈r,¬bF ads b):au r h ads h' ads':=S.Pq a λb e Z=>n b e
theorem Al{m:bD}{env:Wq}{i:aG}{n j:QN}{I:RK}{p l:QI RK}{ts:QI QN}{D:RX}{x:PV}{ρ ρ':ay}{f g:af}{S:Rz QU→QZ→Prop}{Q:QZ→Prop}
  (N:cO m env) (hm:A.handled=RM) (V:fL m ts D=QO) (P:lI env l ts) (e:jr i n j σ=QG (x,f)) (W:bL ts x ρ f=QG (ρ',g)) (X:j<n) (G:iL i=QO→fR D=QO)
  (R:ah prog w hs s.heap ads σ) (ER:aw hs s.heap ads env ρ) (it:de prog w s.heap ads n j I p i) (F:bC hs s.heap ads p) (hL:env.locals∉p) (hC:∀y a,env.cells.lookup y=QG a→a∉p) (J:∀b∈p,b∉l) (t:∀b∈l,¬bF ads b)
  (hS:∀v U,Rh (Rf prog w) A (TV D (.ref I) v) (λZ s₂=>Rh (Rf prog w) A (XC D env v) (λZ u=>Q u) E s₂) E U→S (QG v) U)
  (H:g=σ→∀h' tk,ah prog w hs h' ads σ→aw hs h' ads env ρ'→au (p++l) s.heap ads h' ads→bw s.heap ads h' ads→de prog w h' ads n (j+1) I p i→Q {s with heap:=h',toks:=tk}):
  Rh (Rf prog w) A (ZR (.ref I)) S E s:=by
 refine HP e X G R it F hS λL v h1 a0 T=> ?_;subst L;have z:∀b∈p++l,¬bF ads b:=λb k=>(mA k).elim (F.OV b) (t b)
 exact Bc N hm V P W T.R (ER.OE T.S T.K hL hC) T.r λh2 O B Y=>H B h2 O Y.R Y.ER ((T.S.Ph (λb k=>TM _ k) z).Pb (Y.S.Ph (λb k=>SF _ k) z)) (T.K.PK Y.K)
  (T.it.a Y.K (λb k o e=>Y.ON b o (J b k) e) λZ b o k e=>Y.ON b o (λq=>t b q k) e)
end
structure fk{β:Type}(D:RK)(AccAt:QI β→RI→aH→Prop):Prop where
 Qx:∀l h ads,AccAt l h ads→∀o,h.get? D=QG o→¬fX o
 Qw:∀l h ads h' ads',AccAt l h ads→bw h ads h' ads'→(∀o,h.get? D=QG o→h'.get? D=QG o)→AccAt l h' ads'
structure aq where
 Pw:RP
 w:Sn
 hs:RI
 Pu:Wq
 D:RK
 fp:QI RK
 Px:aG
 n:QN
 I:RK
 h0:RI
 Py:aH
structure aX{β:Type}(c:aq)(AccAt:QI β→RI→aH→Prop)(j:QN)(ρ:ay)(PM:QI β)(h:RI)(ads:aH)(σ:af):Prop where
 R:ah c.Pw c.w c.hs h ads σ
 ER:aw c.hs h ads c.Pu ρ
 it:de c.Pw c.w h ads c.n j c.I c.fp c.Px
 F:bC c.hs h ads (c.D::c.Pu.locals::c.fp)
 S:au (c.D::c.Pu.locals::c.fp) c.h0 c.Py h ads
 PM:AccAt PM h ads
structure dM(c:aq):Prop where
 Nu:c.D≠c.Pu.locals
 Nv:c.D∉c.fp
 Nt:c.Pu.locals∉c.fp
 Nw:∀y a,c.Pu.cells.lookup y=QG a→a∉c.D::c.fp
section
variable{β:Type}{c:aq}{AccAt:QI β→RI→aH→Prop}{j j':QN}{ρ ρ':ay}{acc acc':QI β}{h h':RI}{ads ads':aH}{σ σ':af}{A:SY}{E:QU→QZ→Prop}
theorem aX.PO(V:aX c AccAt j ρ acc h ads σ){r:QI RK}(g:ah c.Pw c.w c.hs h' ads' σ')(e:au r h ads h' ads')(f:∀b∈r,b∈c.D::c.Pu.locals::c.fp)(a:aw c.hs h' ads' c.Pu ρ')(t:de c.Pw c.w h' ads' c.n j' c.I c.fp c.Px)
  (i:AccAt acc' h' ads'):aX c AccAt j' ρ' acc' h' ads' σ':=⟨g,a,t,V.F.OY e,V.S.Pb (e.Ph f V.F.OV),i⟩
theorem aX.PN(V:aX c AccAt j ρ acc h ads σ)(i:fk c.D AccAt)(l:ah c.Pw c.w c.hs h' ads' σ')(m:Mv c.Px.qa h ads h' ads'):aX c AccAt j ρ acc h' ads' σ':=by
 have K:=V.R.NY m.st;have k:∀b∈c.D::c.Pu.locals::c.fp,∀o,h.get? b=QG o→h'.get? b=QG o:=λb f o e=>m.st.Pa b o (V.F.OV b f) (λz=>nomatch z) e;exact V.PO l m.st (λZ f=>nomatch f) (V.ER.Oy m.st V.R) (V.it.a K (λb f o e=>k b (.tail _ (.tail _ f)) o e) λg b o Z e=>(m.gr g).MO b o e) (i.Qw _ _ _ _ _ V.PM K (k c.D (.head _)))
theorem aX.PQ(V:aX c AccAt j ρ acc h ads σ)(l:fk c.D AccAt)(a:dM c)(m:Su c.D h h')(n:∃o,h'.get? c.D=QG o)(p:bw h ads h' ads→AccAt acc' h' ads):aX c AccAt j ρ acc' h' ads σ:=by
 have S:∀{b},b∈[c.D]→b=c.D:=m1;have k:∀b o,b∉[c.D]→h.get? b=QG o→h'.get? b=QG o:=λb o f e=>(m.2 b λq=>f (q▸.head _)).trans e;refine bk (λr i g=> ?_) (qF V.R (V.F.OZ λb f=>S f▸.head _) (λb f o e=>l.Qx _ _ _ V.PM o (S f▸e)) k λb f=>S f▸n)
 exact V.PO r i (λb f=>S f▸.head _) (V.ER.OE i g (λq=>a.Nu (S q).symm) λy b t q=>a.Nw y b t (S q▸.head _))
  (V.it.a g (λb f o e=>k b o (λq=>a.Nv (S q▸f)) e) λZ b o f e=>k b o (λq=>V.F.OV c.D (.head _) (S q▸f)) e) (p g)
theorem vh{code:Code}{i:bD}{ts:QI QN}{tg:RX}{ρ:ay}{R:Result→QZ→Prop}{s₀:QZ}{TE:(QZ→Prop)→QZ→Prop}{rest:ay→QI β→M (QI β)}{f l:QI β}{g:RI}{t:aH}
  (U:∀(Iv:QN→QZ→Prop),(∀k s,Iv k s→Rh (Rf c.Pw c.w) A (ZR (.ref c.I)) (λr z=>match r with
   |none=>R (.ok .next) z
   |some v=>Rh (Rf c.Pw c.w) A (TV tg (.ref c.I) v) (λZ s₂=>Rh (Rf c.Pw c.w) A (XC tg c.Pu v) (λZ W=>TE (λX=>∃m,m<k∧Iv m X) W) E s₂) E z) E s)→∀k,Iv k s₀→XQ (Rf c.Pw c.w) A code R s₀)
  (AK:fk c.D AccAt) (a:dM c) (N:cO i c.Pu) (hm:A.handled=RM) (ck:fL i ts tg=QO) (P:lI c.Pu [c.Pu.locals] ts) (a1:iL c.Px=QO→fR tg=QO)
  (B:∀j ρ' acc acc' (h:RI) (ads:aH) (tk:QN) σ σ' (Pp:QZ→Prop),rest ρ' acc σ=QG (acc',σ')→aX c AccAt j ρ' acc h ads σ→
   (∀h' ads' G,aX c AccAt j ρ' acc' h' ads' σ'→Pp {s₀ with heap:=h',toks:=G})→TE Pp {s₀ with heap:=h,toks:=tk})
  (e:dA c.Px c.n (λZ=>QR) (λx acc=>(bL ts x ρ).a λρ'=>rest ρ' acc) c.n f σ=QG (l,σ'))
  (V:aX c AccAt 0 (ig ts ρ) f g t σ) (Y:QN) (a2:s₀={s₀ with heap:=g,toks:=Y})
  (a3:∀h ads h' tk,au (c.D::c.Pu.locals::c.fp) c.h0 c.Py h ads→(∀b o,b∉c.fp→h.get? b=QG o→h'.get? b=QG o)→ah c.Pw c.w c.hs h' ads σ'→bC c.hs h ads (c.D::c.Pu.locals::c.fp)→AccAt l h' ads→(∃m,h'.Ns c.Pu.locals m)→R (.ok .next) {s₀ with heap:=h',toks:=tk}):
  XQ (Rf c.Pw c.w) A code R s₀:=by
 refine U (λk s=>∃h tk ads σ acc,s={s₀ with heap:=h,toks:=tk}∧aX c AccAt (c.n-k) (ig ts ρ) acc h ads σ∧k≤c.n∧
  dA c.Px c.n (λZ=>QR) (λx acc=>(bL ts x ρ).a λρ'=>rest ρ' acc) k acc σ=QG (l,σ')) ?_ c.n ⟨g,Y,t,σ,f,a2,by rw[VI];exact V,Sd _,e⟩
 rintro k s ⟨h,tk,ads,σ,acc,rfl,V,hk,e⟩;refine have Ff:=V.F.OZ λb g=>.tail _ (.tail _ g);?_
 induction k using Uo with
 |zero=>
  refine bQ (λu H e1 e2=> ?_) (bS e)
  (refine oA (λJ L=> ?_) (sP e2);subst J;revert L;intro O;subst O)
  refine have it:=V.it;?_;rw[qbs] at it;refine xM hm e1 V.R it Ff λh' G Q R' K' kk=> ?_;subst Q;refine oE (λm ns=> ?_) (V.ER.ns);exact a3 h ads h' G V.S kk R' V.F (AK.Qw _ _ _ _ _ V.PM K' λo e=>kk c.D o a.Nv e) ⟨m,ns.at' λo e=>kk _ o a.Nt e⟩
 |succ k=>
  refine bQ (λx H e1 e2=> ?_) (bS e);refine bQ (λacc' p e3 e4=> ?_) (bS e2);refine bQ (λρ' a4 e5 e6=> ?_) (bS e3);refine ag (λa5 e7 tt=> ?_) (Mn e5)
  refine Al N hm ck P e1 e7 (uw (by assumption)) a1 V.R V.ER V.it Ff a.Nt (λy b hy hf=>a.Nw y b hy (.tail _ hf)) (λb g q=>a.Nt (m1 q▸g)) (λb g=>m1 g▸V.F.OV _ (.tail _ (.head _)))
   (λv s' hv=>hv) λQ h1 a6 R1 a7 S1 K1 a8=> ?_
  subst Q;refine have a9:∀b∈c.fp++[c.Pu.locals],b∈c.D::c.Pu.locals::c.fp:=λb g=>(mA g).elim (λg=>.tail _ (.tail _ g)) λg=>m1 g▸.tail _ (.head _);?_;refine have hD:∀o,h.get? c.D=QG o→h1.get? c.D=QG o:=λo e=>S1.Pa c.D o (V.F.OV c.D (.head _)) (λq=>(mA q).elim a.Nv λq=>a.Nu (m1 q)) e;?_;refine B _ ρ' acc acc' h1 ads a6 _ p _ e6 (V.PO R1 S1 a9 (tt.1 a7) a8 (AK.Qw _ _ _ _ _ V.PM K1 hD)) λh2 a0 b0 T=> ?_;refine⟨k,TB _,h2,b0,a0,p,acc',QJ,⟨T.R,tt.2 T.ER,?_,T.F,T.S,T.PM⟩,by omega,e4⟩;refine have b1:=T.it;?_;rwa[uv (show k+1≤c.n by assumption)] at b1
end
section
variable{prog:RP}{w:Sn}{A:SY}{R:Result→QZ→Prop}{s:QZ}
theorem Hs{q t i:RX}{u:QI RX}{scope:Xo}{pos:Xv}{H acc:QU}{env:Wq}(I:QN→QZ→Prop)
  (y:∀n s,I n s→Rh (Rf prog w) A (ZR H) (λr a=>match r with
   |none=>R (.ok .next) a
   |some v=>Rh (Rf prog w) A (TV t H v) (λZ s₂=>Rh (Rf prog w) A (XC t env v) (λZ g=>
     Rh (Rf prog w) A (forIn u QO λc r=>if r=QO then do let z←YC c env (US c env);UK (TK z) else UK (TK r)) (λz b=>
      if z=QO then Rh (Rf prog w) A (US q env) (λx k=>
       Rh (Rf prog w) A (Ur (.builtin "list.append") [acc,x]) (λZ l=>∃m,m<n∧I m l) (Wm (Rf prog w) A env λe f=>R (.error e) f) k) (Wm (Rf prog w) A env λe f=>R (.error e) f) b
      else∃m,m<n∧I m b) (Wm (Rf prog w) A env λe f=>R (.error e) f) g) (Wm (Rf prog w) A env λe f=>R (.error e) f) s₂) (Wm (Rf prog w) A env λe f=>R (.error e) f) a) (Wm (Rf prog w) A env λe f=>R (.error e) f) s)
  (n:QN) (h:I n s):XQ (Rf prog w) A (.compLoop (.ListComp q [⟨t,i,u,0⟩] scope pos) 0 H acc env) R s:=by
 refine codeAny_loop QJ I (λn s J=> ?_) n h;show Rh _ A ((compTurn (.ListComp q [⟨t,i,u,0⟩] scope pos) 0 H acc env).onRaise (λx=>do noteFrame x env;theTreesLotGoes x)) _ _ s;refine wpAny_noted ?_;rw[compTurn_list];refine QH (Sj (QH (SJ (y n s J) (λr a o=> ?_) λZ Z h'=>h')))
 induction r using QQ with
 |none=>exact QT o
 |some v=>
  refine QH (SJ o (λZ s₂ B=> ?_) λZ Z h'=>h');refine QH (SJ B (λZ g D=>QH (SJ D (λz b p=> ?_) λZ Z h'=>h')) λZ Z h'=>h')
  induction z using QL with
  |false=>exact QT ⟨QJ,p⟩
  |true=>
   exact QH (QH (SJ p (λx k F=>QH (SJ F (λZ l G=>QT (QT ⟨QJ,G⟩)) λZ Z h'=>h')) λZ Z h'=>h'))
theorem Hr{N O t i:RX}{u:QI RX}{scope:Xo}{pos:Xv}{L:QU}{D:RK}{env:Wq}(I:QN→QZ→Prop)
  (y:∀n s,I n s→Rh (Rf prog w) A (ZR L) (λr b=>match r with
   |none=>R (.ok .next) b
   |some v=>Rh (Rf prog w) A (TV t L v) (λZ s₂=>Rh (Rf prog w) A (XC t env v) (λZ g=>
     Rh (Rf prog w) A (forIn u QO λc r=>if r=QO then do let z←YC c env (US c env);UK (TK z) else UK (TK r)) (λz f=>
      if z=QO then Rh (Rf prog w) A (US N env) (λP k=>Rh (Rf prog w) A (US O env) (λQ l=>
       Rh (Rf prog w) A (dictSet D P Q) (λZ o=>∃m,m<n∧I m o) (Wm (Rf prog w) A env λe a=>R (.error e) a) l) (Wm (Rf prog w) A env λe a=>R (.error e) a) k) (Wm (Rf prog w) A env λe a=>R (.error e) a) f
      else∃m,m<n∧I m f) (Wm (Rf prog w) A env λe a=>R (.error e) a) g) (Wm (Rf prog w) A env λe a=>R (.error e) a) s₂) (Wm (Rf prog w) A env λe a=>R (.error e) a) b) (Wm (Rf prog w) A env λe a=>R (.error e) a) s)
  (n:QN) (h:I n s):XQ (Rf prog w) A (.compLoop (.DictComp N O [⟨t,i,u,0⟩] scope pos) 0 L (.ref D) env) R s:=by
 refine codeAny_loop QJ I (λn s S=> ?_) n h;show Rh _ A ((compTurn (.DictComp N O [⟨t,i,u,0⟩] scope pos) 0 L (.ref D) env).onRaise (λx=>do noteFrame x env;theTreesLotGoes x)) _ _ s;refine wpAny_noted ?_;rw[compTurn_dict];refine QH (Sj (QH (SJ (y n s S) (λr b p=> ?_) λZ Z h'=>h')))
 induction r using QQ with
 |none=>exact QT p
 |some v=>
  refine QH (SJ p (λZ s₂ B=> ?_) λZ Z h'=>h');refine QH (SJ B (λZ g F=>QH (SJ F (λz f q=> ?_) λZ Z h'=>h')) λZ Z h'=>h')
  induction z using QL with
  |false=>exact QT ⟨QJ,q⟩
  |true=>
   exact QH (QH (SJ q (λP k G=>QH (RA (SJ G (λQ l H=>QH (Sj (RA (SJ H (λZ o J=>QT ⟨QJ,J⟩) λZ Z h'=>h')))) λZ Z h'=>h'))) λZ Z h'=>h'))
end
def pO(D:RK)(l:QI PV)(h:RI)(ads:aH):Prop:=l.length≤aR∧∃v:QI QU,h.PlainList D v.toArray∧aA h ads l v
def pN(prog:RP)(w:Sn)(D:RK)(l:QI (RW×PV))(h:RI)(ads:aH):Prop:=l.length≤aR∧∃v,h.DictOf (Ub prog w) D v∧ba h ads (·=·) l v
theorem lK(D:RK):fk D (pO D):=
 ⟨λZ Z Z=>by refine cc λZ Z z Z Z e=> ?_;exact z.elim λZ g=>QS (g.symm.trans e)▸nZ QJ (by decide) (by decide) (by decide),λZ Z Z Z Z=>by refine cc λa v z r k e=> ?_;exact(cE a v (z.imp λn g=>e _ g) (aA.b k _ r))⟩
theorem kD{prog:RP}{w:Sn}(D:RK):fk D (pN prog w D):=
 ⟨λZ Z Z=>by refine cc λZ Z z Z Z e=> ?_;revert z;exact gO λZ Z Z g c Z=>QS (g.symm.trans e)▸nZ c.1 (by decide) (by decide) (by decide),λZ Z Z Z Z=>cc λa v g r k e=>(cE a v (g.at e) (r.b k))⟩
section
variable{prog:RP}{w:Sn}{hs:RI}{K:VH}{d:QN}{C:QN→QI PV→M PV}{ads:aH}{σ σ':af}{A:SY}{E:QU→QZ→Prop}{s:QZ}
theorem au.Pl{r:QI RK}{g i h j:RI}{a c:aH}(G:aP g a i c)(S:au r i c h ads)(n:∀b∈r,g.get? b=RM)(k:∀b o,b∉r→h.get? b=QG o→j.get? b=QG o):au [] g a j ads where
 Pc:=G.MQ.trans S.Pc
 Pd:=λb f=>(S.Pd b f).elim (G.MR b) λz=>by
  induction e:g.get? b using QQ with
  |none=>exact .inr QJ
  |some o=>exact bV ((G.MO b o e).symm.trans z)
 Pa:=λb o f Z e=>k b o (λq=>bV (e.symm.trans (n b q))) (S.Pa b o (λq=>(G.MR b q).elim f λz=>bV (e.symm.trans z)) (λq=>bV (e.symm.trans (n b q))) (G.MO b o e))
 Pe:=λZ Z f=>nomatch f
theorem xo{c:aG}{n j:QN}{I:RK}{p:QI RK}{Q:QU→QZ→Prop}(t:de prog w s.heap ads n j I p c)(q:Q (.ref I) s):Rh (Rf prog w) A (qcp (.ref I)) Q E s:=by
 induction c using aG.casesOn with
 |A l=>exact t.2.2.elim (bq λZ Z i Z=>wpAny_pyIter_tupleiter i q)<|gO λZ U Y O a i=>wpAny_pyIter_rangeiter i q
 |D i=>exact t.2.elim λZ x=>wpAny_pyIter_listiter x.2 q
 |B i=>(revert t;refine fg λZ Z Z Z Z i Z=> ?_);exact qdP i q
 |C i=>(revert t;refine rP λZ Z Z Z Z Z Z i=> ?_);exact wpAny_pyIter_keyiter i q
theorem vR{e:RX}(h:eH e=QO)(env:Wq)(x:QU):foldedSetIterable e env x=UK x:=by
 induction e using SU with
 |Set Z U Y=>exact aD h
 |_=>rfl
theorem zq{m:bD}{ts:QI QN}{b:Xo}{env:Wq}{L:RK}{B:RX}(S:cH m ts b)(j:fL b.names ts B=QO):lI (eW b env L) [(eW b env L).locals] ts:=λc v x z=>by
 have f:fQ (b.names.lookup x)=true:=by
  rcases uZ j with⟨I,J,pos,rfl,rfl,n,o⟩|⟨i,k,pos,rfl,_,j⟩
  ·obtain rfl:=m1 v
   obtain rfl:=QS (z.symm.trans n);exact o
  ·have D:∀{ts:QI QN} {i:QI RX},hZ b.names ts i=QO→c∈ts→fQ (b.names.lookup x)=true:=λ{ts}=>by
    induction ts with
    |nil=>intro i Z u;cases u
    |cons t ts F=>
     intro i h u
     (refine bc (λy p G g r=> ?_) (nj h);subst g;revert r;refine bk λH o h=> ?_)
     exact(mC u).elim (λq=>QS (z.symm.trans (q▸H))▸o) (F h)
   exact D j v
 refine⟨λZ=>.head _,λl a N=> ?_⟩
 induction e:b.names.lookup x using QQ with
 |none=>rw[e] at f;exact aD f
 |some k=>
  rw[e] at f
  induction k using Tb with
  |«local»=>exact((pa).1 _ e).elim (λh=>nomatch (show(qco b env).names.lookup x=QG .cell from l).symm.trans h) λh=>nomatch h.1
  |cell=>exact Ro (ff e) (S.PY x)
  |_=>exact aD f
theorem xK{h1:RI}{ads1:aH}{L:RK}(S:au [] s.heap ads h1 ads1)(R1:ah prog w hs h1 ads1 σ)(h:h1.get? L=RM):s.heap.get? L=none:=by
 induction e:s.heap.get? L using QQ with
 |none=>rfl
 |some o=>
  by_cases ho:bF ads L
  ·have ho':bF ads1 L:=ho.imp λp x=>⟨S.Pc.subset x.1,x.2⟩
   exact(R1.Od ho').elim λZ z=>bV (z.1.symm.trans h)
  ·exact bV ((S.Pa L o ho (λz=>nomatch z) e).symm.trans h)
structure bM(c:Cx prog w hs d)(σ₂:af)(ts:QI QN)(sc:Xo)(aobj:Obj)(h1:RI)(ads1:aH)(k:aq):Prop where
 PB:k.Pw=prog∧k.w=w∧k.hs=hs∧k.Py=ads1
 S1:au [] c.s.heap c.Nz h1 ads1
 R1:ah prog w hs h1 ads1 σ₂
 G1:aP h1 ads1 k.h0 ads1
 R:ah prog w hs k.h0 ads1 σ₂
 it:de prog w k.h0 ads1 k.n 0 k.I k.fp k.Px
 F:bC hs k.h0 ads1 (k.D::k.Pu.locals::k.fp)
 Pz:∀b∈k.D::k.Pu.locals::k.fp,h1.get? b=RM
 h3:3<k.D
 PA:k.h0.get? k.D=QG aobj
 ER:aw hs k.h0 ads1 k.Pu (ig ts c.ρ)
 ap:dM k
theorem vg{c:Cx prog w hs d}{ts:QI QN}{r:RX}{J:Xo}{P:aG}{n:QN}{p:af}{l:Sem QU}{j:Obj}{e:RX}{g:ZL}{pos:Xv}{use:Rz (QU→Sem UE)}{Q:QU→QZ→Prop}
  (T:uj c r P n p) (ns:eH r=QO) (S:cH c.NA ts J)
  (U:∀(s:QZ) (Q:QU→QZ→Prop) (E:QU→QZ→Prop),Q (.ref s.heap.objs.size) {s with heap:=s.heap.push j}→Rh (Rf prog w) c.A l Q E s) (a6:j.isFreed=QR)
  (a7:clausesOf e=[g]) (a8:g.iter=r)
  (H:∀(t:RI) (f:aH) (D L I:RK) (h0:RI) (V:QI RK) (tk:QN),bM c p ts J j t f ⟨prog,w,hs,eW J c.Nx L,D,V,P,n,I,h0,f⟩→
   XQ (Rf prog w) c.A (.compStart e 0 (.ref I) (.ref D) (eW J c.Nx L)) (qbj (Rf prog w) c.A c.E use Q (.ref D) L) {c.s with heap:=h0,toks:=tk}):
  Rh (Rf prog w) c.A (qbH e J c.Nx pos l QR (US r c.Nx) use) Q c.E c.s:=by
 refine wpAny_comprehension_free (use:=use) a7 (by rw[a8];exact vR ns c.Nx) (Df (S.PZ c.N)) S.Qa (λq W hl=>S.Qc q.1 (hl▸W)) (T _ _ λt f I V i b1 S1 R1 u O=>U _ _ _ (wpAny_newFunctionEnv (λq W h=>S.PY q.1 (h▸W)) (λq W=>nomatch W) (λX v Y=> ?_) S.Qa));dsimp only at v Y⊢;have hz:(i.push j).objs.size=i.objs.size+1:=Yx ..;have a0:∀b o,(i.push j).get? b=QG o→X.get? b=QG o:=λb o e=>(Y.2 b (Tj (SS e))).trans (Rw _ e);have k:∀b o,i.get? b=QG o→X.get? b=QG o:=λb o e=>a0 b o (Rw _ e);have a1:∀b o,t.get? b=QG o→X.get? b=QG o:=λb o e=>k b o (O.OR b o e);have a2:=dI i
 have z:i.get? (i.push j).objs.size=none:=by
  induction q:i.get? (i.push j).objs.size using QQ with
  |none=>rfl
  |some o=>exact Ro (SS q) (by rw[hz];exact TO.mpr (Uk _))
 have a3:∀{b},i.get? b=RM→t.get? b=none:=λ{b} g=>by
  induction q:t.get? b using QQ with
  |none=>rfl
  |some o=>exact bV ((O.OR _ _ q).symm.trans g)
 have a4:X.get? i.objs.size=QG j:=a0 _ _ (RY _ a6);have a5:∀{b},i.get? b=RM→b∉V:=λ{b} e m=>(O.F.OX b m).elim λZ q=>aI (e.symm.trans q);have ee:∀b∈i.objs.size::(i.push j).objs.size::V,t.get? b=none:=λb m=>(mC m).elim (λq=>q▸a3 a2) λm=>(mC m).elim (λq=>q▸a3 z) (O.OT b);have a9:hs.objs.size≤i.objs.size:=(u.Ox O.OR).OD;have b0:i.objs.size≠(i.push j).objs.size:=by rw[hz];exact(Wu _).symm
 refine H t f i.objs.size (i.push j).objs.size I X V _ ⟨(cq QJ QJ QJ QJ),S1,R1,aP.MM f a1,O.R.NZ k,O.it.a (aP.MM f k).MN (λb m o e=>k b o e) λZ b o Z e=>k b o e,
  qE R1 ee λb m=>(mC m).elim (λq=>q▸⟨_,a4⟩) λm=>(mC m).elim (λq=>q▸v.elim λo x=>x.elim λZ x=>x.elim λZ x=>⟨o,x.1⟩) λm=>(O.F.OX b m).imp λo e=>k b o e,
  ee,O.R.Oc,a4,Dh S c.N (u.Ox O.OR) O.R k z (QK a9 (by rw[hz];exact Uk _)) v,⟨b0,a5 a2,a5 z,λy a ha B=> ?_⟩⟩
 (refine oO (λh=> ?_) (λh=> ?_) (nq (S.PZ c.N) (show(fM c.Nx.cells J.names []).lookup y=QG a from ha)))
 ·exact aI h
 ·(refine oA (λG Z=> ?_) (u.Ou y a h);revert G;refine bq λv0 o0 g0 Z=> ?_)
  exact bV (g0.symm.trans (ee a ((mC B).elim (λq=>SI.mpr (.inl q)) λB=>.tail _ (.tail _ B))))
def pP(c:Cx prog w hs d)(use:Rz (QU→Sem UE))(Q:QU→QZ→Prop)(σ':af)(v:PV):Prop:=
 ∀h a D L k,ah prog w hs h a σ'→au [] c.s.heap c.Nz h a→av h a v (.ref D)→(∃m,h.Ns L m)→¬bF a L→hs.get? L=RM→c.s.heap.get? L=RM→qbj (Rf prog w) c.A c.E use Q (.ref D) L (.ok .next) {c.s with heap:=h,toks:=k}
theorem yq{L:RK}{c h:RI}(R:ah prog w hs c ads σ)(g:¬bF ads L)(i:hs.get? L=RM)(ns:∃m,c.Ns L m)(j:Su L c h):ah prog w hs h ads σ∧bw c ads h ads∧∀b o,b≠L→c.get? b=QG o→h.get? b=QG o:=by
 have f:∀b o,b≠L→c.get? b=QG o→h.get? b=QG o:=λb o n e=>(j.2 b n).trans e;have S:∀{b},b∈[L]→b=L:=m1
 (revert ns;refine oE λm ns=> ?_)
 have F:bC hs c ads [L]:=⟨λb a=>S a▸ns.elim λo x=>x.elim λZ x=>x.elim λZ x=>⟨o,x.1⟩,λb a=>S a▸g,λb a=>S a▸i⟩;refine oA (λk l=> ?_) (nM R F (λb a o e=>rK ns (S a▸e)) λb o a e=>f b o (λq=>a (q▸.head _)) e);exact(aL k l f)
theorem au.Pm{L:RK}{h g c:RI}{a:aH}{r:QI RK}(S:au r h a g ads)(i:h.get? L=RM)(k:∀b o,b≠L→g.get? b=QG o→c.get? b=QG o):au r h a c ads:=
 ⟨S.Pc,S.Pd,λb o j f e=>k b o (λq=>nomatch (q▸e).symm.trans i) (S.Pa b o j f e),λb o f e=>(S.Pe b o f e).imp λl m=>k b l (λq=>nomatch (q▸e).symm.trans i) m⟩
theorem vO{c:Cx prog w hs d}{Q:QU→QZ→Prop}{p:PV}(H:∀v h b tk,ah prog w hs h b σ'→au [] c.s.heap c.Nz h b→av h b p v→Q v {c.s with heap:=h,toks:=tk}):pP c RM Q σ' p:=λh b D L tk R S r n f g i=>by
 refine(ai n.choose n.choose_spec λe j=> ?_);refine bk (λk l m=> ?_) (yq R f g n j);exact H _ e b tk k (S.Pm i m) (av.a l _ r)
noncomputable def ve(x:RX)(env:Wq)(use:Rz (QU→Sem UE)):Sem Value:=match x with
 | .ListComp Z n c pos=>qbH x c env (firstIterPos n pos) (qdx []) (firstAsync n) (firstIter n env) use
 | .DictComp Z U n c pos=>qbH x c env (firstIterPos n pos) newDict (firstAsync n) (firstIter n env) use
 |_=>UK .none
def mK(prog:RP)(w:Sn)(hs:RI)(d:QN)(C:QN→QI PV→M PV)(e:PE):Prop:=∀(c:Cx prog w hs d) (x:RX) (u:Rz (QU→Sem UE)) (Q:QU→QZ→Prop) (v:PV) (σ':af),
 aQ e c.NA x=QO→ak C e c.ρ c.σ=QG (v,σ')→pP c u Q σ' v→Rh (Rf prog w) c.A (ve x c.Nx u) Q c.E c.s
theorem AQ{L D:RK}(h:D≠L)(n:¬bF ads L):¬bF (ads++[(D,D)]) L:=ag λq a e=>
 (mA a).elim (λa=>n (ai q a e)) λa=>by
  rw[m1 a] at e;exact e.elim (λe=>h e.symm) λe=>h e.symm
theorem vf{U:Type}{c:Cx prog w hs d}{f:af}{ts:QI QN}{i:Xo}{j:Obj}{x:RI}{a:aH}{D L I:RK}{u:RI}{p:QI RK}{r:aG}{n:QN}{t:QI U→RI→aH→Prop}{l:QI U}{o:AO}{use:Rz (QU→Sem UE)}{Q:QU→QZ→Prop}
  (O:bM c f ts i j x a ⟨prog,w,hs,eW i c.Nx L,D,p,r,n,I,u,a⟩) (v:fk D t) (mk:∀h ads,t l h ads→eL prog w h ads (D,D) o) (H:pP c use Q (σ++[o]) (.B σ.length)) {h g:RI} {tk:QN}
  (S:au (D::L::p) u a h ads) (y:∀b o,b∉p→h.get? b=QG o→g.get? b=QG o) (R:ah prog w hs g ads σ) (F:bC hs h ads (D::L::p)) (acc:t l g ads) (ns:∃m,g.Ns L m):
  qbj (Rf prog w) c.A c.E use Q (.ref D) L (.ok .next) {c.s with heap:=g,toks:=tk}:=by
 have z:=F.OV D (.head _);have G:=R.Ol z (F.OW D (.head _)) O.h3 (λJ e=>v.Qx _ _ _ acc J e) (λZ Z Z e=>e) λk=>mk _ _ (v.Qw _ _ _ _ _ acc k λZ e=>e);have N:=(au.Pl O.G1 S O.Pz λb o P e=>y b o (λq=>P (.tail _ (.tail _ q))) e).Pk (O.Pz D (.head _)) λZ Z Z e=>e;exact H g _ D L tk G (O.S1.Pb N) (ai _ (R.Oa▸Ul) QJ) ns (AQ O.ap.Nu (F.OV L (.tail _ (.head _)))) (F.OW L (.tail _ (.head _))) (xK O.S1 O.R1 (O.Pz L (.tail _ (.head _))))
end
section
variable{prog:RP}{w:Sn}{hs:RI}{K:VH}{d:QN}{C:QN→QI PV→M PV}{q:RG}
theorem Md{c:PE}(h:jq c=QO):c=.B (.D QO):=by
 induction c using PE.casesOn with
 |B v=>
  induction v using PV.casesOn with
  |D b=>induction b using QL with|true=>rfl|false=>exact aD h
  |_=>exact aD h
 |_=>exact aD h
theorem Ad{cnd:PE}{ifs:QI RX}(o:Tr prog w hs d C cnd)(x:Cx prog w hs d)(f:(match ifs with|[]=>jq cnd|i::r=>r.isEmpty&&aQ cnd x.NA i)=QO)(u:q=QO→cnd.qa=QO)
  {α:Type} {X:RG→M α} {a:α} {σ':af} (e:(((ak C cnd x.ρ).a bI).a X) x.σ=QG (a,σ')) {F:RG→QZ→Prop}
  (k:∀p l b t g (m:ah prog w hs l b g) (n:Mv q x.s.heap x.Nz l b),X p g=QG (a,σ')→F p (x.Ny t m n).s):
  Rh (Rf prog w) x.A (forIn ifs QO λc r=>if r=QO then do let y←YC c x.Nx (US c x.Nx);UK (TK y) else UK (TK r)) F x.E x.s:=by
 induction ifs using Rm with
 |nil=>
  obtain rfl:=Md f;exact wpAny_tests_nil (k QO x.s.heap x.Nz x.s.toks x.σ x.R (Mv.Qr ..) e)
 |cons i r=>
  have f:=aT f;obtain rfl:=iE f.1;refine ag (λp z B=> ?_) (bS e);exact wpAny_tests_one (o x i q f.2 u p.1 p.2 z _ λv l b t m n D=>(show v=p.1 from D)▸k p.1 l b t p.2 m n B)
theorem ky{α:Type}{b:RG}{m:M α}{σ:af}{r:α×af}(h:M.c b m σ=QG r):b=QO∧m σ=QG r:=by
 induction b using QL with
 |true=>exact⟨QJ,h⟩
 |false=>exact aI h
theorem zr{k x y:RG}(h:(!(k&& !(x&&y)))=QO):(k=QO→x=QO)∧(k=QO→y=QO):=by
 induction k using QL<;>induction x using QL<;>induction y using QL<;>first|exact⟨λZ=>QJ,λZ=>QJ⟩|(cases h;done)|exact⟨λz=>(aD z),λz=>(aD z)⟩
structure cN(names:bD)(ts:QI QN)(en:RG)(it cnd:PE)(tg iter:RX)(ifs:QI RX)(sc:Xo):Prop where
 Qn:Sr en (lA names (aQ it names) iter&&fR tg) (aQ it names iter)=QO
 ns:eH iter=QO
 S:cH names ts sc
 ct:fL sc.names ts tg=QO
 Qo:(match ifs with|[]=>jq cnd|i::r=>r.isEmpty&&aQ cnd sc.names i)=QO
theorem wF{names:bD}{ts:QI QN}{n x:RG}{a cnd:PE}{g t:RX}{ifs:QI RX}{c:Xo}
  (h:((Sr n (lA names (aQ a names) t&&fR g) (aQ a names t)&&eH t)&&((nk names c&&ni ts c&&fL c.names ts g)&&((match ifs with|[]=>jq cnd|i::r=>r.isEmpty&&aQ cnd c.names i)&&x)))=QO):cN names ts n a cnd g t ifs c∧x=true:=by
 have h:=aT h;have b:=aT h.1;have f:=aT h.2;have l:=aT f.1;have m:=aT l.1;have o:=aT f.2;exact⟨⟨b.1,b.2,KY m.1 m.2,l.2,o.1⟩,o.2⟩
theorem rj{ts:QI QN}{b cnd e:PE}{names:bD}{x:RX}(c:aQ (.N ts b cnd e) names x=QO):∃t g r ifs s pos,x=.ListComp t [⟨g,r,ifs,0⟩] s pos∧cN names ts QR b cnd g r ifs s∧aQ e s.names t=true:=by
 (refine cv (λt n s pos a c=> ?_) (MH c);subst a)
 obtain⟨⟨g,r,ifs,i⟩,rfl,c⟩:=hY c;have c:=aT c;obtain rfl:i=0:=Rl c.1;exact⟨t,g,r,ifs,s,pos,QJ,wF c.2⟩
theorem ql{ts:QI QN}{n:RG}{b cnd k e:PE}{names:bD}{f:RX}(c:aQ (.V ts n b cnd k e) names f=QO):∃x v t r ifs s pos,f=.DictComp x v [⟨t,r,ifs,0⟩] s pos∧cN names ts n b cnd t r ifs s∧aQ k s.names x=QO∧aQ e s.names v=true:=by
 (refine rT (λx v l s pos a c=> ?_) (ME c);subst a)
 obtain⟨⟨t,r,ifs,i⟩,rfl,c⟩:=hY c;have c:=aT c;obtain rfl:i=0:=Rl c.1;have g:=wF c.2;exact⟨x,v,t,r,ifs,s,pos,QJ,g.1,aT g.2⟩
noncomputable def xt(C:QN→QI PV→M PV)(cnd e:PE)(f:ay)(acc:QI PV):M (QI PV):=((ak C cnd f).a bI).a λp=>Sr p ((ak C e f).a λy=>.c (Tv acc.length aR) (.b (acc++[y]))) (.b acc)
noncomputable def vr(C:QN→QI PV→M PV)(cnd k e:PE)(f:ay)(acc:QI (RW×PV)):M (QI (RW×PV)):=((ak C cnd f).a bI).a λp=>Sr p ((ak C k f).a λa=>(cw a).a λi=>(ak C e f).a λy=>.c (Tv acc.length aR) (.b (eD acc i y))) (.b acc)
theorem GF{ts:QI QN}{t cnd e:PE}{ρ:ay}{σ σ':af}{p:PV}(f:ak C (.N ts t cnd e) ρ σ=QG (p,σ')):∃n c l b,((ak C t ρ).a λv=>Sr QR (gU v) (dh v)) σ=QG (n,c)∧(!(n.1.qa&& !(cnd.qa&&e.qa)))=QO∧
  dA n.1 n.2 (λZ=>QR) (λx acc=>(bL ts x ρ).a λi=>xt C cnd e i acc) n.2 [] c=QG (l,b)∧p=.B b.length∧σ'=b++[.A l]:=by
 refine bQ (λv m o f=> ?_) (bS f);refine bQ (λn c r f=> ?_) (bS f);refine oA (λs f=> ?_) (ky f);refine bQ (λl b u g=> ?_) (bS f);refine oA (λZ g=> ?_) (ky g);exact(fz n c l b (UG.mpr (ai _ o r)) s u ((sP g).1.symm) ((sP g).2.symm))
theorem Du{ts:QI QN}{m:RG}{t cnd k e:PE}{ρ:ay}{σ σ':af}{p:PV}(f:ak C (.V ts m t cnd k e) ρ σ=QG (p,σ')):∃n c l b,((ak C t ρ).a λv=>Sr m (gU v) (dh v)) σ=QG (n,c)∧(!(n.1.qa&& !(cnd.qa&&k.qa&&e.qa)))=QO∧
  dA n.1 n.2 (λZ=>QR) (λx acc=>(bL ts x ρ).a λg=>vr C cnd k e g acc) n.2 [] c=QG (l,b)∧p=.B b.length∧σ'=b++[.B l]:=by
 refine bQ (λv i r f=> ?_) (bS f);refine bQ (λn c s f=> ?_) (bS f);refine oA (λu f=> ?_) (ky f);refine bQ (λl b y o=> ?_) (bS f);exact(fz n c l b (UG.mpr (ai _ r s)) u y ((sP o).1.symm) ((sP o).2.symm))
noncomputable abbrev aX.cx{B:Type}{k:aq}{t:QI B→RI→aH→Prop}{j:QN}{ρ:ay}{acc:QI B}{h:RI}{ads:aH}{σ:af}(V:aX k t j ρ acc h ads σ){names:bD}(N:cO names k.Pu){A:SY}(hm:br A d)(E:QU→QZ→Prop)(s₀:QZ)(tk:QN):Cx k.Pw k.w k.hs d:=
 {NA:=names,Nx:=k.Pu,ρ:=ρ,A:=A,E:=E,s:={s₀ with heap:=h,toks:=tk},Nz:=ads,σ:=σ,N:=N,hm:=hm,R:=V.R,ER:=V.ER}
section
variable{k:aq}{names:bD}{A:SY}{E:QU→QZ→Prop}{s₀:QZ}{j:QN}{ρ:ay}{h:RI}{ads:aH}{tk:QN}{σ σ':af}{Pp:QZ→Prop}{ifs:QI RX}{cnd e:PE}
theorem GS{t:RX}{acc l:QI PV}(a:dM k)(N:cO names k.Pu)(hm:br A d)(hc:Tr k.Pw k.w k.hs d C cnd)(he:Ok k.Pw k.w k.hs d C e)(L:(match ifs with|[]=>jq cnd|i::r=>r.isEmpty&&aQ cnd names i)=QO)(O:aQ e names t=QO)
  (W:(k.Px.qa=QO→cnd.qa=QO)∧(k.Px.qa=QO→e.qa=QO)) (hr:xt C cnd e ρ acc σ=QG (l,σ')) (V:aX k (pO k.D) j ρ acc h ads σ) (X:∀J G P,aX k (pO k.D) j ρ l J G σ'→Pp {s₀ with heap:=J,toks:=P}):
  Rh (Rf k.Pw k.w) A (forIn ifs QO λi r=>if r=QO then do let Q←YC i k.Pu (US i k.Pu);UK (TK Q) else UK (TK r)) (λQ s=>
   if Q=QO then Rh (Rf k.Pw k.w) A (US t k.Pu) (λx H=>Rh (Rf k.Pw k.w) A (Ur (.builtin "list.append") [.ref k.D,x]) (λZ I=>Pp I) E H) E s else Pp s) E {s₀ with heap:=h,toks:=tk}:=by
 refine Ad hc (V.cx N hm E s₀ tk) L W.1 hr λp h2 Y R a1 R2 m2 ex=> ?_;refine have S:=V.PN (lK k.D) R2 m2;?_
 induction p using QL with
 |false=>
  (refine oA (λm n=> ?_) (sP ex);subst m;revert n;intro o;subst o)
  exact X _ _ _ S
 |true=>
  refine bQ (λy u e5 T=> ?_) (bS ex);refine oA (λhl T=> ?_) (ky T)
  (refine oA (λz B=> ?_) (sP T);subst z;revert B;intro F;subst F)
  refine he (S.cx N hm E s₀ R) t k.Px.qa O W.2 y u e5 _ λv h3 a0 a2 R3 m3 r3=> ?_;refine have V3:=S.PN (lK k.D) R3 m3;?_;refine cc (λU vs g rv=> ?_) (V3.PM);exact qbU g (λJ g' sb=>X J _ _ (V3.PQ (lK k.D) a sb (g'.elim λZ x=>⟨_,x⟩) λk=>(cE (by rw[QW];exact lB hl) (vs++[v]) (qcy .. ▸g') (aA.c (aA.f (av.a k _ r3)) (aA.b k _ rv))))) (by rw[RZ,rv.a];exact dT U)
theorem DC{T U:RX}{R:PE}{acc m:QI (RW×PV)}(a:dM k)(N:cO names k.Pu)(hm:br A d)(hc:Tr k.Pw k.w k.hs d C cnd)(hk:Ok k.Pw k.w k.hs d C R)(he:Ok k.Pw k.w k.hs d C e)(W:(match ifs with|[]=>jq cnd|i::r=>r.isEmpty&&aQ cnd names i)=QO)(X:aQ R names T=QO)(Y:aQ e names U=QO)
  (hq:(k.Px.qa=QO→(cnd.qa&&R.qa)=QO)∧(k.Px.qa=QO→e.qa=QO)) (hr:vr C cnd R e ρ acc σ=QG (m,σ')) (V:aX k (pN k.Pw k.w k.D) j ρ acc h ads σ) (hP:∀S J a0,aX k (pN k.Pw k.w k.D) j ρ m S J σ'→Pp {s₀ with heap:=S,toks:=a0}):
  Rh (Rf k.Pw k.w) A (forIn ifs QO λi r=>if r=QO then do let ok←YC i k.Pu (US i k.Pu);UK (TK ok) else UK (TK r)) (λok s=>
   if ok=QO then Rh (Rf k.Pw k.w) A (US T k.Pu) (λkv L=>Rh (Rf k.Pw k.w) A (US U k.Pu) (λvv O=>Rh (Rf k.Pw k.w) A (dictSet k.D kv vv) (λZ P=>Pp P) E O) E L) E s else Pp s) E {s₀ with heap:=h,toks:=tk}:=by
 refine have Q:=lM hq.1;?_;refine Ad hc (V.cx N hm E s₀ tk) W Q.1 hr λp h2 a4 a1 a7 R2 m2 ex=> ?_;refine have V2:=V.PN (kD k.D) R2 m2;?_
 induction p using QL with
 |false=>
  (refine oA (λn u=> ?_) (sP ex);subst n;revert u;intro z;subst z)
  exact hP _ _ _ V2
 |true=>
  refine bQ (λx f e5 e6=> ?_) (bS ex);refine hk (V2.cx N hm E s₀ a1) T k.Px.qa X Q.2 x f e5 _ λkv h3 a5 a2 R3 m3 r3=> ?_;refine have V3:=V2.PN (kD k.D) R3 m3;?_
  induction x using PV.casesOn with
  |A i=>
   (revert r3;refine oE λt B=> ?_;subst B)
   refine bQ (λy F e7 e8=> ?_) (bS (show((ak C e ρ).a λy=>M.c (Tv acc.length aR) (.b (eD acc i y))) f=_ from e6));refine oA (λhl e8=> ?_) (ky e8)
   (refine oA (λG H=> ?_) (sP e8);subst G;revert H;intro I;subst I)
   refine he (V3.cx N hm E s₀ a2) U k.Px.qa Y hq.2 y F e7 _ λv h4 a6 a8 R4 m4 r4=> ?_;refine have V4:=V3.PN (kD k.D) R4 m4;?_;refine cc (λa3 a9 g rk=> ?_) (V4.PM);exact wpAny_dictSet_pairs (gG i t) g (λS g' sb=>hP S _ _ (V4.PQ (kD k.D) a sb (g'.elim λo x=>x.elim λZ x=>x.elim λZ x=>⟨o,x.1⟩) λkk=>(cE (QK (vG ..) (lB hl)) _ g' (ba.l (av.a kk _ r4) (rk.b kk))))) (by rw[rk.a];exact dT a3)
  |_=>exact aI e6
end
theorem yy(B:bB prog w hs K){ts:QI QN}{Y cnd e:PE}(v:Ok prog w hs d C Y)(hc:Tr prog w hs d C cnd)(he:Ok prog w hs d C e):mK prog w hs d C (.N ts Y cnd e):=λc ex y Q pv σ' z ev H=>by
 (refine oy (λt Z r ifs J pos b f=> ?_) (rj z);subst b;revert f;refine oA λG z=> ?_)
 (refine rS (λsn P l T e1 hb e3 g i=> ?_) (GF ev);subst g;revert i;intro m;subst m)
 refine oA (λso U=> ?_) (tq B v G.Qn e1);refine vg (e:=.ListComp t [⟨Z,r,ifs,0⟩] J pos) so G.ns G.S (λs Q E h=>XO h) QJ QJ QJ λh1 a0 D L I h0 fp tk O=> ?_
 have n:XQ (Rf prog w) c.A (.compLoop (.ListComp t [⟨Z,r,ifs,0⟩] J pos) 0 (.ref I) (.ref D) (eW J c.Nx L)) (qbj (Rf prog w) c.A c.E y Q (.ref D) L) {c.s with heap:=h0,toks:=tk}:=
  vh (s₀:={c.s with heap:=h0,toks:=tk}) (λIv u k V=>Hs Iv u k V) (lK D) O.ap (nu G.S) c.hm.Qh G.ct (zq G.S G.ct) U
   (λj a3 a4 a1 h ads W σ σ' Pp hr V' hP=>GS (s₀:=c.s) O.ap (nu G.S) c.hm hc he G.Qo z (zr hb) hr V' hP) e3 ⟨O.R,O.ER,O.it,O.F,au.Pg _ _ _,RQ _,[],⟨_,O.PA⟩,QJ⟩ tk QJ
   (λh a2 h' W S2 V R2 F2 p X=>vf (o:=.A l) O (lK D) (λh ads a=>a.2.elim λvs x=>(cW QJ vs x.1 x.2 a.1)) H S2 V R2 F2 p X)
 exact codeAny_compStart_list n (xo O.it n)
theorem yx(B:bB prog w hs K){ts:QI QN}{en:RG}{Y cnd k e:PE}(v:Ok prog w hs d C Y)(hc:Tr prog w hs d C cnd)(n:Ok prog w hs d C k)(he:Ok prog w hs d C e):mK prog w hs d C (.V ts en Y cnd k e):=λc ex y Q pv σ' ck ev H=>by
 (refine rU (λZ vx tg r ifs z pos b f=> ?_) (ql ck);subst b;revert f;refine bk λG J N=> ?_)
 (refine rS (λsn P l T e1 hb e3 g i=> ?_) (Du ev);subst g;revert i;intro m;subst m)
 refine oA (λso U=> ?_) (tq B v G.Qn e1);refine vg (e:=.DictComp Z vx [⟨tg,r,ifs,0⟩] z pos) so G.ns G.S (λs Q E h=>XO h) QJ QJ QJ λh1 a0 D L I h0 fp tk O=> ?_
 have u:XQ (Rf prog w) c.A (.compLoop (.DictComp Z vx [⟨tg,r,ifs,0⟩] z pos) 0 (.ref I) (.ref D) (eW z c.Nx L)) (qbj (Rf prog w) c.A c.E y Q (.ref D) L) {c.s with heap:=h0,toks:=tk}:=
  vh (s₀:={c.s with heap:=h0,toks:=tk}) (λIv t k n=>Hr Iv t k n) (kD D) O.ap (nu G.S) c.hm.Qh G.ct (zq G.S G.ct) U
   (λj a3 a4 a1 h ads W σ σ' Pp hr V' hP=>DC (s₀:=c.s) O.ap (nu G.S) c.hm hc n he G.Qo J N (zr hb) hr V' hP) e3 ⟨O.R,O.ER,O.it,O.F,au.Pg _ _ _,RQ _,[],nE _ O.PA,QJ⟩ tk QJ
   (λh a2 h' W S2 n R2 F2 p X=>vf (o:=.B l) O (kD D) (λh ads a=>a.2.elim λvs x=>(cW QJ vs x.1 x.2 a.1)) H S2 n R2 F2 p X)
 exact codeAny_compStart_dict u (xo O.it u)
theorem Jb(B:bB prog w hs K){ts:QI QN}{i cnd e:PE}(t:Ok prog w hs d C i)(g:Tr prog w hs d C cnd)(l:Ok prog w hs d C e):Ok prog w hs d C (.N ts i cnd e):=λc x q b m p σ' n Q H=>by
 have k:=yy B t g l c x RM Q p σ' b n (vO λv o s tk R S r=>H v o s tk R ⟨S,bP m QJ⟩ r)
 (refine oy (λu y f ifs z pos a Z=> ?_) (rj b);subst a)
 exact k
theorem IU(B:bB prog w hs K){ts:QI QN}{n:RG}{i cnd k e:PE}(t:Ok prog w hs d C i)(g:Tr prog w hs d C cnd)(l:Ok prog w hs d C k)(m:Ok prog w hs d C e):Ok prog w hs d C (.V ts n i cnd k e):=λc x q b o p σ' u Q H=>by
 have k:=yx B t g l m c x RM Q p σ' b u (vO λv y s tk R S r=>H v y s tk R ⟨S,bP o QJ⟩ r)
 (refine rU (λz D F f ifs G pos a Z=> ?_) (ql b);subst a)
 exact k
end
noncomputable def md(e:PE):Bool:=match e with
 | .N Z U Y O=>QO
 | .V Z U Y O a b=>QO
 |_=>QR
section
variable{prog:RP}{w:Sn}{hs:RI}{K:VH}{d:QN}{C:QN→QI PV→M PV}
structure aN(prog:RP)(w:Sn)(hs:RI)(d:QN)(C:QN→QI PV→M PV)(e:PE):Prop where
 ok:Ok prog w hs d C e
 tr:Tr prog w hs d C e
 cp:md e=QO→mK prog w hs d C e
noncomputable def Mt(n:QN):Bool:= !SW n 0&& !SW n 3&& !SW n 5&& !SW n 15
theorem mX{n m:QN}(h:(!SW n m)=QO):n≠m:=λq=>by rw[q,ZI] at h;exact aD h
theorem aN.QB{e:PE}(k:Ok prog w hs d C e)(i:Mt (qR e)=QO)(p:md e=QO→mK prog w hs d C e):aN prog w hs d C e:=
 ⟨k,Ak k λs x v l c=>by
  rw[←jR c] at i;have h:=aT i;have a:=aT h.1;have b:=aT a.1
  exact Gp (mX b.1) (mX b.2) (mX a.2) (mX h.2) v l,p⟩
theorem df{P:Prop}(h:QR=QO):P:=aD h
theorem iA(B:bB prog w hs K)(KC:fG K)(CO:dZ prog w hs d C)(e:PE):aN prog w hs (d+1) C e:=by
 induction e using PE.rec (motive_2:=λE=>∀e∈E,aN prog w hs (d+1) C e) with
 |B v=>exact .QB (IT v) QJ df
 |A n=>exact .QB (Jd n) QJ df
 |D n=>exact .QB (IZ B n) QJ df
 |qb n=>exact .QB (IY B n) QJ df
 |J op a b h g=>exact .QB (IL B op h.ok g.ok) QJ df
 |W a h=>
  refine⟨yw h.ok,Ak (yw h.ok) λa0 ex a6 a1 ck=> ?_,df⟩
  (refine bc (λo x pos a2 ck=> ?_) (mH ck);subst a2)
  obtain rfl:=Rl (aT ck).1
  rfl
 |T a h=>exact⟨Jf h.ok,Ma h.tr,df⟩
 |M a b h g=>exact⟨IJ h.ok g.ok,LW h.tr g.tr,df⟩
 |Q a b h g=>exact⟨Jg h.ok g.ok,Mb h.tr g.tr,df⟩
 |H op a b h g=>exact⟨IQ B op h.ok g.ok,LX B op h.ok g.ok,df⟩
 |qc t u a b c h g j=>exact⟨IS B t u h.ok g.ok j.ok,LY B t u h.ok g.ok j.ok,df⟩
 |P c a b j h g=>exact⟨Ja j.tr h.ok g.ok,LZ j.tr h.tr g.tr,df⟩
 |I E z=>exact .QB (Jc (lh λe r=>(z e r).ok)) QJ df
 |G E z=>exact .QB (Jk (lh λe r=>(z e r).ok)) QJ df
 |X=>exact .QB IW QJ df
 |qd ks E z=>exact .QB (IV λe r=>(z e r).ok) QJ df
 |qf k e z=>exact .QB (IX z.ok) QJ df
 |N ts it c e p j s=>exact .QB (Jb B p.ok j.tr s.ok) QJ λZ=>yy B p.ok j.tr s.ok
 |V ts en it c k v p j O U=>exact .QB (IU B p.ok j.tr O.ok U.ok) QJ λZ=>yx B p.ok j.tr O.ok U.ok
 |F f y a3 h=>exact .QB (IP B KC CO a3.ok (lh λe r=>(h e r).ok)) QJ df
 |R o name y l h=>exact .QB (Je B CO KC name l.ok (lh λe r=>(h e r).ok)) QJ df
 |L o m y l h=>exact .QB (IM l.ok (lh λe r=>(h e r).ok)) QJ df
 |K o a l=>exact .QB (IK B a l.ok) QJ df
 |C o i l p=>exact .QB (Jj l.ok p.ok) QJ df
 |S o lo hi l a4 a5=>exact .QB (Jh l.ok a4.ok a5.ok) QJ df
 |qe o l=>exact .QB (Ji l.ok) QJ df
 |nil=>cases a
 |cons e E s Y=>
  exact(mC a).elim (λq=>q▸s) (Y _)
end
noncomputable def zL(k:Rz RX→Xv→RG)(x:Wo):Bool:=is x.ctorIdx 3 λh=>YG x h k
noncomputable def zH(k:QI RX→RX→Xv→RG)(x:Wo):Bool:=is x.ctorIdx 5 λh=>YH x h k
noncomputable def zJ(k:RX→RX→QI Wo→QI Wo→Xv→RG)(x:Wo):Bool:=is x.ctorIdx 9 λh=>qaa x h k
noncomputable def zM(k:RX→QI Wo→QI Wo→Xv→RG)(x:Wo):Bool:=is x.ctorIdx 11 λh=>YS x h k
noncomputable def zK(k:RX→QI Wo→QI Wo→Xv→RG)(x:Wo):Bool:=is x.ctorIdx 12 λh=>qaE x h k
noncomputable def zI(k:RX→Xv→RG)(x:Wo):Bool:=is x.ctorIdx 24 λh=>ZA x h k
theorem KQ{k}{x:Wo}(h:zL k x=QO):∃a b,x=.Return a b∧k a b=true:=(dq h).elim λe c=>YG (motive_2:=λx=>∀e,YG x e k=QO→∃a b,x=.Return a b∧k a b=QO) x e (λa b Z h=>(fy a b QJ h)) e c
theorem KL{k}{x:Wo}(h:zH k x=QO):∃a b c,x=.Assign a b c∧k a b c=true:=(dq h).elim λe f=>YH (motive_2:=λx=>∀e,YH x e k=QO→∃a b c,x=.Assign a b c∧k a b c=QO) x e (λa b c Z h=>(cy a b c QJ h)) e f
theorem KO{k}{x:Wo}(h:zJ k x=QO):∃a b c d f,x=.For a b c d f∧k a b c d f=true:=(dq h).elim λe g=>qaa (motive_2:=λx=>∀e,qaa x e k=QO→∃a b c d f,x=.For a b c d f∧k a b c d f=QO) x e (λa b c d f Z h=>⟨a,b,c,d,f,QJ,h⟩) e g
theorem KR{k}{x:Wo}(h:zM k x=QO):∃a b c d,x=.While a b c d∧k a b c d=true:=(dq h).elim λe f=>YS (motive_2:=λx=>∀e,YS x e k=QO→∃a b c d,x=.While a b c d∧k a b c d=QO) x e (λa b c d Z h=>(fP a b c d QJ h)) e f
theorem KP{k}{x:Wo}(h:zK k x=QO):∃a b c d,x=.If a b c d∧k a b c d=true:=(dq h).elim λe f=>qaE (motive_2:=λx=>∀e,qaE x e k=QO→∃a b c d,x=.If a b c d∧k a b c d=QO) x e (λa b c d Z h=>(fP a b c d QJ h)) e f
theorem KN{k}{x:Wo}(h:zI k x=QO):∃a b,x=.Expr a b∧k a b=true:=(dq h).elim λe c=>ZA (motive_2:=λx=>∀e,ZA x e k=QO→∃a b,x=.Expr a b∧k a b=QO) x e (λa b Z h=>(fy a b QJ h)) e c
noncomputable def rW(x:RX):Bool:=Sr (fR x) (lD (λs Z Z=> !(s.all (qbi 8))||s.all (foldedForSure 8)) x) QO
noncomputable def va(t:PT)(s:bD)(x tx:RX):Bool:=match t with
 | .A c=>iw (λy Z=>et c y&&fQ (s.lookup y)) tx
 | .B b=>lD (λg Z Z=>(Tv 1 b.length&&hZ s b g)&&(Rc b.Nodup&&rW x)) tx
 | .D o a=>ly (λe y Z=>et a y&&aQ o s e) tx
 | .C o i=>lC (λe f Z=>rJ f&&(aQ o s e&&aQ i s f)) tx
mutual
noncomputable def lS:PS→bD→Wo→RG
 | .B e,s,f=>zL (λv Z=>match v with|none=>mh e|some x=>aQ e s x) f
 | .A t e,s,f=>zH (λg x Z=>hX (λh=>aQ e s x&&va t s x h) g) f
 | .C c a b,s,f=>zK (λt x y Z=>aQ c s t&&(fK a s x&&fK b s y)) f
 | .G c b,s,f=>zM (λt x l Z=>l.isEmpty&&(aQ c s t&&fK b s x)) f
 | .D j n i b,s,f=>zJ (λt r x l Z=>l.isEmpty&&((Sr n (lA s (aQ i s) r&&fR t) (aQ i s r)&&eH r)&&(fL s j t&&fK b s x))) f
 | .F e,s,f=>zI (λx Z=>aQ e s x&& !md e) f
noncomputable def fK:QI PS→bD→QI Wo→RG
 |[],Z,t=>t.isEmpty
 |s::r,e,t=>match t with
  |[]=>QR
  |x::a=>lS s e x&&fK r e a
end
def ug(h:RI)(s:aH):Fl→Flow→Prop
 | .A,f=>f=.next
 | .B p,f=>∃v,f=.ret v∧av h s p v
section
variable{prog:RP}{w:Sn}{hs:RI}{K:VH}{d:QN}{C:QN→QI PV→M PV}
def gX(c:Cx prog w hs d)(r:Fl×ay)(σ':af)(Q:Flow→QZ→Prop):Prop:=
 ∀h a k f,ah prog w hs h a σ'→aw hs h a c.Nx r.2→au (eh c.Nx) c.s.heap c.Nz h a→ug h a r.1 f→Q f {c.s with heap:=h,toks:=k}
def gw(prog:RP)(w:Sn)(hs:RI)(d:QN)(C:QN→QI PV→M PV)(a:PS):Prop:=∀(c:Cx prog w hs d) (x:Wo) (r:Fl×ay) (t:af) (Q:Flow→QZ→Prop),
 lS a c.NA x=QO→jf C a c.ρ c.σ=QG (r,t)→gX c r t Q→Rh (Rf prog w) c.A (exec x c.Nx) Q c.E c.s
def hM(prog:RP)(w:Sn)(hs:RI)(d:QN)(C:QN→QI PV→M PV)(a:QI PS):Prop:=∀(c:Cx prog w hs d) (x:QI Wo) (r:Fl×ay) (t:af) (Q:Flow→QZ→Prop),
 fK a c.NA x=QO→dm C a c.ρ c.σ=QG (r,t)→gX c r t Q→Rh (Rf prog w) c.A (execs x c.Nx) Q c.E c.s
noncomputable abbrev Cx.NC(c:Cx prog w hs d){h:RI}{a:aH}{σ':af}{b:ay}(tk:QN)(e:ah prog w hs h a σ')(E:aw hs h a c.Nx b):Cx prog w hs d:=
 {c with s:={c.s with heap:=h,toks:=tk},Nz:=a,σ:=σ',ρ:=b,R:=e,ER:=E}
noncomputable abbrev Cx.ND(c:Cx prog w hs d)(E:QU→QZ→Prop):Cx prog w hs d:={c with E:=E}
theorem aw.OC{env:Wq}{ρ:ay}{h:RI}{s:aH}(ER:aw hs h s env ρ):∀b∈eh env,¬bF s b:=λb a=>(nK a).elim (λq=>q▸ER.Ow.1)<|oE λx e=>(ER.Ou x b e).2.1
theorem aw.OG{env:Wq}{ρ:ay}{h:RI}{s:aH}(ER:aw hs h s env ρ):∀b∈eh env,∃o,h.get? b=QG o:=λb a=>(nK a).elim (λq=>q▸ER.ns.elim λZ x=>x.elim λo x=>x.elim λZ x=>x.elim λZ x=>⟨o,x.1⟩)<|oE λx e=>(ER.Ou x b e).1.elim λZ y=>y.elim λo z=>⟨o,z.1⟩
theorem Cx.NB(c:Cx prog w hs d){h:RI}{a:aH}{q:RG}(m:Mv q c.s.heap c.Nz h a):au (eh c.Nx) c.s.heap c.Nz h a:=m.st.Ph (λZ b=>nomatch b) c.ER.OC
theorem gX.a{c:Cx prog w hs d}{r:Fl×ay}{σ':af}{Q:Flow→QZ→Prop}(H:gX c r σ' Q){h:RI}{b:aH}{e:af}{g:ay}{tk:QN}(i:ah prog w hs h b e)(R:aw hs h b c.Nx g)(S:au (eh c.Nx) c.s.heap c.Nz h b):gX (c.NC tk i R) r σ' Q:=
 λl j k f m E n o=>H l j k f m E (S.Pb n) o
theorem Kp{e:PE}{s:bD}{x:Wo}(k:lS (.B e) s x=QO):(∃y p,x=.Return (QG y) p∧aQ e s y=QO)∨∃p,x=.Return RM p∧e=.B .G:=by
 (refine bq (λv p a k=> ?_) (KQ k);subst a)
 induction v using QQ with
 |none=>exact .inr (ai p QJ (xP k))
 |some y=>exact .inl (fy y p QJ k)
theorem Ju{e:PE}(o:Ok prog w hs d C e):gw prog w hs d C (.B e):=λc x r S Q l q H=>by
 refine bQ (λv a m u=> ?_) (bS q)
 (refine oA (λb f=> ?_) (sP u);subst b;revert f;intro g;subst g)
 rcases Kp l with⟨y,p,rfl,l⟩|⟨p,rfl,rfl⟩
 ·exact wpAny_Return_some (o c y QR l (λz=>aD z) v a m _ λA D k t E n F=>H D k t _ E (c.ER.Oy n.st c.R) (c.NB n) (ai A QJ F))
 ·(refine oA (λh i=> ?_) (sP m);subst h;revert i;intro j;subst j)
  exact wpAny_Return_none (H c.s.heap c.Nz c.s.toks _ c.R c.ER (au.Pg _ _ _) (ai _ QJ QJ))
theorem Js{t:PE}{a b:QI PS}(i:Tr prog w hs d C t)(j:hM prog w hs d C a)(l:hM prog w hs d C b):gw prog w hs d C (.C t a b):=λc x r S Q k n H=>by
 (refine cv (λo u y pos e k=> ?_) (KP k);subst e)
 have k:=aT k;have q:=aT k.2;refine bQ (λp f A h=> ?_) (bS n);refine wpAny_If (i c o QR k.1 (λz=>aD z) p f A _ λv D s g R m B=> ?_);obtain rfl:v=p:=B
 induction v using QL with
 |true=>exact j (c.Ny g R m) u r S Q q.1 h (H.a R _ (c.NB m))
 |false=>exact l (c.Ny g R m) y r S Q q.2 h (H.a R _ (c.NB m))
theorem HS{e:PE}{s:bD}{x:RX}{line:QN}{env:Wq}(k:aQ e s x=QO)(c:(!md e)=QO):swapsWith x RM line env=UK false:=by
 have h:x.ctorIdx≠8∧x.ctorIdx≠9∧x.ctorIdx≠10:=by
  rw[jR k]
  induction e using PE.casesOn<;>first|exact(aL (SV QJ) (SV QJ) (SV QJ))|exact aD c
 induction x using SU<;>first|rfl|exact Ro QJ h.1|exact Ro QJ h.2.1|exact Ro QJ h.2.2
theorem Jq{e:PE}(i:Ok prog w hs d C e):gw prog w hs d C (.F e):=λc x r S Q k j H=>by
 (refine bq (λx pos a k=> ?_) (KN k);subst a)
 have k:=aT k;refine bQ (λv b l n=> ?_) (bS j)
 (refine oA (λf g=> ?_) (sP n);subst f;revert g;intro h;subst h)
 have o:interactive c.Nx=false:=by unfold interactive;rw[c.ER.Ov];rfl
 rw[exec_Expr c.Nx x pos o (HS k.1 k.2)];exact QH (Sj (QH (i c x QR k.1 (λz=>aD z) v b l _ λu p s t q m y=>wpAny_dropValue (H p s t _ q (c.ER.Oy m.st c.R) (c.NB m) QJ))))
theorem yA:hM prog w hs d C []:=λc x r t Q k v H=>by
 obtain rfl:=iE k
 (refine oA (λe a=> ?_) (sP v);subst e;revert a;intro b;subst b)
 exact qaW (H c.s.heap c.Nz c.s.toks _ c.R c.ER (au.Pg _ _ _) QJ)
theorem yz{j:PS}{l:QI PS}(p:gw prog w hs d C j)(q:hM prog w hs d C l):hM prog w hs d C (j::l):=λc x r t Q k u H=>by
 induction x using Rm with
 |nil=>exact aD k
 |cons x y=>
  have k:=aT k;obtain⟨⟨⟨z,D⟩,i⟩,F,m⟩:=bS u;refine wpAny_execs_cons (p c x _ _ _ k.1 F λG s n f R E S o=> ?_)
  induction z using Fl.casesOn with
  |A=>
   obtain rfl:f=.next:=o;exact q (c.NC n R E) y r t Q k.2 m (H.a R E S)
  |B J=>
   (revert o;refine ag λv e I=> ?_;subst e)
   (refine oA (λb g=> ?_) (sP m);subst b;revert g;intro h;subst h)
   exact H G s n _ R E S (ai v QJ I)
theorem Jv{t:PE}{b:QI PS}(ht:Tr prog w hs d C t)(hb:hM prog w hs d C b):gw prog w hs d C (.G t b):=λc x r U Q I ev H=>by
 (refine cv (λtx bd a1 pos j I=> ?_) (KR I);subst j)
 refine have I:=aT I;?_;refine have Z:=aT I.2;?_;obtain rfl:=iE I.1
 refine wpAny_While (codeAny_whileLoop (λk s'=>∃h T g l m,s'={c.s with heap:=h,toks:=T}∧ah prog w hs h g m∧aw hs h g c.Nx l∧au (eh c.Nx) c.s.heap c.Nz h g∧
  mE (λV=>(ak C t V).a bI) (λV=>dm C b V) k l m=QG (r,U)) ?_ mD ⟨c.s.heap,c.s.toks,c.Nz,c.ρ,c.σ,QJ,c.R,c.ER,au.Pg _ _ _,ev⟩)
 rintro k s' ⟨h,T,a0,l,m,rfl,W,E,S1,e⟩
 induction k using Uo with
 |zero=>exact aI e
 |succ k=>
  refine bQ (λp X e1 e2=> ?_) (bS e);refine ht ((c.NC T W E).ND _) tx QR Z.1 (λz=>aD z) p X e1 _ λv h2 J L R2 m2 r2=> ?_;obtain rfl:v=p:=r2;refine have N:=E.Oy m2.st W;?_;refine have S:=S1.Pb ((c.NC T W E).NB m2);?_
  induction v using QL with
  |false=>
   (refine oA (λn o=> ?_) (sP e2);subst n;revert o;intro q;subst q)
   exact qaW (H h2 J L _ R2 N S QJ)
  |true=>
   obtain⟨⟨⟨f3,Y⟩,a2⟩,e6,e7⟩:=bS e2;refine hb ((c.NC L R2 N).ND _) bd _ _ _ Z.2 e6 λh3 i O f R3 P S3 r3=> ?_
   induction f3 using Fl.casesOn with
   |A=>
    obtain rfl:f=.next:=r3;exact⟨k,TB _,h3,O,i,Y,_,QJ,R3,P,S.Pb S3,e7⟩
   |B rv=>
    (revert r3;refine ag λv u rv=> ?_;subst u)
    (refine oA (λy D=> ?_) (sP e7);subst y;revert D;intro F;subst F)
    exact H h3 i O _ R3 P (S.Pb S3) (ai v QJ rv)
end
section
variable{prog:RP}{w:Sn}{hs:RI}{K:VH}{d:QN}{C:QN→QI PV→M PV}{ads:aH}{σ σ':af}
structure dC(prog:RP)(w:Sn)(hs:RI)(env:Wq)(fp:QI RK)(src:aG)(n:QN)(I:RK)(h0:RI)(ads0:aH)(j:QN)(ρ:ay)(h:RI)(ads:aH)(σ:af):Prop where
 R:ah prog w hs h ads σ
 ER:aw hs h ads env ρ
 it:de prog w h ads n j I fp src
 F:bC hs h ads fp
 S:au (fp++eh env) h0 ads0 h ads
theorem aw.OI{env:Wq}{ρ:ay}{h f:RI}{p:QI RK}(E:aw hs h ads env ρ)(K:bw h ads f ads)(k:∀b o,b∉p→h.get? b=QG o→f.get? b=QG o)(j:env.locals∉p)(m:∀x a,env.cells.lookup x=QG a→a∉p):aw hs f ads env ρ:=by
 have L:∀o,h.get? env.locals=QG o→f.get? env.locals=QG o:=λo e=>k _ o j e;have i:∀x a,env.cells.lookup x=QG a→∀o,h.get? a=QG o→f.get? a=QG o:=λx a l o e=>k _ o (m x a l) e
 exact⟨E.Ov,E.OA,E.Oz,E.ns.imp λZ n=>n.at' L,λc x v q s r=>(E.OB c x v q s r).imp λZ y=>⟨av.a K _ y.1,y.2.a L (i x)⟩,
  λx a l=>(E.Ou x a l).imp (λy=>y.imp λZ z=>z.imp λo g=>⟨i x a l o g.1,g.2⟩) id,E.inj,E.Ow⟩
theorem au.Pt{r p:QI RK}{a f h:RI}{s c:aH}(g:au r a s f c)(S:au (p++r) f c h ads):∀b,bF ads b→bF s b∨a.get? b=none:=λb i=>
 (S.Pd b i).elim (g.Pd b) λz=>(Wx (bF s b)).imp id λn=>by
  induction e:a.get? b using QQ with
  |none=>rfl
  |some o=>exact(g.Pj n e).elim λZ j=>bV (j.symm.trans z)
theorem au.Po{r p:QI RK}{a i j h l:RI}{f s:aH}(u:au r a f i s)(k:∀b o,i.get? b=QG o→j.get? b=QG o)(S:au (p++r) j s h ads)(v:∀b∈p,a.get? b=RM)(m:∀b o,b∉p→h.get? b=QG o→l.get? b=QG o):au r a f l ads:=by
 have c:=u.Pb ((aP.MM s k).MP r);have n:∀{b o},a.get? b=QG o→b∉p:=λe q=>bV (e.symm.trans (v _ q))
 exact⟨c.Pc.trans S.Pc,c.Pt S,λb o t g e=>m b o (n e) (S.Pa b o (c.Pf t e) (λq=>(mA q).elim (n e) g) (c.Pa b o t g e)),
  λb o g e=>(c.Pe b o g e).elim λx y=>(S.Pe b x (SF _ g) y).imp λz A=>m b z (n e) A⟩
theorem Ed{ts:QI QN}{h:RG}{t:PE}{b:QI PS}{ρ:ay}{r:Fl×ay}(e:jf C (.D ts h t b) ρ σ=QG (r,σ')):∃n c,((ak C t ρ).a λv=>Sr h (gU v) (dh v)) σ=QG (n,c)∧n.1.qa=QR∧
  dA n.1 n.2 Fl.qa (λx s=>(bL ts x s.2).a λf=>dm C b f) n.2 (.A,ρ) c=QG (r,σ'):=by
 refine bQ (λv g i e=> ?_) (bS e);refine bQ (λn c j e=> ?_) (bS e);refine oA (λk e=> ?_) (ky e);exact(cX n c (UG.mpr (ai _ i j)) (by simpa using k) e)
theorem Ec{ts:QI QN}{n:RG}{i:PE}{b:QI PS}{s:bD}{x:Wo}(k:lS (.D ts n i b) s x=QO):∃t r f pos,x=.For t r f [] pos∧Sr n (lA s (aQ i s) r&&fR t) (aQ i s r)=QO∧eH r=QO∧fL s ts t=QO∧fK b s f=true:=by
 (refine rT (λt r f l pos e k=> ?_) (KO k);subst e)
 have k:=aT k;have q:=aT k.2;have c:=aT q.1;have a:=aT q.2;obtain rfl:=iE k.1;exact(fz t r f pos QJ c.1 c.2 a.1 a.2)
structure dU(c:Cx prog w hs d)(fp:QI RK)(h1 h2:RI)(ads1:aH):Prop where
 S1:au [] c.s.heap c.Nz h1 ads1
 Qq:∀b o,h1.get? b=QG o→h2.get? b=QG o
 n0:∀b∈fp,c.s.heap.get? b=RM
 ap:∀b∈fp,b∉eh c.Nx
theorem dU.Qp{c:Cx prog w hs d}{p:QI RK}{j i:RI}{e:aH}(X:dU c p j i e){r:Fl×ay}{Q:Flow→QZ→Prop}(H:gX c r σ' Q){h g:RI}{a:aH}{tk:QN}{f:Flow}(S:au (p++eh c.Nx) i e h a)(k:∀b o,b∉p→h.get? b=QG o→g.get? b=QG o)
  (R:ah prog w hs g a σ') (E:aw hs g a c.Nx r.2) (l:ug g a r.1 f):Q f {c.s with heap:=g,toks:=tk}:=
 H g a tk f R E ((X.S1.Ph (λZ m=>nomatch m) c.ER.OC).Po X.Qq S X.n0 k) l
theorem Ee{c:Cx prog w hs d}{W:QI RK}{h1 h2:RI}{j:aH}(X:dU c W h1 h2 j){ts:QI QN}{b:QI PS}{tg:RX}{bd:QI Wo}{i:aG}{n k:QN}{I:RK}{r:Fl×ay}{Y:QU→QZ→Prop}{S:Rz QU→QZ→Prop}{Next:QZ→Prop}{Q:Flow→QZ→Prop}(m:hM prog w hs d C b)(ct:fL c.NA ts tg=QO)(cb:fK b c.NA bd=QO)(D:i.qa=QR)(a6:iL i=QO→fR tg=QO)(H:gX c r σ' Q)
  {h:RI} {tk:QN} {l:aH} {a0:ay} {a1:af} (V:dC prog w hs c.Nx W i n I h2 j (n-(k+1)) a0 h l a1) (hk:k+1≤n) (e:dA i n Fl.qa (λx st=>(bL ts x st.2).a λG=>dm C b G) (k+1) (.A,a0) a1=QG (r,σ'))
  (hS:∀v s',Rh (Rf prog w) c.A (TV tg (.ref I) v) (λZ s₂=>Rh (Rf prog w) c.A (XC tg c.Nx v) (λZ a2=>Rh (Rf prog w) c.A (execs bd c.Nx) (λf u=>match f with| .next=>Next u| .ret v=>Q (.ret v) u|_=>False) Y a2) Y s₂) Y s'→S (QG v) s')
  (hN:∀h5 J g p t,dC prog w hs c.Nx W i n I h2 j (n-k) p h5 g t→dA i n Fl.qa (λx st=>(bL ts x st.2).a λG=>dm C b G) k (.A,p) t=QG (r,σ')→Next {c.s with heap:=h5,toks:=J}):
  Rh (Rf prog w) c.A (ZR (.ref I)) S Y {c.s with heap:=h,toks:=tk}:=by
 refine bQ (λy b1 e5 e6=> ?_) (bS e);obtain⟨⟨⟨f3,p⟩,t⟩,e7,e8⟩:=bS e6;refine bQ (λb2 b3 e9 a7=> ?_) (bS e7);have hL:c.Nx.locals∉W:=λq=>X.ap _ q (QM ..);refine Al c.N c.hm.Qh ct (λz Z x Z=>oV c.Nx x) e5 e9 (uw (by assumption)) a6 V.R V.ER V.it V.F hL (λy a h q=>X.ap _ q (nJ h)) X.ap V.ER.OC hS λa8 h3 a9 R3 E S3 K3 b0=> ?_;subst a8;have F3:=V.F.OY S3;refine m (((c.NC a9 R3 E)).ND Y) bd _ _ _ cb a7 λh5 g J f R5 a3 S5 r5=> ?_;have L:∀b∈W++eh c.Nx,¬bF l b:=λb m=>(mA m).elim (F3.OV b) (E.OC b);have a4:=(V.S.Pb S3).Pb (S5.Ph (λb m=>SF _ m) L)
 induction f3 using Fl.casesOn with
 |A=>
  obtain rfl:f=.next:=r5;have K5:bw h3 l h5 g:=R3.Om S5 λb m o e=>(nK m).elim (λq=>E.ns.elim λZ nn=>rK nn (q▸e))<|oE λx ex=>(E.Ou x b ex).1.elim λZ nn=>uT nn e;have a5:=b0.a K5 (λb m o e=>S5.Pa b o (F3.OV b m) (X.ap b m) e) λhq=>fT (hq.symm.trans D);rw[uv (show k+1≤n by assumption)] at a5;exact hN h5 J g p t ⟨R5,a3,a5,F3.OY S5,a4⟩ e8
 |B pv=>
  (revert r5;refine ag λv O rv=> ?_;subst O)
  (refine oA (λP T=> ?_) (sP e8);subst P;revert T;intro U;subst U)
  exact X.Qp H a4 (λZ Z Z e=>e) R5 a3 (ai v QJ rv)
theorem Jr(B:bB prog w hs K){ts:QI QN}{en:RG}{P:PE}{b:QI PS}(a0:Ok prog w hs d C P)(T:hM prog w hs d C b):gw prog w hs d C (.D ts en P b):=λc x r σ' Q ck ev H=>by
 (refine cv (λtg a6 bd pos o p=> ?_) (Ec ck);subst o;revert p;refine cY λci ns ct cb=> ?_)
 refine cm (λn t e2 z e3=> ?_) (Ed ev);refine oA (λso a1=> ?_) (tq B a0 ci e2);refine wpAny_For (so _ _ λh1 g I fp h2 N S1 R1 U O=> ?_) (vR ns c.Nx);have X:dU c fp h1 h2 g:=⟨S1,O.OR,λb T=>xK S1 R1 (O.OT b T),λb T q=>(U.OG b q).elim λZ e=>bV (e.symm.trans (O.OT b T))⟩;have hL:c.Nx.locals∉fp:=λq=>X.ap _ q (QM ..)
 refine codeAny_forLoop_any (λk W=>∃h N i j l,W={c.s with heap:=h,toks:=N}∧dC prog w hs c.Nx fp n.1 n.2 I h2 g (n.2-k) j h i l∧k≤n.2∧
  dA n.1 n.2 Fl.qa (λx st=>(bL ts x st.2).a λE=>dm C b E) k (.A,j) l=QG (r,σ')) ?_ n.2 ⟨h2,N,g,c.ρ,t,QJ,⟨O.R,U.Ox O.OR,by rw[VI];exact O.it,O.F,au.Pg _ _ _⟩,Sd _,e3⟩
 rintro k W ⟨h,N,i,j,b0,rfl,V,hk,e⟩
 induction k using Uo with
 |zero=>
  refine bQ (λu b1 e5 e6=> ?_) (bS e)
  (refine oA (λG J=> ?_) (sP e6);subst G;revert J;intro L;subst L)
  have P:=V.it;rw[qbs] at P;refine xM c.hm.Qh e5 V.R P V.F λh' b2 a2 R' K' kk=> ?_;subst a2;exact qaW (X.Qp H V.S kk R' (V.ER.OI K' kk hL λy a h q=>X.ap _ q (nJ h)) QJ)
 |succ k=>
  refine Ee X T ct cb z a1 H V hk e (λv W hv=>SJ hv (λZ a7 h=>SJ h (λZ a8 h=>SJ h (λf a9 h=> ?_) λZ Z x=>x) λZ Z x=>x) λZ Z x=>x) (Next:=λW=>∃m,m<k+1∧∃h N i j l,W={c.s with heap:=h,toks:=N}∧dC prog w hs c.Nx fp n.1 n.2 I h2 g (n.2-m) j h i l∧m≤n.2∧
   dA n.1 n.2 Fl.qa (λx st=>(bL ts x st.2).a λE=>dm C b E) m (.A,j) l=QG (r,σ')) λh5 a3 Y a4 a5 V5 e5=>⟨k,TB _,h5,a3,Y,a4,a5,QJ,V5,Sm hk,e5⟩
  induction f using PySem.Flow.casesOn with
  |next=>exact h
  |ret v=>exact h
  |_=>exact h.elim
end
theorem tE{x tx:RX}(h:tx.ctorIdx≠23)(line:QN)(env:Wq):qbF [tx] x line env=UK false:=by
 induction x using SU<;>first|rfl|(induction tx using SU<;>first|rfl|exact Ro QJ h)
theorem LH(x:RX)(y:Ux)(p:Xv)(line:QN)(env:Wq):∃b,qbF [.Name y p] x line env=UK b∧(b=QO→x.ctorIdx=8∨x.ctorIdx=9∨x.ctorIdx=10):=by
 induction x using SU<;>first|exact(ai QR QJ λh=>aD h)|exact(ai _ QJ λZ=>.inl QJ)|exact(ai _ QJ λZ=>.inr (.inl QJ))|exact(ai _ QJ λZ=>.inr (.inr QJ))
theorem Dj{s:bD}{e:PE}{x:RX}(f:aQ e s x=QO)(h:x.ctorIdx=8∨x.ctorIdx=9∨x.ctorIdx=10):md e=QO∧∀env use,evalThenUse x env use=(do let _←ve x env (QG use)):=by
 rw[jR f] at h
 induction e using PE.casesOn with
 |N t i c e=>
  (refine oy (λZ Z Z Z Z Z a Z=> ?_) (rj f);subst a)
  exact⟨QJ,λZ Z=>QJ⟩
 |V t n i c k e=>
  (refine rU (λZ Z Z Z Z Z Z b Z=> ?_) (ql f);subst b)
  exact⟨QJ,λZ Z=>QJ⟩
 |_=>exact h.elim (λh=>(SV QJ h).elim) λh=>h.elim (λh=>(SV QJ h).elim) λh=>(SV QJ h).elim
theorem mU{t:PT}{e:PE}{s:bD}{x:Wo}(k:lS (.A t e) s x=QO):∃tx y pos,x=.Assign [tx] y pos∧aQ e s y=QO∧va t s y tx=true:=by
 (refine bc (λg y pos a k=> ?_) (KL k);subst a)
 (refine ag (λtx b k=> ?_) (hY k);subst b)
 have k:=aT k;exact(jm tx y pos QJ k.1 k.2)
section
variable{prog:RP}{w:Sn}{hs:RI}{K:VH}{d:QN}{C:QN→QI PV→M PV}{σ':af}
theorem mV{c:Cx prog w hs d}{e:PE}{x tx:RX}{pos:Xv}{v:PV}{b:af}{Q:Flow→QZ→Prop}(j:Ok prog w hs d C e)(l:aQ e c.NA x=QO)
  (i:qbF [tx] x pos.line c.Nx=UK QR) (t:XX [tx] x c.Nx=UK RM) (n:ak C e c.ρ c.σ=QG (v,b)) (r:(Wc [tx] c.Nx).map (·.2)=[XC tx c.Nx])
  (H:∀f g a k (R:ah prog w hs g a b) (m:Mv QR c.s.heap c.Nz g a),av g a v f→Rh (Rf prog w) c.A (XC tx c.Nx f) (λZ o=>Q .next o) c.E (c.Ny k R m).s):
  Rh (Rf prog w) c.A (exec (.Assign [tx] x pos) c.Nx) Q c.E c.s:=by
 rw[qdo,i];refine QH (Sj (QH (QT (QH (j c x QR l (λz=>aD z) v b n _ λf g a k R m p=> ?_)))));rw[t,r];refine QH (QT ?_);show Rh _ c.A (do assignAll f [XC tx c.Nx];UK .next) Q c.E _;refine QH ?_;exact SJ (H f g a k R m p) (λZ Z h=>QT h) λZ Z h=>h
theorem uB{c:Cx prog w hs d}{n:QN}{y:Ux}{p:Xv}{v:QU}{e:PV}{Q:UE→QZ→Prop}(b:(et n y&&fQ (c.NA.lookup y))=QO)(r:av c.s.heap c.Nz e v)
  (h:∀f tk,bh prog w hs (eh c.Nx) c.s.heap c.Nz c.σ c.Nx ((n,e)::c.ρ) f→Q () {c.s with heap:=f,toks:=tk}):Rh (Rf prog w) c.A (XC (.Name y p) c.Nx v) Q c.E c.s:=by
 have b:=aT b;show Rh _ c.A (do Zr p;Yt c.Nx y v) _ c.E c.s;exact QH (Sj (mY (eT b.1) (c.N.a b.2) (oV c.Nx y) c.R c.ER r h))
theorem Jm{n:QN}{e:PE}(X:aN prog w hs d C e):gw prog w hs d C (.A (.A n) e):=λc x r σ' Q ck ev H=>by
 (refine bc (λtx x pos j l=> ?_) (mU ck);subst j;revert l;refine oA λk t=> ?_)
 refine bQ (λv O Y e2=> ?_) (bS ev)
 (refine oA (λs u=> ?_) (sP e2);subst s;revert u;intro B;subst B)
 (refine bq (λy p E t=> ?_) (kA t);subst E)
 refine ag (λb i f=> ?_) (LH x y p pos.line c.Nx)
 induction b using QL with
 |false=>exact mV X.ok k i QJ Y QJ λv1 h1 F P R1 m1 r1=>uB (c:=c.Ny P R1 m1) t r1 λU G T=>H U F G _ T.R T.ER ((c.NB m1).Pb T.S) QJ
 |true=>
  refine oA (λhp g=> ?_) (Dj k (f QJ));rw[qdo,i];refine QH (Sj (QH (QT ?_)));rw[SH QJ,g];refine QH (QH (SJ ?_ (λZ Z h=>QT (QT h)) λZ Z h=>h));refine X.cp hp c x _ _ v _ k Y λh' I D L tk R' S' r' V nL sL gL=> ?_;refine uB (c:=c.Ny tk R' S'.mv) t r' λU G T=> ?_;have J:L∉eh c.Nx:=λq=>(c.ER.OG L q).elim λZ e=>bV (e.symm.trans gL)
  (revert V;refine oE λm V=> ?_)
  have N:U.Ns L m:=V.at' λo e=>T.ON L o J e;refine(ai m N λW sb=> ?_);refine bk (λR3 K3 k3=> ?_) (yq T.R nL sL ⟨m,N⟩ sb);have ap:∀b∈eh c.Nx,b∉[L]:=λb i q=>J (m1 q▸i);exact H W I _ _ R3 (T.ER.OI K3 (λb o i e=>k3 b o (λq=>i (q▸.head _)) e) (ap _ (QM ..)) λz a hz=>ap a (nJ hz)) (((c.NB S'.mv).Pb T.S).Pm gL k3) QJ
theorem Jl(B:bB prog w hs K){a:QN}{o e:PE}(W:Ok prog w hs d C e)(X:Ok prog w hs d C o):gw prog w hs d C (.A (.D o a) e):=λc x r σ' Q Y ev H=>by
 (refine bc (λtx x pos h i=> ?_) (mU Y);subst h;revert i;refine oA λI t=> ?_)
 refine bQ (λv J e1 e2=> ?_) (bS ev);refine bQ (λa0 L e3 e4=> ?_) (bS e2);refine bQ (λy f e5 e6=> ?_) (bS e3);refine bQ (λu g e7 e8=> ?_) (bS e6)
 (refine oA (λj k=> ?_) (sP e8);subst j;revert k;intro l;subst l)
 (refine oA (λm n=> ?_) (sP e4);subst m;revert n;intro p;subst p)
 (refine bc (λox an ap q t=> ?_) (pH t);subst q)
 have t:=aT t;refine mV W I (tE (SV QJ) _ _) QJ e1 QJ λv1 h1 T E R N r1=> ?_;rw[arm_assign_Attribute];refine QH (RA (X (c.Ny E R N) ox QR t.2 (λz=>aD z) y f e5 _ λv2 h2 U F O P r2=>QH (Sj (QH (RA ?_)))));exact La (s:={c.s with heap:=h2,toks:=F}) B.sc (λb o hb=>B.NT b o hb) (eT t.1) O r2 (av.a (R.NY P.st) _ r1) u g e7 _ λZ h3 G S R3 V Z=>Ws (H h3 G S _ R3 ((((c.Ny E R N).Ny F O P).ER).Oy V.st O) (c.NB ((N.Qs P).Qs V)) QJ)
theorem Jo{o i e:PE}(he:Ok prog w hs d C e)(ho:Ok prog w hs d C o)(hi:Ok prog w hs d C i):gw prog w hs d C (.A (.C o i) e):=λc x r σ' Q ck ev H=>by
 (refine bc (λtx x pos j l=> ?_) (mU ck);subst j;revert l;refine oA λP t=> ?_)
 refine bQ (λv S e1 e2=> ?_) (bS ev);refine bQ (λa2 T e3 e4=> ?_) (bS e2);refine bQ (λy f e5 e6=> ?_) (bS e3);refine bQ (λz b U V=> ?_) (bS e6);refine bQ (λu g e7 e8=> ?_) (bS V)
 (refine oA (λm n=> ?_) (sP e8);subst m;revert n;intro p;subst p)
 (refine oA (λq B=> ?_) (sP e4);subst q;revert B;intro D;subst D)
 (refine bc (λox ix ap E t=> ?_) (pM t);subst E)
 have t:=aT t;have k:=aT t.2;refine mV he P (tE (SV QJ) _ _) QJ e1 QJ λv1 h1 Y h R J r1=> ?_;rw[arm_assign_Subscript];refine QH (RA (ho (c.Ny h R J) ox QR k.1 (λz=>aD z) y f e5 _ λv2 h2 a0 F L N r2=> ?_));refine QH (RA (hi ((c.Ny h R J).Ny F L N) ix QR k.2 (λz=>aD z) z b U _ λv3 h3 a1 G W O r3=>QH (Sj (QH (RA ?_)))))
 exact Lc (s:={c.s with heap:=h3,toks:=G}) W (av.a (L.NY O.st) _ r2) r3 (av.a (L.NY O.st) _ (av.a (R.NY N.st) _ r1)) u g e7 _ λZ h4 I X R4 m4 Z=>
  Ws (H h4 I X _ R4 (((((c.Ny h R J).Ny F L N).Ny G W O).ER).Oy m4.st W) (c.NB (((J.Qs N).Qs O).Qs m4)) QJ)
end
noncomputable def dE(env:Wq):QI QN→QI Ux→Prop
 |[],s=>s=[]
 |c::a,s=>∃x r,s=x::r∧bj c=QG x∧env.kindOf x=QG .local∧dE env a r
theorem dE.a{env:Wq}{c:QI QN}{s:QI Ux}(k:dE env c s):∀{b:QI QN} {xs:QI Ux},dE env b xs→dE env (b++c) (xs++s)
 |[],Z,r=>(show _=[] from r)▸k
 |Z::U,Y,z=>by revert z;exact dw λx r e h f g=>(eF x (r++s) (e▸QJ) h f (dE.a k g))
theorem dE.c{env:Wq}:∀{s:QI QN} {xs:QI Ux},dE env s xs→dE env s.reverse xs.reverse
 |[],Z,r=>(show _=[] from r)▸QJ
 |c::Z,U,z=>by
  revert z;refine dw λx r e h b f=> ?_;rw[e,UH,UH];exact dE.a (show dE env [c] [x] from(eF x ([]) QJ h b QJ)) f.c
theorem dE.b{env:Wq}:∀{s:QI QN} {xs:QI Ux},dE env s xs→xs.length=s.length
 |[],Z,r=>(show _=[] from r)▸QJ
 |Z::U,Y,z=>by revert z;exact dw λZ Z e Z Z h=>e▸RH (·+1) h.b
theorem xB{m:bD}{env:Wq}{f:RX→Rz Ux}(j:∀e x,f e=QG x→∃p,e=.Name x p∧env.kindOf x=QG .local):∀{b:QI QN} {s:QI RX},hZ m b s=QO→(s.filterMap f).length=s.length→dE env b (s.filterMap f)
 |[],s,h,Z=>by obtain rfl:=qd h;rfl
 |c::b,s,h,l=>by
  (refine bc (λy p s g r=> ?_) (nj h);subst g;revert r;refine bk λk q h=> ?_)
  rw[WI] at l⊢
  induction a:f (.Name y p) using QQ with
  |none=>
   rw[a] at l;exact Ro (l▸List.length_filterMap_le f s:(qaY y p::s).length≤s.length) (YK _)
  |some x=>
   rw[a] at l;refine ag (λt n o=> ?_) (j _ _ a)
   (refine oA (λi Z=> ?_) (Expr.Name.inj n);subst i)
   exact(eF y _ QJ k o (xB j h (Ve l)))
theorem pC{c:Prop}[Decidable c]{e:Sem (Rz (QI Ux))}{P:QI Ux→Prop}(h:¬c→e=UK RM∨∃ns,e=UK (QG ns)∧P ns):(if c then UK RM else e)=UK RM∨∃ns,(if c then UK RM else e)=UK (QG ns)∧P ns:=by
 by_cases hc:c
 ·exact .inl (SH hc)
 ·rw[SK hc];exact h hc
theorem JF{n m:QN}{b:RG}(h:¬(n !=m||b)=QO):n=m:=Decidable.byContradiction λe=>h (by rw[VK.mpr e];rfl)
theorem LI{nms:bD}{env:Wq}{cs:QI QN}{ys:QI RX}{k:QN}{p:Xv}{x:RX}(ck:hZ nms cs ys=QO)(ok:rW x=QO):
  XX [.Tuple ys k p] x env=UK RM∨∃ns,XX [.Tuple ys k p] x env=UK (QG ns)∧dE env cs ns:=by
 by_cases hx:x.ctorIdx=25
 ·revert ok
  refine Wf (motive_1:=λx=>rW x=QO→XX [.Tuple ys k p] x env=UK RM∨∃ns,XX [.Tuple ys k p] x env=UK (QG ns)∧dE env cs ns) x hx λvs k' p' ok=> ?_;refine have ok:=WJ.mp (show(!(vs.all (qbi 8))||vs.all (foldedForSure 8))=QO from ok);?_;refine pC λh=>pC λh=>pC λhlen=>pC λhfold=> ?_
  by_cases hconst:vs.all (qbi 8)=QO
  ·exact ok.elim (λh=>by rw[hconst] at h;exact aD h) λh=>Ro h hfold
  ·refine .inr (ai _ (SK hconst) ?_)
   refine xB (λe x he=> ?_) ck (JF hlen)
   induction e using SU with
   |Name id pos=>
    refine have he:(if(env.kindOf id==QG .local&&pos.line==((ys.head?.map (·.pos.line)).getD 0))=QO then QG id else RM)=QG x:=he;?_
    by_cases h:(env.kindOf id==QG .local&&pos.line==((ys.head?.map (·.pos.line)).getD 0))=QO
    ·rw[SH h] at he
     obtain rfl:=QS he;exact(ai _ QJ (VC (aT h).1))
    ·rw[SK h] at he
     exact aI he
   |_=>exact aI he
 ·induction x using SU<;>first|exact .inl QJ|exact Ro QJ hx
section
variable{prog:RP}{w:Sn}{hs:RI}{K:VH}{d:QN}{C:QN→QI PV→M PV}{ads:aH}{σ σ':af}{A:SY}{E:QU→QZ→Prop}
theorem uK{env:Wq}:∀{f:QI QN} {xs:QI Ux} {vs:QI QU} {l:QI PV} {ρ:ay} {s:QZ} {Q:UE→QZ→Prop},dE env f xs→ah prog w hs s.heap ads σ→aw hs s.heap ads env ρ→aA s.heap ads l vs→l.length=f.length→
  (∀i tk,bh prog w hs (eh env) s.heap ads σ env ((f.zip l).reverse++ρ) i→Q () {s with heap:=i,toks:=tk})→
  Rh (Rf prog w) A (XY (xs.map λn=>Yt env n) vs) Q E s
 |[],Z,vs,l,ρ,s,Q,r,R,g,j,h,H=>by
  obtain rfl:=Ui.mp h;obtain rfl:vs=[]:=j;rw[(show _=[] from r)];exact QT (H s.heap s.toks (bh.OP R g))
 |Z::U,Y,O,[],F,G,I,J,L,N,P,h,S=>nomatch h
 |c::f,Z,vs,V::l,ρ,s,Q,z,R,g,y,h,H=>by
  revert z;refine dw λx xs e m o r=> ?_;revert y;refine cm λv a p q t=> ?_;subst e p;show Rh _ A (do Xr a (Yt env x v);XY (xs.map λn=>Yt env n) a) Q E s;refine QH (RA (mY m (.inl o) (oV env x) R g q λW u T=> ?_));refine uK r T.R T.ER (aA.b T.K _ t) (Ve h) λB k D=>H B k ?_;rw[qcc,UH,Rq];exact T.OQ D
theorem kV{B:Type}{c:QN}{v:B}:∀{l:QI (QN×B)},(l.map (·.1)).Nodup→(l.lookup c=QG v↔(c,v)∈l)
 |[],Z=>⟨λh=>(aI h),λh=>nomatch h⟩
 |(k,u)::l,a=>by
  refine oA (λb n=> ?_) (SO.mp (Tq .. ▸a))
  (refine oO (λz=> ?_) (λz=> ?_) (il (c:=c) (k:=k) (v:=u) (l:=l)))
  ·obtain rfl:=z.1
   exact⟨λh=>QS (z.2.symm.trans h)▸.head _,λh=>z.2.trans ((mC h).elim (λq=>RH QG (Tw q).2.symm) λq=>Ro (VZ.mpr (ai _ q QJ)) b)⟩
  ·exact⟨λh=>.tail _ ((kV n).mp (z.2.symm.trans h)),λh=>z.2.trans ((kV n).mpr ((mC h).elim (λq=>Ro (Tw q).1 z.1) id))⟩
theorem Hp{B:Type}{l:QI (QN×B)}(a:(l.map (·.1)).Nodup)(c:QN):l.reverse.lookup c=l.lookup c:=by
 have n:(l.reverse.map (·.1)).Nodup:=by rw[ZM];exact(List.reverse_perm _).nodup_iff.mpr a
 induction h:l.lookup c using QQ with
 |some v=>exact(kV n).mpr (Vg.mpr ((kV a).mp h))
 |none=>
  induction b:l.reverse.lookup c using QQ with
  |none=>rfl
  |some v=>exact aI (h.symm.trans ((kV a).mpr (Vg.mp ((kV n).mp b))))
theorem Hq{ρ:ay}{l:ay}(hn:(l.map (·.1)).Nodup)(c:QN):(l.reverse++ρ).lookup c=(l++ρ).lookup c:=by
 by_cases h:∃q∈l,q.1=c
 ·rw[((jt c ρ l).1 h).1,((jt c ρ l.reverse).1 (h.imp λq x=>⟨Vg.mpr x.1,x.2⟩)).1,Hp hn]
 ·have h':∀q∈l,q.1≠c:=λq hq e=>h (ai q hq e)
  rw[(jt c ρ l).2 h',(jt c ρ l.reverse).2 λq hq=>h' q (Vg.mp hq)]
theorem Mo{ts:QI QN}{x:PV}{ρ f:ay}(h:1<ts.length)(e:bL ts x ρ σ=QG (f,σ')):∃l,fV x σ=QG (l,σ')∧l.length=ts.length∧f=(ts.zip l).reverse++ρ:=by
 induction ts using Rm with
 |nil=>exact aI e
 |cons t r=>
  induction r using Rm with
  |nil=>exact Ro h (Ts _)
  |cons u r=>
   refine ag (λp k m=> ?_) (bS (show((fV x).a λl=>M.c (SW l.length (t::u::r).length) (.b (((t::u::r).zip l).reverse++ρ))) σ=_ from e));refine oA (λn o=> ?_) (ky m)
   (refine oA (λg i=> ?_) (sP o);subst g;revert i;intro j;subst j)
   exact(bz p.1 k (SN n) QJ)
theorem Jn{F:QI QN}{e:PE}(he:Ok prog w hs d C e):gw prog w hs d C (.A (.B F) e):=λc x r σ' Q ck ev H=>by
 (refine bc (λtx x pos W X=> ?_) (mU ck);subst W;revert X;refine oA λG t=> ?_)
 refine bQ (λv g e1 e2=> ?_) (bS ev);refine bQ (λY a0 e3 e4=> ?_) (bS e2)
 (refine oA (λI J=> ?_) (sP e4);subst I;revert J;intro L;subst L)
 (refine bc (λys k p O t=> ?_) (uc t);subst O)
 refine have t:=aT t;?_;refine have V:=aT t.1;?_;refine have qb:=aT t.2;?_;refine have y:1<F.length:=lB V.1;?_;refine have hb:=tE (x:=x) (tx:=.Tuple ys k p) (SV QJ) pos.line c.Nx;?_;refine du (λl e5 D P=> ?_) (Mo y e3);have nd:((F.zip l).map (·.1)).Nodup:=by rw[ZN (Sx D.symm)];exact Rl qb.1
 (refine oO (λh=> ?_) (ag λns h ln=> ?_) (LI (k:=k) (p:=p) (env:=c.Nx) V.2 qb.2))
 ·refine mV he G hb h e1 QJ λv1 y f a j U r1=> ?_
  refine oA (λc1 c2=> ?_) (qc (env:=c.Nx) V.2);show Rh _ c.A (do Zr p;unpack v1 (Wc ys c.Nx)) _ c.E _;refine QH (Sj ?_);unfold unpack;rw[c2,c1,←D];refine QH (RA (tL (s:={c.s with heap:=y,toks:=a}) c.hm.Qh j r1 e5 λvs h2 m o r2=> ?_));subst m;refine pY c.N V.2 (λz Z x Z=>oV c.Nx x) (j.NZ o) (((c.Ny a j U).ER).Ox o) r2 D λh3 q T=> ?_;exact H h3 f q _ T.R (P▸T.ER) ((c.NB U).Pb (T.OO o).S) QJ
 ·rw[qdo,hb]
  refine QH (Sj (QH (QT (QH (he c x QR G (λz=>aD z) v g e1 _ λv1 y f a j U r1=> ?_)))));rw[h];refine QH (QT ?_)
  show Rh _ c.A (do
   rule "assign.swapped-stores"
   let u←qaM v1 ns.length RM
   XY (ns.reverse.map λn=>Yt c.Nx n) u.reverse
   UK .next) Q c.E {c.s with heap:=y,toks:=a}
  rw[ln.b,←D];refine QH (Wb (QH (tL (s:={c.s with heap:=y,toks:=a}) c.hm.Qh j r1 e5 λvs h2 m o r2=> ?_)));subst m;refine QH (uK ln.c (j.NZ o) (((c.Ny a j U).ER).Ox o) r2.i (by rw[TC,TC];exact D) λh3 q T=>QT ?_);refine H h3 f q _ T.R (T.ER.OF λz pv hc=> ?_) ((c.NB U).Pb (T.OO o).S) QJ;refine have hz:F.reverse.zip l.reverse=(F.zip l).reverse:=(by rw[qbQ,qbQ,List.reverse_zipWith D.symm]);?_;rw[hz,qbA,←Hq nd,←P];exact hc
theorem AS(B:bB prog w hs K)(f:fG K)(O:dZ prog w hs d C)(s:PS):gw prog w hs (d+1) C s:=by
 induction s using PS.rec (motive_2:=λs=>hM prog w hs (d+1) C s) with
 |B e=>exact Ju (iA B f O e).ok
 |A t e=>
  have g:=iA B f O e
  induction t using PT.casesOn with
  |A n=>exact Jm g
  |B p=>exact Jn g.ok
  |D o a=>exact Jl B g.ok (iA B f O o).ok
  |C o i=>exact Jo g.ok (iA B f O o).ok (iA B f O i).ok
 |C c a b j h=>exact Js (iA B f O c).tr j h
 |G c b h=>exact Jv (iA B f O c).tr h
 |D q u l b h=>exact Jr B (iA B f O l).ok h
 |F e=>exact Jq (iA B f O e).ok
 |nil=>exact yA
 |cons s r m k=>exact yz m k
theorem pW(B:bB prog w hs K)(a:fG K)(O:dZ prog w hs d C):∀t:QI PS,hM prog w hs (d+1) C t
 |[]=>yA
 |s::r=>yz (AS B a O s) (pW B a O r)
end
noncomputable def yH(pf:PF):QI Str:=pf.Qt.map λc=>(bj c).getD WR
noncomputable def bb(pf:PF)(l:QI QU):QI (Ux×QU):=(yH pf).zip (l++(pf.Qv.drop (pf.Qv.length-(pf.Qt.length-l.length))).map λZ=>YO)
structure cf(hs:RI)(pf:PF)(fd:qbo)(body:QI Wo):Prop where
 NI:fd.body=.stmts body
 NM:hs.CodeRec fd.code fd.qualname
 NG:fd.scope.kind=.function
 NO:fd.scope.isCoroutine=QR
 NQ:fd.scope.isGenerator=QR
 NK:fd.closure=[]
 NN:fd.globals=Un
 NJ:fd.builtins=YE
 ck:fK pf.Qu fd.scope.names body=QO
 NP:∀x,fd.scope.names.lookup x≠QG .free
 NF:∀c∈pf.Qt,∃x,bj c=QG x∧fQ (fd.scope.names.lookup x)=QO
 NR:pf.Qt.Nodup
 NS:∀v∈pf.Qv,v=.G
 NH:∀(vals:QI QU) (s:QZ),vals.length≤pf.Qt.length→pf.Qt.length-vals.length≤pf.Qv.length→(∀b o,hs.get? b=QG o→s.heap.get? b=QG o)→BindsTo s fd ⟨vals,[]⟩ (bb pf vals)
def mI(hs:RI)(a:RK)(pf:PF):Prop:=∃o f y,hs.get? a=QG o∧o.data=.func f∧cf hs pf f y
theorem uJ(f:Ux→Rz WO)(n:Ux):∀(r:QI (Ux×QU)) (m:Ux→Rz QU),n∉r.map (·.1)→bindL f r m n=m n
 |[],Z,U=>QJ
 |q::r,m,h=>by
  rw[Tq] at h;rw[show q::r=(q.1,q.2)::r from QJ,bindL.eq_2,uJ f n r _ λe=>h (.tail _ e)];split
  ·exact SK λe=>h (SI.mpr (.inl e))
  ·rfl
theorem uI(f:Ux→Rz WO):∀(i:QI (Ux×QU)) (m:Ux→Rz QU) (x:Ux) (v:QU),(i.map (·.1)).Nodup→(x,v)∈i→f x=QG .local→bindL f i m x=QG v
 |[],Z,U,Y,O,h,l=>nomatch h
 |(n,u)::r,m,x,v,c,h,k=>by
  refine oA (λg j=> ?_) (SO.mp (Tq .. ▸c));rw[bindL.eq_2]
  (refine oO (λh=> ?_) (λh=> ?_) (mC h))
  ·(refine oA (λe a=> ?_) (Tw h);subst e;revert a;intro b;subst b)
   rw[uJ _ _ r _ g,SH k];exact SH QJ
  ·exact uI f r _ x v j h k
theorem uH(f:Ux→Rz WO)(n:Ux):∀(r:QI (Ux×QU)) (m:Ux→Rz QU),n∉r.map (·.1)→bindC f r m n=m n
 |[],Z,U=>QJ
 |q::r,m,h=>by
  rw[Tq] at h;rw[show q::r=(q.1,q.2)::r from QJ,bindC.eq_2,uH f n r _ λe=>h (.tail _ e)];split
  ·rfl
  ·exact SK λe=>h (SI.mpr (.inl e))
theorem uG(f:Ux→Rz WO):∀(i:QI (Ux×QU)) (m:Ux→Rz QU) (x:Ux) (v:QU),(i.map (·.1)).Nodup→(x,v)∈i→f x≠QG .local→bindC f i m x=QG v
 |[],Z,U,Y,O,h,l=>nomatch h
 |(n,u)::r,m,x,v,c,h,k=>by
  refine oA (λg j=> ?_) (SO.mp (Tq .. ▸c));rw[bindC.eq_2]
  (refine oO (λh=> ?_) (λh=> ?_) (mC h))
  ·(refine oA (λe a=> ?_) (Tw h);subst e;revert a;intro b;subst b)
   rw[uH _ _ r _ g,SK k];exact SH QJ
  ·exact uG f r _ x v j h k
theorem yI{h:RI}{ads:aH}:∀{a:QI QN} {vs:QI QU} {l:QI PV},aA h ads l vs→l.length=a.length→∀{c:QN} {p:PV},(a.zip l).lookup c=QG p→∃v,((bj c).getD WR,v)∈(a.map λc=>(bj c).getD WR).zip vs∧av h ads p v
 |[],Z,U,Y,O,f,g,e=>aI e
 |Z::U,Y,[],O,b,f,g,n=>nomatch b
 |k::a,Z,q::l,i,b,c,p,e=>by
  revert i;refine cm λv vs j r m=> ?_;subst j;rw[Tq]
  (refine oO (λz=> ?_) (λz=> ?_) (il (c:=c) (k:=k) (v:=q) (l:=a.zip l)))
  ·obtain rfl:=z.1
   obtain rfl:=QS (z.2.symm.trans e);exact(ai v (.head _) r)
  ·exact(yI m (Ve b) (z.2.symm.trans e)).imp λv x=>⟨.tail _ x.1,x.2⟩
theorem xQ{h:RI}{ads:aH}:∀{l:QI PV},(∀v∈l,v=.G)→aA h ads l (l.map λZ=>YO)
 |[],Z=>QJ
 |x::Z,n=>(cX _ _ QJ ((show x=.G from n x (.head _))▸QJ) (xQ λv a=>n v (.tail _ a)))
theorem sd{a:RK}{x y:Ux}:∀{l:QI (Ux×RK)},l.Pairwise (λx y=>x.2≠y.2)→(x,a)∈l→(y,a)∈l→x=y
 |[],Z,h,U=>nomatch h
 |q::l,e,c,b=>by
  refine oA (λp f=> ?_) (WV.mp e)
  (refine oO (λc=> ?_) (λc=> ?_) (mC c))
  ·exact(mC b).elim (λb=>(Tw (c.trans b.symm)).1) λb=>Ro (by rw[←c]) (p _ b)
  ·exact(mC b).elim (λb=>Ro (by rw[←b]) (p _ c)) λb=>sd f c b
section
variable{prog:RP}{w:Sn}{hs:RI}{K:VH}{d:QN}{C:QN→QI PV→M PV}{ads:aH}{σ σ':af}{A:SY}{s:QZ}
structure fo(pf:PF)(fd:qbo)(args:QI PV)(ρ:ay)(vals:QI QU)(h:RI)(ads:aH):Prop where
 Qe:∀q∈bb pf vals,∃c,bj c=QG q.1∧fQ (fd.scope.names.lookup q.1)=QO
 Qf:((bb pf vals).map (·.1)).Nodup
 Qg:∀c pv,ρ.lookup c=QG pv→∃v,((bj c).getD WR,v)∈bb pf vals∧av h ads pv v
 l1:vals.length≤pf.Qt.length
 l2:pf.Qt.length-vals.length≤pf.Qv.length
theorem CW{pf:PF}{m:qbo}{body:QI Wo}{args:QI PV}{ρ:ay}{l:QI QU}{h:RI}(D:cf hs pf m body)(f:kH pf args=QG ρ)(o:aA h ads args l):fo pf m args ρ l h ads:=by
 unfold kH at f;dsimp only at f
 induction g:(Um args.length pf.Qt.length&&Um (pf.Qt.length-args.length) pf.Qv.length) using QL with
 |false=>rw[g] at f;exact aI f
 |true=>
  rw[g] at f;have g:=aT g;have u:=lB g.1;have z:=lB g.2;obtain rfl:=QS f;have i:l.length=args.length:=o.a
  have p:aA h ads (args++pf.Qv.drop (pf.Qv.length-(pf.Qt.length-args.length))) (l++(pf.Qv.drop (pf.Qv.length-(pf.Qt.length-l.length))).map λZ=>YO):=by
   rw[i];exact aA.c (xQ λv B=>D.NS v (qbB B)) o
  have r:(args++pf.Qv.drop (pf.Qv.length-(pf.Qt.length-args.length))).length=pf.Qt.length:=by rw[QW,XH,qdp (by assumption),Uq (by assumption)]
  refine⟨λq E=> ?_,?_,λc H e=>yI p r e,i▸u,i▸z⟩
  ·refine ag (λc g e=> ?_) (mM (qag E).1)
   refine ag (λx j F=> ?_) (D.NF c g);have:q.1=x:=by rw[←e,j];rfl
   exact(ai c (this▸j) (this▸F))
  ·unfold bb yH
   rw[ZN (by rw[QP,p.a,r];exact Sd _)];refine qei _ (λa b k=> ?_) (qej.mp D.NR)
   (revert k;refine bk λG f n=> ?_)
   refine ag (λx j Z=> ?_) (D.NF a G);refine ag (λy t Z=> ?_) (D.NF b f);rw[j,t];exact λq=>n (jG j ((show x=y from q)▸t))
theorem Ei{pf:PF}{i:qbo}{body:QI Wo}{args:QI PV}{ρ:ay}{f:QI QU}{env:Wq}{S:RI}{P:QN}{B:Ux}{D:Rz RK}{code:QU}(T:cf hs pf i body)(G:fo pf i args ρ f s.heap ads)(U:hs.objs.size≤s.heap.objs.size)(R:ah prog w hs s.heap ads σ)
  (H:env=newEnv i.scope s.heap.objs.size Un (qbW (s.heap.objs.size+1) i.scope.names []) B D code RM YE) (I:InCallC s env.locals (bindL env.kindOf (bb pf f) λZ=>RM) env.cells (bindC env.kindOf (bb pf f) λZ=>RM) {s with heap:=S,toks:=P}):
  cO i.scope.names env∧aw hs S ads env ρ∧∀b∈eh env,s.heap.get? b=none:=by
 have V:=I.toInCall.keep
 have L:∀b,s.heap.objs.size≤b→s.heap.get? b=none:=λb u=>by
  induction q:s.heap.get? b using QQ with
  |none=>rfl
  |some o=>exact Ro (SS q) (TO.mpr u)
 have J:s.heap.objs.size≤env.locals:=I.toInCall.fresh;have O:∀x a,env.cells.lookup x=QG a→(x,a)∈env.cells:=λx a h=>ff h;have E:∀b,s.heap.get? b=RM→¬bF ads b:=λb e q=>(R.Od q).elim λZ z=>bV (z.1.symm.trans e)
 have Q:∀b,s.heap.get? b=RM→hs.get? b=none:=λb e=>by
  induction q:hs.get? b using QQ with
  |none=>rfl
  |some o=>exact bV ((R.NX b o q).symm.trans e)
 have l:∀x a,env.cells.lookup x=QG a→s.heap.get? a=none:=λx a h=>L a (QK J (Sm (I.above x a (O x a h))));have p:env.scope=i.scope:=by rw[H];rfl
 have g:env.cells=qbW (s.heap.objs.size+1) i.scope.names []:=by rw[H];rfl
 have N:cO i.scope.names env:=λx k j=>by
  have n:env.kindOf x=QG k:=by show env.scope.names.lookup x=_;rw[p];exact j
  induction k using Tb with
  |«local»=>exact n
  |cell=>exact⟨n,g▸Tx.mp (qbk _ _ _ (.inl j))⟩
  |free=>exact Ro j (T.NP x)
  |globalImplicit=>exact n
  |globalExplicit=>trivial
 refine(aL N ⟨by rw[p];exact T.NG,by rw[H];rfl,by rw[H];rfl,⟨_,I.toInCall.ns⟩,λc x W j X Y=> ?_,λx a h=>(cq ⟨_,I.cell x a h⟩ (E a (l x a h)) (Q a (l x a h)) λq=>Ts _ (q▸I.above x a (O x a h))),
  λx y a h1 h2=>sd I.apart (O x a h1) (O y a h2),E _ (L _ J),QK U J⟩ λb u=>(nK u).elim (λq=>q▸L _ J)<|oE λx j=>l x b j)
 refine ag (λv F rv=> ?_) (G.Qg c W Y);rw[j] at F;have m:(x,v)∈bb pf f:=F;refine(ai v (av.a (aP.MM ads V).MN _ rv) ?_);refine ag (λc' Z t=> ?_) (G.Qe _ m);rw[←p] at t
 induction r:env.scope.names.lookup x using QQ with
 |none=>rw[r] at t;exact aD t
 |some k=>
  rw[r] at t
  induction k using Tb with
  |«local»=>exact .inl (cE r _ I.toInCall.ns (uI _ _ _ _ _ G.Qf m r))
  |cell=>
   refine kX (λZ b u=> ?_) (N x .cell (by rw[←p];exact r));exact .inr (cE (.inl r) b u (uG env.kindOf (bb pf f) (λZ=>RM) x v G.Qf m (λz=>nomatch z.symm.trans (show env.kindOf x=QG .cell from r))▸I.cell x b u))
  |_=>exact aD t
theorem CZ(B:bB prog w hs K)(KC:fG K)(CO:dZ prog w hs d C)(NL:hs.NoLimit){a:QN}{pf:PF}{args:QI PV}{l:QI QU}{ρ:ay}(FA:mI hs a pf)(hb:kH pf args=QG ρ)(hm:br A (d+2))(hz:hs.objs.size≤s.heap.objs.size)(R:ah prog w hs s.heap ads σ)(rs:aA s.heap ads args l):
  SP prog w hs QR s ads σ ((dm C pf.Qu ρ).a λr=>.b (sV r)) (λQ=>∀L:Result→QZ→Prop,(∀v O,Q v O→L (.ok (.ret v)) O)→XQ (Rf prog w) A (.call (.ref a) ⟨l,[]⟩) L s) av:=by
 (revert FA;refine gO λo U z ho F D=> ?_)
 intro pv σ' e Q H L V;refine bQ (λr h e1 e2=> ?_) (bS e)
 (refine oA (λi j=> ?_) (sP e2);subst i;revert j;intro m;subst m)
 have I:=CW D hb rs
 have n:A.depth<recursionLimit:=by
  exact Rp (Vp hm.Qj) (by decide:900<1000)
 refine codeAny_call_function n (R.NX _ _ ho) F D.NO D.NQ D.NI (D.NM.keeps R.NX) (D.NH l s I.l1 I.l2 R.NX _ _ _ _ ?_);rw[D.NK,D.NN,D.NJ];refine wpAny_newFunctionEnv_cells D.NG (λq hq=> ?_) (λp he O J=>⟨NL.keeps λb o e=>J.toInCall.keep b o (R.NX b o e),codeAny_func ?_⟩)
 ·refine ag (λc hx t=> ?_) (I.Qe q hq)
  induction P:U.scope.names.lookup q.1 using QQ with
  |none=>rw[P] at t;exact aD t
  |some k=>
   rw[P] at t
   induction k using Tb with
   |«local»=>exact .inl QJ
   |cell=>exact .inr ⟨QJ,qbk _ _ _ (.inl P)⟩
   |_=>exact aD t
 ·(refine jx (λh' S x=> ?_) (J.toInCall.same);subst x)
  refine bk (λN ER nf=> ?_) (Ei D I hz R he J);have t:=J.toInCall.keep;have T:br (A.deeper p) (d+1):=⟨hm.Qh,by have:=hm.Qj;show A.depth+1+(d+1)≤900;exact QK (Sx (RO _ _ _)) this,by have:=hm.Qi;show A.units+3+8*(d+1)≤9000;lia⟩;refine pW B KC CO pf.Qu {NA:=U.scope.names,Nx:=p,ρ:=ρ,A:=A.deeper p,E:=_,s:={s with heap:=h',toks:=S},Nz:=ads,σ:=σ,N:=N,hm:=T,R:=R.NZ t,ER:=ER} z r h _ D.ck e1 λW g G f X E2 S2 Y=> ?_;have S3:=au.Pl (aP.MM ads t) S2 nf (λZ Z Z e=>e);obtain⟨fl,a0⟩:=r
  induction fl using Fl.casesOn with
  |A=>
   obtain rfl:f=.next:=Y;exact V _ _ (H .none W g G X S3.mv QJ)
  |B v=>
   (revert Y;refine ag λu y rv=> ?_;subst y)
   exact V _ _ (H _ W g G X S3.mv rv)
theorem CY{d a:QN}(h:gA a=RM)(args:QI PV)(σ:af):aB (d+1) a args σ=none:=by
 show((M.h (gA a)).a _) σ=RM;rw[h]
 rfl
theorem uS(B:bB prog w hs K)(b:fG K)(L:hs.NoLimit)(N:∀a pf,gA a=QG pf→mI hs a pf):∀d,dZ prog w hs (2*d) (aB d)
 |0=>⟨λZ Z Z Z e=>(aI e),λZ Z Z Z Z Z Z Z Z Z Z Z Z e=>aI e⟩
 |d+1=>by
  have h:=uS B b L N d;refine⟨λa g σ r e=> ?_,λa g l σ A s ads m z R c=> ?_⟩
  ·induction f:gA a using QQ with
   |none=>exact aI ((CY f g σ).symm.trans e)
   |some pf=>exact⟨pf,QJ⟩
  ·exact SP.t λpf f=>SP.t λp i=>CZ B b h L (N a pf f) i m z R c
end
noncomputable def aY(K:VH)(a:QN):FuncData:=match K.lookup a with
 |some o=>(match o.data with| .func d=>d|_=>qcE)
 |none=>qcE
noncomputable def Gk(v:PV):Bool:=match v with
 | .G=>QO
 |_=>QR
noncomputable def uV(pf:PF)(d:qbo):Bool:=match d.body with
 | .stmts y=>fK pf.Qu d.scope.names y
 |_=>QR
noncomputable def FW(o:Rz Obj):Bool:=match o with
 |some o=>(match o.data with| .func Z=>QO|_=>QR)
 |none=>QR
noncomputable def zm(s:bD)(c:QN):Bool:=match bj c with
 |some x=>fQ (s.lookup x)
 |none=>QR
noncomputable def nH(K:VH)(a:QN)(pf:PF):Bool:=
 FW (K.lookup a)&&(codeIn K (aY K a).code (aY K a).qualname&&(Rc ((aY K a).scope.kind=.function)&&(!(aY K a).scope.isCoroutine&&(!(aY K a).scope.isGenerator&&((aY K a).closure.isEmpty&&(Rc ((aY K a).globals=Un)&&(Rc ((aY K a).builtins=YE)&&
  (uV pf (aY K a)&&((aY K a).scope.names.all (λq=>q.2 !=.free)&&(pf.Qt.all (zm (aY K a).scope.names)&&(Rc pf.Qt.Nodup&&(pf.Qv.all Gk&&keepIn K (.ref a)))))))))))))
theorem DX{K:VH}{hs:RI}{a:QN}{pf:PF}(X:K.In hs)(h:nH K a pf=QO)
  (f:∀l:QI QU,l.length≤pf.Qt.length→pf.Qt.length-l.length≤pf.Qv.length→∀S,Uz K S (Sb (aY K a) ⟨l,[]⟩)=QG (bb pf l)):mI hs a pf:=by
 unfold nH at h;simp only[Tf,Ua,qcF,qcL,SX] at h
 (revert h;refine Ic λi u w z A B C D g E j k m Z=> ?_)
 induction n:K.lookup a using QQ with
 |none=>rw[n] at i;exact aD i
 |some o=>
  have F:o.data=.func (aY K a):=by
   unfold aY;rw[n] at i⊢;obtain⟨H,P,t,Q⟩:=o
   induction t using Yp with
   |func R=>rfl
   |_=>exact aD i
  have d:∃y,(aY K a).body=.stmts y∧fK pf.Qu (aY K a).scope.names y=true:=by
   unfold uV at g
   induction f:(aY K a).body using qdT with
   |stmts y=>rw[f] at g;exact(ai y QJ g)
   |_=>rw[f] at g;exact aD g
  (revert d;refine ag λy q r=> ?_)
  refine(jm _ (aY K a) y (X _ _ n) F ⟨q,codeRec_of X u,w,z,A,B,C,D,r,λx I=> ?_,λc J=> ?_,k,λv L=> ?_,λl s M N O=>kp_binds (λb o f=>O b o (X b o f)) (f l M N)⟩)
  ·refine have:=E _ (ff I);?_
   simp at this
  ·refine have:=j c J;?_
   unfold zm at this
   induction e:bj c using QQ with
   |none=>rw[e] at this;exact aD this
   |some x=>rw[e] at this;exact(ai x QJ this)
  ·refine have:=m v L;?_
   induction v using PV.casesOn with
   |G=>rfl
   |_=>exact aD this
noncomputable def wQ(K:VH)(p:QN×QN):Bool:=(makesIn K p.1&&ZU K (.ref p.1) "__init__" ==QG (QG (.ref p.2))&&typeIn K (.ref p.2)==QG (.type "function"))&&keepIn K (.ref p.1)
noncomputable def pZ(K:VH)(c a:QN):Bool:=match bj a with
 |some x=>qdb K c x&&hasDictIn K c&&ZU K (.ref c) x==QG RM&&ZU K (.ref c) "__setattr__" ==QG (QG (.builtin "object.__setattr__"))&&plainOver K c&&takerIn K c x==QG RM
 |none=>QR
noncomputable def rE(K:VH)(c:QN)(q:QN×QN):Bool:=match bj q.1 with
 |some x=>qdb K c x&&ZU K (.ref c) x==QG (QG (.ref q.2))&&isFn K (.ref q.2)
 |none=>QR
noncomputable def wH(K:VH)(p:QN×GV):Bool:=match bj p.1 with
 |some x=>nsIn K Un x==QG (QG p.2.qa)||(nsIn K Un x==QG RM&&bootBuiltins x==QG p.2.qa&&x !=("__name__" :Ux))
 |none=>QR
noncomputable def tD:QI QU→QI QN→RG
 |[],s=>s.isEmpty
 |v::a,s=>match s with
  |[]=>QR
  |c::s=>(match v with| .str x Z=>et c x|_=>QR)&&tD a s
theorem Ab{h:RI}{s:aH}:∀{vs:QI QU} {a:QI QN},tD vs a=QO→aA h s (a.map .C) vs
 |[],Z,h=>iE h▸QJ
 |Z::U,[],h=>aD h
 |v::vs,c::a,h=>by
  refine have h:=aT h;?_
  induction v using YF with
  |str x t=>exact(cX _ _ QJ (fy x t (eT h.1) QJ) (Ab h.2))
  |_=>exact aD (h.1)
noncomputable def Mf(o:Rz Obj)(s:QI QN):Bool:=match o with
 |some o=>o.cls==.type "tuple" &&(match o.data with| .seq v Z=>tD v.toList s|_=>QR)
 |none=>QR
noncomputable def qh(K:VH)(n:QN):Rz Nat:=match bj n with
 |some x=>(match nsIn K Un x with
  |some (QG v)=>(match v with| .ref a=>QG a|_=>RM)
  |_=>RM)
 |none=>RM
noncomputable def vj(K:VH)(p:QN×QI QN):Bool:=match qh K p.1 with
 |some a=>Mf (K.lookup a) p.2&&Um p.2.length aR
 |none=>QR
noncomputable def kp(K:VH):Bool:=
 nI.all (λp=>nH K p.1 p.2)&&(wR.all (wQ K)&&(mW.all (λp=>p.2.all (pZ K p.1))&&(xI.all (λp=>p.2.all (rE K p.1))&&(nP.all (wH K)&&vk.all (vj K)))))
theorem jb{B:Type}{f:QN×B→RG}{l:QI (QN×B)}(h:l.all f=QO){k:QN}{v:B}(e:l.lookup k=QG v):f (k,v)=true:=SX.mp h _ (ff e)
section
variable{K:VH}
theorem zU(h:kp K=QO){a:QN}{pf:PF}(e:gA a=QG pf):nH K a pf=true:=jb (aT h).1 e
theorem Lr(h:kp K=QO):fZ K:=by
 have h:=aT (aT h).2;have g:=aT h.2;have i:=aT g.2;refine⟨λc a e=> ?_,λc a e=> ?_,λc m f e=> ?_⟩
 ·have k:=jb h.1 e
  simp only[wQ,Tf,Sk] at k;exact(aL k.1.1.1 k.1.1.2 k.1.2)
 ·have e:((mW.lookup c).getD []).elem a=true:=e
  induction b:mW.lookup c using QQ with
  |none=>rw[b] at e;exact aD e
  |some l=>
   rw[b] at e;have k:=SX.mp (jb (f:=λp=>p.2.all (pZ K p.1)) g.1 b) a (List.elem_iff.mp e);unfold pZ at k
   induction d:bj a using QQ with
   |none=>rw[d] at k;exact aD k
   |some x=>
    rw[d] at k;simp only[Tf,Sk] at k;exact⟨x,QJ,k.1.1.1.1.1,k.1.1.1.1.2,k.1.1.1.2,k.1.1.2,k.1.2,k.2⟩
 ·refine ag (λl b e=> ?_) (bS e)
  have k:=jb (jb (f:=λp=>p.2.all (rE K p.1)) i.1 b) e;unfold rE at k;dsimp only at k
  induction d:bj m using QQ with
  |none=>rw[d] at k;exact aD k
  |some x=>
   rw[d] at k;simp only[Tf,Sk] at k;exact(fO x QJ k.1.1 k.1.2 k.2)
theorem xp(h:kp K=QO):fG K:=by
 refine⟨λa f e=> ?_,λc a e=> ?_⟩
 ·have k:=zU h e
  exact(aT (aT (aT (aT (aT (aT (aT (aT (aT (aT (aT (aT (aT k).2).2).2).2).2).2).2).2).2).2).2).2).2
 ·exact(aT (jb (aT (aT h).2).1 e)).2
variable{hs:RI}{p:RP}{loose:QI Ux}{mg mb:Ux→Rz QU}
theorem FC(h:kp K=QO)(X:K.In hs)(T:TopRead p loose mg mb hs)(n:QN)(g:GV)(x:Ux)(e:jj n=QG g)(d:bj n=QG x):kB hs x g.qa:=by
 have h:=aT (aT (aT (aT (aT h).2).2).2).2;have k:=jb h.1 e;unfold wH at k;dsimp only at k;rw[d] at k;simp only[Vs,Tf,Sk,VK,ne_eq] at k;intro M A E s v Q f c i q;have a:=T.keeps f;rcases k with h|⟨⟨j,l⟩,m⟩
 ·exact qaQ (c▸a.g) (mg_of X T.g h) q
 ·exact Calls.loadGlobal_builtin (c▸a.g) (mg_none_of X T.g j) (i▸a.b) ((a.builtins x m).trans l) q
theorem Dk(h:kp K=QO)(X:K.In hs)(T:TopRead p loose mg mb hs)(n:QN)(i:QI QN)(x:Ux)(e:qi n=QG i)(r:bj n=QG x):∃a vs,kB hs x (.ref a)∧qbq hs a (VX vs)∧(∀h f,aA h f (i.map .C) vs)∧i.length≤aR:=by
 have h:=aT (aT (aT (aT (aT h).2).2).2).2;have k:=jb h.2 e;unfold vj at k;dsimp only at k
 induction c:qh K n using QQ with
 |none=>rw[c] at k;exact aD k
 |some a=>
  rw[c] at k;have k:=aT k
  have u:nsIn K Un x=QG (QG (.ref a)):=by
   unfold qh at c;rw[r] at c;dsimp only at c
   induction j:nsIn K Un x using QQ with
   |none=>rw[j] at c;exact aI c
   |some o=>
    induction o using QQ with
    |none=>rw[j] at c;exact aI c
    |some v=>
     rw[j] at c
     induction v using YF with
     |ref b=>exact RH (λb=>QG (QG (Value.ref b))) (QS c)
     |_=>exact aI c
  have d:=k.1
  induction l:K.lookup a using QQ with
  |none=>rw[l] at d;exact aD d
  |some o=>
   rw[l] at d;have d:=aT d;obtain⟨w,D,t,F⟩:=o
   induction t using Yp with
   |seq vs m=>
    exact(eF a vs.toList (λM A E s y Q z B G q=>qaQ (B▸(T.keeps z).g) (mg_of X T.g u) q) (gF _ (X _ _ l) (Sk.mp d.1) m QJ) (λh f=>Ab d.2) (lB k.2))
   |_=>exact aD (d.2)
end
end Mine
end
section
open PySem PySem.W PySem.Calls PyProof.Rows
namespace Mine
theorem Ls(p:SE):kp (aK p)=true:=by kernel_rfl
noncomputable def iU(K:VH)(a:QN)(pf:PF):QN→QI QU→Prop
 |0,c=>∀S,Uz K S (Sb (aY K a) ⟨c.reverse,[]⟩)=QG (bb pf c.reverse)
 |n+1,c=>∀v,iU K a pf n (v::c)
theorem iU.a{K:VH}{a:QN}{pf:PF}:∀{n:QN} {acc:QI QU},iU K a pf n acc→∀s:QI QU,s.length=n→∀S,Uz K S (Sb (aY K a) ⟨acc.reverse++s,[]⟩)=QG (bb pf (acc.reverse++s))
 |0,Z,h,s,l,S=>by
  obtain rfl:=Ui.mp l;rw[RD];exact h S
 |Z+1,U,Y,[],l,O=>nomatch l
 |Z+1,acc,h,v::s,l,S=>by
  have k:=iU.a (h v) s (Ve l) S;rw[UH,Rq] at k;exact k
noncomputable def jJ(K:VH)(a:QN)(pf:PF):QN→Prop
 |0=>iU K a pf pf.Qt.length []
 |k+1=>iU K a pf (pf.Qt.length-(k+1)) []∧jJ K a pf k
theorem jJ.a{K:VH}{a:QN}{pf:PF}:∀{d:QN},jJ K a pf d→∀k,k≤d→iU K a pf (pf.Qt.length-k) []
 |0,h,k,b=>by
  obtain rfl:=Nat.le_zero.mp b;exact h
 |d+1,h,k,b=>by
  (refine oO (λb=> ?_) (λe=> ?_) (qcw b)<;>try subst e)
  ·exact h.2.a k (SM b)
  ·exact h.1
noncomputable def jI(K:VH):QI (QN×PF)→Prop
 |[]=>YB
 |p::r=>jJ K p.1 p.2 p.2.Qv.length∧jI K r
theorem jI.a{K:VH}:∀{l:QI (QN×PF)},jI K l→∀p∈l,jJ K p.1 p.2 p.2.Qv.length
 |Z::U,h,p,b=>(mC b).elim (λq=>q▸h.1) (h.2.a p)
theorem DY{K:VH}{c:RI}(h:kp K=QO)(b:jI K nI)(X:K.In c)(a:QN)(pf:PF)(e:gA a=QG pf):mI c a pf:=
 DX X (zU h e) λs l d S=>((b.a _ (ff e)).a _ d).a s ((qdp l).symm) S
theorem Cv(p:SE)(S:Ss)(v a b c:QU):Uz (aK p) S (Sb (aY (aK p) 36) ⟨[v,a,b,c],[]⟩)=QG (bb lj [v,a,b,c]):=by kernel_rfl
theorem Cw(p:SE)(S:Ss)(v a b c d:QU):Uz (aK p) S (Sb (aY (aK p) 36) ⟨[v,a,b,c,d],[]⟩)=QG (bb lj [v,a,b,c,d]):=by kernel_rfl
theorem Cy(p:SE)(S:Ss)(v a b c d e:QU):Uz (aK p) S (Sb (aY (aK p) 36) ⟨[v,a,b,c,d,e],[]⟩)=QG (bb lj [v,a,b,c,d,e]):=by kernel_rfl
theorem CP(p:SE)(S:Ss)(v:QU):Uz (aK p) S (Sb (aY (aK p) 91) ⟨[v],[]⟩)=QG (bb mu [v]):=by kernel_rfl
theorem CQ(p:SE)(S:Ss)(v:QU):Uz (aK p) S (Sb (aY (aK p) 96) ⟨[v],[]⟩)=QG (bb sF [v]):=by kernel_rfl
theorem BB(p:SE)(S:Ss)(v:QU):Uz (aK p) S (Sb (aY (aK p) 103) ⟨[v],[]⟩)=QG (bb yV [v]):=by kernel_rfl
theorem BC(p:SE)(S:Ss)(v a:QU):Uz (aK p) S (Sb (aY (aK p) 110) ⟨[v,a],[]⟩)=QG (bb za [v,a]):=by kernel_rfl
theorem BE(p:SE)(S:Ss)(v:QU):Uz (aK p) S (Sb (aY (aK p) 116) ⟨[v],[]⟩)=QG (bb yU [v]):=by kernel_rfl
theorem BF(p:SE)(S:Ss)(v:QU):Uz (aK p) S (Sb (aY (aK p) 121) ⟨[v],[]⟩)=QG (bb yW [v]):=by kernel_rfl
theorem BG(p:SE)(S:Ss)(v:QU):Uz (aK p) S (Sb (aY (aK p) 126) ⟨[v],[]⟩)=QG (bb yZ [v]):=by kernel_rfl
theorem BH(p:SE)(S:Ss)(v:QU):Uz (aK p) S (Sb (aY (aK p) 133) ⟨[v],[]⟩)=QG (bb sJ [v]):=by kernel_rfl
theorem BI(p:SE)(S:Ss)(v:QU):Uz (aK p) S (Sb (aY (aK p) 140) ⟨[v],[]⟩)=QG (bb sO [v]):=by kernel_rfl
theorem BJ(p:SE)(S:Ss)(v:QU):Uz (aK p) S (Sb (aY (aK p) 147) ⟨[v],[]⟩)=QG (bb sQ [v]):=by kernel_rfl
theorem BK(p:SE)(S:Ss)(v a:QU):Uz (aK p) S (Sb (aY (aK p) 159) ⟨[v,a],[]⟩)=QG (bb yL [v,a]):=by kernel_rfl
theorem BL(p:SE)(S:Ss)(v a b:QU):Uz (aK p) S (Sb (aY (aK p) 164) ⟨[v,a,b],[]⟩)=QG (bb sk [v,a,b]):=by kernel_rfl
theorem BM(p:SE)(S:Ss)(v a b:QU):Uz (aK p) S (Sb (aY (aK p) 176) ⟨[v,a,b],[]⟩)=QG (bb oG [v,a,b]):=by kernel_rfl
theorem BN(p:SE)(S:Ss)(v a:QU):Uz (aK p) S (Sb (aY (aK p) 183) ⟨[v,a],[]⟩)=QG (bb yM [v,a]):=by kernel_rfl
theorem BO(p:SE)(S:Ss)(v:QU):Uz (aK p) S (Sb (aY (aK p) 190) ⟨[v],[]⟩)=QG (bb yN [v]):=by kernel_rfl
theorem BP(p:SE)(S:Ss)(v a:QU):Uz (aK p) S (Sb (aY (aK p) 197) ⟨[v,a],[]⟩)=QG (bb yO [v,a]):=by kernel_rfl
theorem BQ(p:SE)(S:Ss)(v:QU):Uz (aK p) S (Sb (aY (aK p) 209) ⟨[v],[]⟩)=QG (bb sI [v]):=by kernel_rfl
theorem BR(p:SE)(S:Ss)(v a:QU):Uz (aK p) S (Sb (aY (aK p) 214) ⟨[v,a],[]⟩)=QG (bb yX [v,a]):=by kernel_rfl
theorem BS(p:SE)(S:Ss)(v:QU):Uz (aK p) S (Sb (aY (aK p) 219) ⟨[v],[]⟩)=QG (bb oQ [v]):=by kernel_rfl
theorem BU(p:SE)(S:Ss)(v a:QU):Uz (aK p) S (Sb (aY (aK p) 226) ⟨[v,a],[]⟩)=QG (bb yT [v,a]):=by kernel_rfl
theorem BV(p:SE)(S:Ss)(v:QU):Uz (aK p) S (Sb (aY (aK p) 234) ⟨[v],[]⟩)=QG (bb sH [v]):=by kernel_rfl
theorem BW(p:SE)(S:Ss)(v a:QU):Uz (aK p) S (Sb (aY (aK p) 241) ⟨[v,a],[]⟩)=QG (bb sM [v,a]):=by kernel_rfl
theorem BX(p:SE)(S:Ss)(v a:QU):Uz (aK p) S (Sb (aY (aK p) 246) ⟨[v,a],[]⟩)=QG (bb yY [v,a]):=by kernel_rfl
theorem BY(p:SE)(S:Ss)(v a:QU):Uz (aK p) S (Sb (aY (aK p) 253) ⟨[v,a],[]⟩)=QG (bb sN [v,a]):=by kernel_rfl
theorem BZ(p:SE)(S:Ss)(v a:QU):Uz (aK p) S (Sb (aY (aK p) 260) ⟨[v,a],[]⟩)=QG (bb oM [v,a]):=by kernel_rfl
theorem Cb(p:SE)(S:Ss)(v a:QU):Uz (aK p) S (Sb (aY (aK p) 267) ⟨[v,a],[]⟩)=QG (bb oN [v,a]):=by kernel_rfl
theorem Cc(p:SE)(S:Ss)(v a:QU):Uz (aK p) S (Sb (aY (aK p) 272) ⟨[v,a],[]⟩)=QG (bb sG [v,a]):=by kernel_rfl
theorem Cd(p:SE)(S:Ss)(v a:QU):Uz (aK p) S (Sb (aY (aK p) 279) ⟨[v,a],[]⟩)=QG (bb yS [v,a]):=by kernel_rfl
theorem Ce(p:SE)(S:Ss)(v a:QU):Uz (aK p) S (Sb (aY (aK p) 293) ⟨[v,a],[]⟩)=QG (bb sh [v,a]):=by kernel_rfl
theorem Ci(p:SE)(S:Ss)(v a b:QU):Uz (aK p) S (Sb (aY (aK p) 300) ⟨[v,a,b],[]⟩)=QG (bb lk [v,a,b]):=by kernel_rfl
theorem Cj(p:SE)(S:Ss)(v a:QU):Uz (aK p) S (Sb (aY (aK p) 307) ⟨[v,a],[]⟩)=QG (bb oF [v,a]):=by kernel_rfl
theorem Cn(p:SE)(S:Ss)(v a b:QU):Uz (aK p) S (Sb (aY (aK p) 312) ⟨[v,a,b],[]⟩)=QG (bb sj [v,a,b]):=by kernel_rfl
theorem Co(p:SE)(S:Ss)(v:QU):Uz (aK p) S (Sb (aY (aK p) 319) ⟨[v],[]⟩)=QG (bb si [v]):=by kernel_rfl
theorem Cp(p:SE)(S:Ss)(v:QU):Uz (aK p) S (Sb (aY (aK p) 333) ⟨[v],[]⟩)=QG (bb zb [v]):=by kernel_rfl
theorem Cq(p:SE)(S:Ss)(v a:QU):Uz (aK p) S (Sb (aY (aK p) 347) ⟨[v,a],[]⟩)=QG (bb sC [v,a]):=by kernel_rfl
theorem Cr(p:SE)(S:Ss)(v a:QU):Uz (aK p) S (Sb (aY (aK p) 354) ⟨[v,a],[]⟩)=QG (bb sy [v,a]):=by kernel_rfl
theorem Ct(p:SE)(S:Ss)(v a:QU):Uz (aK p) S (Sb (aY (aK p) 359) ⟨[v,a],[]⟩)=QG (bb oH [v,a]):=by kernel_rfl
theorem Cu(p:SE)(S:Ss)(v a:QU):Uz (aK p) S (Sb (aY (aK p) 366) ⟨[v,a],[]⟩)=QG (bb sm [v,a]):=by kernel_rfl
theorem Cz(p:SE)(S:Ss)(v a b:QU):Uz (aK p) S (Sb (aY (aK p) 373) ⟨[v,a,b],[]⟩)=QG (bb yQ [v,a,b]):=by kernel_rfl
theorem CA(p:SE)(S:Ss)(v a:QU):Uz (aK p) S (Sb (aY (aK p) 380) ⟨[v,a],[]⟩)=QG (bb sD [v,a]):=by kernel_rfl
theorem CB(p:SE)(S:Ss)(v a:QU):Uz (aK p) S (Sb (aY (aK p) 387) ⟨[v,a],[]⟩)=QG (bb sA [v,a]):=by kernel_rfl
theorem CC(p:SE)(S:Ss)(v a b c:QU):Uz (aK p) S (Sb (aY (aK p) 394) ⟨[v,a,b,c],[]⟩)=QG (bb sr [v,a,b,c]):=by kernel_rfl
theorem CD(p:SE)(S:Ss)(v a:QU):Uz (aK p) S (Sb (aY (aK p) 401) ⟨[v,a],[]⟩)=QG (bb oL [v,a]):=by kernel_rfl
theorem CE(p:SE)(S:Ss)(v a b:QU):Uz (aK p) S (Sb (aY (aK p) 408) ⟨[v,a,b],[]⟩)=QG (bb sE [v,a,b]):=by kernel_rfl
theorem CF(p:SE)(S:Ss)(v a:QU):Uz (aK p) S (Sb (aY (aK p) 413) ⟨[v,a],[]⟩)=QG (bb oK [v,a]):=by kernel_rfl
theorem CG(p:SE)(S:Ss)(v a:QU):Uz (aK p) S (Sb (aY (aK p) 418) ⟨[v,a],[]⟩)=QG (bb sz [v,a]):=by kernel_rfl
theorem CH(p:SE)(S:Ss)(v a:QU):Uz (aK p) S (Sb (aY (aK p) 423) ⟨[v,a],[]⟩)=QG (bb sx [v,a]):=by kernel_rfl
theorem CI(p:SE)(S:Ss)(v:QU):Uz (aK p) S (Sb (aY (aK p) 430) ⟨[v],[]⟩)=QG (bb yR [v]):=by kernel_rfl
theorem CJ(p:SE)(S:Ss)(v:QU):Uz (aK p) S (Sb (aY (aK p) 435) ⟨[v],[]⟩)=QG (bb yP [v]):=by kernel_rfl
theorem CK(p:SE)(S:Ss)(v a b c:QU):Uz (aK p) S (Sb (aY (aK p) 440) ⟨[v,a,b,c],[]⟩)=QG (bb su [v,a,b,c]):=by kernel_rfl
theorem CL(p:SE)(S:Ss)(v:QU):Uz (aK p) S (Sb (aY (aK p) 445) ⟨[v],[]⟩)=QG (bb sv [v]):=by kernel_rfl
theorem CM(p:SE)(S:Ss):Uz (aK p) S (Sb (aY (aK p) 452) ⟨[],[]⟩)=QG (bb sq []):=by kernel_rfl
theorem CN(p:SE)(S:Ss)(v:QU):Uz (aK p) S (Sb (aY (aK p) 457) ⟨[v],[]⟩)=QG (bb ll [v]):=by kernel_rfl
theorem CR(p:SE):jI (aK p) nI:=⟨(aL (λv a b c S=>Cv p S v a b c) (λv a b c d S=>Cw p S v a b c d) (λv a b c d e S=>Cy p S v a b c d e)),
 (λv S=>CP p S v),
 (λv S=>CQ p S v),
 (λv S=>BB p S v),
 (λv a S=>BC p S v a),
 (λv S=>BE p S v),
 (λv S=>BF p S v),
 (λv S=>BG p S v),
 (λv S=>BH p S v),
 (λv S=>BI p S v),
 (λv S=>BJ p S v),
 (λv a S=>BK p S v a),
 (λv a b S=>BL p S v a b),
 (λv a b S=>BM p S v a b),
 (λv a S=>BN p S v a),
 (λv S=>BO p S v),
 (λv a S=>BP p S v a),
 (λv S=>BQ p S v),
 (λv a S=>BR p S v a),
 (λv S=>BS p S v),
 (λv a S=>BU p S v a),
 (λv S=>BV p S v),
 (λv a S=>BW p S v a),
 (λv a S=>BX p S v a),
 (λv a S=>BY p S v a),
 (λv a S=>BZ p S v a),
 (λv a S=>Cb p S v a),
 (λv a S=>Cc p S v a),
 (λv a S=>Cd p S v a),
 (λv a S=>Ce p S v a),
 (λv a b S=>Ci p S v a b),
 (λv a S=>Cj p S v a),
 (λv a b S=>Cn p S v a b),
 (λv S=>Co p S v),
 (λv S=>Cp p S v),
 (λv a S=>Cq p S v a),
 (λv a S=>Cr p S v a),
 (λv a S=>Ct p S v a),
 (λv a S=>Cu p S v a),
 (λv a b S=>Cz p S v a b),
 (λv a S=>CA p S v a),
 (λv a S=>CB p S v a),
 (λv a b c S=>CC p S v a b c),
 (λv a S=>CD p S v a),
 (λv a b S=>CE p S v a b),
 (λv a S=>CF p S v a),
 (λv a S=>CG p S v a),
 (λv a S=>CH p S v a),
 (λv S=>CI p S v),
 (λv S=>CJ p S v),
 (λv a b c S=>CK p S v a b c),
 (λv S=>CL p S v),
 (λS=>CM p S),
 (λv S=>CN p S v),Tu⟩
end Mine
end
section
namespace Mine
def pS:Prop:=∀x y:RW,0≤x→0≤y→y<2147483647→
 ∃a t,dm (aB 60) (ll.Qu.drop 1) [(124,.B 1)] [.A [],.A [.A x,.A y,.B 0]]=QG ((.B (.D QO),a),t)
end Mine
end
section
open PySem PySem.W PySem.Calls PyProof.Rows
namespace Mine
theorem Gz{prog:RP}{w:Sn}{g h:RI}{p:RP}{loose:QI Ux}{mg mb m:Ux→Rz QU}{env:Wq}{L l r:RK}{x y:RW}{t t':Tok}{rest:QI Wo}
  {A:SY} {Q:Flow→QZ→Prop} {E:QU→QZ→Prop} {D:QZ}
  (EV:pS) (FS:dD prog w) (FM:fF prog w) (X:(aK w.params).In g) (TR:TopRead p loose mg mb g) (NL:g.NoLimit) (F:Fr g L h m)
  (hl:h.get? l=QG (W.listOf #[.int x t,.int y t',.ref r] 0)) (hr:h.get? r=QG (W.listOf #[] 0))
  (nl:g.get? l=RM) (nr:g.get? r=RM) (e:r≠l) (lL:l≠L) (rL:r≠L) (l3:3<l) (r3:3<r) (bK:∃o,g.get? 3=QG o)
  (e1:env.scope.kind=.function) (e2:env.globals=Un) (e3:env.builtins=YE) (H:env.locals=L)
  (cells:∀x a,env.cells.lookup x=QG a→(∃v,h.IsCell a v)∧a≠l∧a≠r∧g.get? a=RM∧a≠L)
  (P:∀x y a,env.cells.lookup x=QG a→env.cells.lookup y=QG a→x=y)
  (S:∃a,env.kindOf (QF "source")=QG .cell∧env.cells.lookup (QF "source")=QG a∧h.IsCell a (QG (.ref l)))
  (hx:0≤x) (hy:0≤y) (T:y<2147483647) (hA:br A (2*60+1))
  (ck:fK (ll.Qu.drop 1) env.scope.names rest=QO) (N:cO env.scope.names env)
  (I:D.heap=h)
  (hQ:∀M tk U,Fr g L M U→Q (.ret (.bool QO)) {D with heap:=M,toks:=tk}):
  Rh (Rf prog w) A (execs rest env) Q E D:=by
 refine jx (λa2 V ev=> ?_) (EV x y hx hy T);have G:=Ls w.params;have B:bB prog w g (aK w.params):=⟨FS,FM,Lr G,X,FC G X TR,Dk G X TR⟩;have CO:=uS B (xp G) NL (DY G (CR w.params) X) 60
 have n:∀b,bF [(r,r),(l,l)] b→b=r∨b=l:=λb=>ag λp d q=>by
  (refine oO (λk=> ?_) (λd=> ?_) (mC d)<;>try subst k)
  ·exact .inl (q.elim id id)
  ·rw[m1 d] at q
   exact .inr (q.elim id id)
 have R:ah prog w g D.heap [(r,r),(l,l)] [.A [],.A [.A x,.A y,.B 0]]:=by
  rw[I];refine⟨F.keep,bK,QJ,λb hb=>(n b hb).elim (λq=>q▸⟨nr,r3⟩) λq=>q▸⟨nl,l3⟩,λi j p q u O J=> ?_,λi p o u ho=> ?_⟩
  ·match i,j with
   |0,0=>exact Ro QJ J
   |1,1=>exact Ro QJ J
   |0,1=>cases u;cases O;exact(cq e e e e)
   |1,0=>cases u;cases O;exact(cq e.symm e.symm e.symm e.symm)
   |i+2,Z=>exact aI u
   |0,j+2=>exact aI O
   |1,j+2=>exact aI O
  ·match i with
   |0=>cases u;cases ho;exact(cW QJ ([]) ⟨_,hr⟩ QJ (by decide))
   |1=>cases u;cases ho;exact(cW QJ ([_,_,_]) ⟨_,hl⟩ ⟨_,_,QJ,⟨_,QJ⟩,_,_,QJ,⟨_,QJ⟩,aA.f (ai (r,r) QJ QJ)⟩ (by show 3≤4096;decide))
   |i+2=>exact aI u
 have ER:aw g D.heap [(r,r),(l,l)] env [(124,.B 1)]:=by
  rw[I];refine⟨e1,e2,e3,⟨m,H▸F.ns⟩,λc s pv hc hs d=> ?_,λs a h=> ?_,P,λz=> ?_,H▸F.above⟩
  ·rcases xD d with⟨rfl,rfl⟩|⟨_,d⟩
   ·have K:bj 124=QG (QF "source"):=by decide+kernel
    obtain rfl:=QS (K.symm.trans hc)
    (revert S;refine du λa k1 k2 k3=> ?_)
    exact(ai (.ref l) (ai (l,l) QJ QJ) (.inr (cE (.inl k1) a k2 k3)))
   ·exact aI d
  ·refine eu (λh1 h2 h3 h4 h5=> ?_) (cells s a h)
   exact(cq h1 (λz=>(n _ z).elim h3 h2) h4 (H▸h5))
  ·rw[H] at z
   exact(n _ z).elim (λq=>rL q.symm) λq=>lL q.symm
 refine pW B (xp G) CO _ {NA:=env.scope.names,Nx:=env,ρ:=[(124,.B 1)],A:=A,E:=E,s:=D,Nz:=[(r,r),(l,l)],σ:=[.A [],.A [.A x,.A y,.B 0]],N:=N,hm:=hA,R:=R,ER:=ER} rest _ V Q ck ev λM a1 tk f R' Y S' fr=> ?_
 (revert fr;refine ag λv C rv=> ?_;subst C)
 obtain rfl:v=.bool true:=rv;refine oE (λU a0=> ?_) (Y.ns);exact hQ M tk U ⟨H▸a0,R'.NX,F.above⟩
end Mine
end
section
open PySem PySem.W PySem.Calls PyProof.Rows
set_option tactic.hygienic true
namespace Mine
def AD:Prop:=∀(g:RP) (w:Sn),dD g w∧fF g w
theorem JV(a:RW)(P:Prop)[Decidable P]:0≤(if-1-a>a then-1-a else a)*(if P then 1 else 0):=by
 refine Int.mul_nonneg ?_ ?_<;>split<;>lia
theorem LN(p:SE):∃q,(aK p).lookup 3=QG q:=⟨_,QJ⟩
theorem Dd{s:QI (Ux×RK)}{z A B:Ux}{d f i:RK}{g h:RI}{L l r:RK}{o p t:Obj}{C D E:Rz QU}
  (F:s=[(z,d),(A,f),(B,i)])
  (j:h.get? d=QG o∧d≠L∧g.get? d=RM) (k:h.get? f=QG p∧f≠L∧g.get? f=RM) (n:h.get? i=QG t∧i≠L∧g.get? i=RM)
  (G:o.data=.cell C) (H:p.data=.cell D) (I:t.data=.cell E)
  (u:d≠l∧d≠r) (w:f≠l∧f≠r) (y:i≠l∧i≠r):
  ∀x a,s.lookup x=QG a→(∃v,h.IsCell a v)∧a≠l∧a≠r∧g.get? a=RM∧a≠L:=λx a J=>by
 have m:=ff (F▸J)
 (refine oO (λq=> ?_) (λm=> ?_) (mC m))
 ·(refine oA (λZ e=> ?_) (Tw q);subst e)
  exact⟨⟨_,_,j.1,G⟩,u.1,u.2,j.2.2,j.2.1⟩
 ·(refine oO (λq=> ?_) (λm=> ?_) (mC m))
  ·(refine oA (λZ b=> ?_) (Tw q);subst b)
   exact⟨⟨_,_,k.1,H⟩,w.1,w.2,k.2.2,k.2.1⟩
  ·(refine oA (λZ c=> ?_) (Tw (m1 m));subst c)
   exact⟨⟨_,_,n.1,I⟩,y.1,y.2,n.2.2,n.2.1⟩
theorem FR{s:QI (Ux×RK)}{n e f:Ux}{c b d:RK}(h:s=[(n,c),(e,b),(f,d)])(g:c≠b)(i:c≠d)(j:b≠d):
  ∀x y a,s.lookup x=QG a→s.lookup y=QG a→x=y:=λx y a k m=>
 sd (l:=s) (by rw[h];simp[g,i,j]) (ff k) (ff m)
theorem HJ{env:Wq}(c:env.cells=qbW (env.locals+1) env.scope.names [])(f:env.scope.names.all (λq=>q.2 !=.free)=QO):
  cO env.scope.names env:=λx k h=>by
 have a:env.kindOf x=QG k:=h
 induction k using Tb with
 |«local»=>exact a
 |cell=>exact⟨a,by rw[c];exact Tx.mp (qbk _ _ _ (.inl h))⟩
 |free=>
  have:=SX.mp f _ (ff h);simp at this
 |globalImplicit=>exact a
 |globalExplicit=>trivial
theorem GO{n:QN}(h:0< -(n:RW)∨(n:RW)≤0):n=0:=
 h.elim (λh=>Ro (Int.neg_pos.mp h) (Xm.mpr (Rx n))) λh=>Nat.le_zero.mp (Sz.mp h)
theorem Lj{n:QN}:n+1+1≠n:=UC (VA (TB n))
theorem p1{a l:QN}{P:Prop}(h:a<l∧P):¬a=l:=Tj h.1
theorem Ko:fK (ll.Qu.drop 1) iF.scope.names sU=true:=by kernel_rfl
theorem ML:namesOk qv (looseW qv []) (namesW qv [])=true:=by
 rw[Fast.te17448422675489707002,Fast.te821141287760084731];kernel_rfl
end Mine
open Mine
set_option compiler.extract_closed false
local macro_rules | `(tactic|k_qdec)=> `(tactic|exact Mine.ML)
set_option maxHeartbeats 8000000 in
theorem Mine.fin(EV:pS)(FS:AD):PySem.Challenge.rw_nz0128_01.Holds:=Mine.FO (by
 unfold Mine.hk
 k_go0
 dsimp only[Mine.iF];generalize hrest:Mine.sU=rest;rename_i W s0 s1 mg mb G Y fa ob pm doc ho hg KX X V GL T B TE TW w9 w8 M w7 w6 hcd w5 hs hlay0 hL1 hr hl2 w4 w3 w2 w1 w0 hL a1 a2 a3 a4 a5 a6 a7 a8 a9 a10 a11 a12 a13 a14 a15 a16 a17 a18 a19 a20
 (all_goals try k_fold)
 k_steps
 rotate_left 1
 ·(rename_i u1 u2 u3 u4 u5 u6 u7 u8 u9;exact Ro (Ui.mp (GO (by assumption))) (Vb u1))
 all_goals (
  rename_i l1 Gc kXX h0 o0 F0 N0 d0;have hcs:qbW (s1.heap.objs.size+1) iF.scope.names []=[(QF "told",s1.heap.objs.size+1+1+1),(QF "body",s1.heap.objs.size+1+1),(QF "source",s1.heap.objs.size+1)]:=by with_unfolding_all rfl
  have t3:∃o,s1.heap.get? 3=QG o:=let⟨q,hq⟩:=LN W.params;⟨_,KX 3 q hq⟩;have z3:3<s1.heap.objs.size:=let⟨_,e⟩:=t3;SS e
  refine Gz EV (FS _ _).1 (FS _ _).2 KX (topRead_of T) T.nolimit F0 (N0.get (by k_mem)) (N0.get (by k_mem)) (N0.fresh (by k_mem)) (N0.fresh (by k_mem)) ?ne ?lL ?rL ?l3 ?r3 t3 QJ QJ QJ QJ
   (Dd hcs (N0 (_,a13) (by k_mem)) (N0 (_,a14) (by k_mem)) (N0 (_,o0) (by k_mem)) a16 a17 d0 ?_ ?_ ?_) (FR hcs (Wu _) Lj (Wu _)) ⟨_,by with_unfolding_all rfl,by with_unfolding_all rfl,_,N0.get (by k_mem),d0⟩ (JV _ _) (Ym _ (by decide)) (Zp _ (by decide)) ?room ?ck ?nm QJ ?hQ
  case ne=>(first|exact p1 (by assumption)|exact p1 (Ri (by assumption))|exact p1 (Ri (Ri (by assumption)))|exact p1 (And.right (And.right (And.right (by assumption))))|exact p1 (And.right (And.right (And.right (And.right (by assumption)))))|exact p1 (And.right (And.right (And.right (And.right (And.right (by assumption))))))|exact Nat.ne_of_lt (And.right (by assumption))|exact Nat.ne_of_lt (And.right (And.right (by assumption)))|exact Nat.ne_of_lt (And.right (And.right (And.right (by assumption))))|exact Nat.ne_of_lt (And.right (And.right (And.right (And.right (by assumption)))))|exact Nat.ne_of_lt (And.right (And.right (And.right (And.right (And.right (by assumption))))))|exact Nat.ne_of_lt (And.right (And.right (And.right (And.right (And.right (And.right (by assumption))))))))
  case lL=>(first|exact UC (SD (Ri (Ri (by assumption))))|exact UC (SD (Ri (Ri (Ri (by assumption)))))|exact UC (SD (Ri (Ri (Ri (Ri (by assumption))))))|exact UC (SD (Ri (Ri (Ri (Ri (Ri (by assumption)))))))|exact UC (SD (Ri (Ri (Ri (Ri (Ri (Ri (by assumption)))))))))
  case rL=>(first|exact UC (SD (Ri (Ri (by assumption))))|exact UC (SD (Ri (Ri (Ri (by assumption)))))|exact UC (SD (Ri (Ri (Ri (Ri (by assumption))))))|exact UC (SD (Ri (Ri (Ri (Ri (Ri (by assumption)))))))|exact Nat.ne_of_gt (Nat.lt_of_succ_lt (And.right (And.right (And.right (And.right (And.right (And.right (by assumption)))))))))
  case l3=>(first|exact Ue z3 (SD (Ri (Ri (by assumption))))|exact Ue z3 (SD (Ri (Ri (Ri (by assumption)))))|exact Ue z3 (SD (Ri (Ri (Ri (Ri (by assumption))))))|exact Ue z3 (SD (Ri (Ri (Ri (Ri (Ri (by assumption)))))))|exact Ue z3 (SD (Ri (Ri (Ri (Ri (Ri (Ri (by assumption)))))))))
  case r3=>(first|exact Ue z3 (SD (Ri (Ri (by assumption))))|exact Ue z3 (SD (Ri (Ri (Ri (by assumption)))))|exact Ue z3 (SD (Ri (Ri (Ri (Ri (by assumption))))))|exact Ue z3 (SD (Ri (Ri (Ri (Ri (Ri (by assumption)))))))|exact Nat.lt_trans z3 (Nat.lt_of_succ_lt (And.right (And.right (And.right (And.right (And.right (And.right (by assumption)))))))))
  case room=>exact⟨QJ,lB QJ,lB QJ⟩
  case nm=>exact HJ QJ QJ
  case ck=>(subst hrest;exact Ko)
  case hQ=>(intro h' tk m' F';exact goodW_bool F' hg (raisesW_false (by wrow_none_raised)) (by wrow_post) QJ)
  all_goals constructor<;>(first|exact p1 (by assumption)|exact p1 (Ri (by assumption))|exact p1 (Ri (Ri (by assumption)))|exact p1 (Ri (Ri (Ri (by assumption))))|exact p1 (Ri (Ri (Ri (Ri (by assumption)))))|exact p1 (Ri (Ri (Ri (Ri (Ri (by assumption))))))|exact Tj (Ri (by assumption))|exact Tj (Ri (Ri (by assumption)))|exact Tj (Ri (Ri (Ri (by assumption))))|exact Tj (Ri (Ri (Ri (Ri (by assumption)))))|exact Tj (Ri (Ri (Ri (Ri (Ri (by assumption))))))|exact Tj (Ri (Ri (Ri (Ri (Ri (Ri (by assumption))))))))))
end
section
namespace Mine
def aa{α:Type}(m:M α)(σ:af)(Q:α→af→Prop):Prop:=∃p,m σ=QG p∧Q p.1 p.2
section
variable{α β:Type}{m:M α}{f:α→M β}{σ σ':af}{a:α}{b:RG}
theorem aa.h{Q:β→af→Prop}(h:aa m σ λa σ'=>aa (f a) σ' Q):aa (m.a f) σ Q:=
 h.elim λp c=>c.2.elim λq d=>(ai q (by
  show(m σ).bind _=_;rw[c.1]
  exact d.1) d.2)
theorem aa.g{P Q:α→af→Prop}(h:aa m σ P)(d:∀a σ',P a σ'→Q a σ'):aa m σ Q:=
 h.elim λp c=>(ai p c.1 (d _ _ c.2))
theorem aa.mk{Q:α→af→Prop}(h:m σ=QG (a,σ'))(q:Q a σ'):aa m σ Q:=(ai _ h q)
theorem aa.i{Q:α→af→Prop}(q:Q a σ):aa (M.b a) σ Q:=(ai (a,σ) QJ q)
theorem aa.l{Q:α→af→Prop}(d:b=QO)(h:aa m σ Q):aa (M.c b m) σ Q:=by rw[d];exact h
end
def ar(κ ρ:ay):Prop:=∀n v,κ.lookup n=QG v→ρ.lookup n=QG v
theorem ar.g(κ:ay):ar κ κ:=λZ Z h=>h
theorem ar.j{κ ρ c:ay}(h:ar κ ρ)(g:ar ρ c):ar κ c:=λn v e=>g n v (h n v e)
theorem ar.d{ρ:ay}:ar [] ρ:=λZ Z h=>aI h
theorem ar.c{κ ρ:ay}{n:QN}{v:PV}(h:ρ.lookup n=QG v)(g:ar κ ρ):ar ((n,v)::κ) ρ:=λk w e=>by
 simp only[Wy] at e;split at e
 ·rename_i d
  rw[←e,VC d];exact h
 ·exact g k w e
theorem ar.r{ρ:ay}:∀{κ:ay},(κ.map λp=>ρ.lookup p.1)=(κ.map λp=>QG p.2)→ar κ ρ
 |[],Z=>.d
 |Z::U,h=>.c (VE h).1 (ar.r (VE h).2)
theorem ar.i{κ ρ:ay}{n:QN}{v:PV}(g:ar κ ρ):ar ((n,v)::κ) ((n,v)::ρ):=λk w e=>by
 simp only[Wy] at e⊢;split at e
 ·exact e
 ·exact g k w e
theorem ar.h{κ ρ:ay}(g:ar κ ρ):∀δ:ay,ar (δ++κ) (δ++ρ)
 |[]=>g
 |(Z,U)::δ=>ar.i (g.h δ)
def aC{α β:Type}(R:α→β→Prop)(m:M α)(c:M β):Prop:=∀σ p,m σ=QG p→∃b,c σ=QG (b,p.2)∧R p.1 b
section
variable{α β γ δ:Type}{R:α→β→Prop}
theorem aC.d{m:M α}:aC Eq m m:=λZ p h=>(ai p.1 h QJ)
theorem aC.h{S:γ→δ→Prop}{m:M α}{d:M β}{f:α→M γ}{g:β→M δ}(h:aC R m d)(j:∀a b,R a b→aC S (f a) (g b)):aC S (m.a f) (d.a g):=λσ p e=>by
 induction i:m σ using QQ with
 |none=>
  have:(m σ).bind (λp=>f p.1 p.2)=QG p:=e;rw[i] at this;exact aI this
 |some q=>
  have e:(m σ).bind (λp=>f p.1 p.2)=QG p:=e;rw[i] at e;refine ag (λb k r=> ?_) (h σ q i);refine ag (λc l s=> ?_) (j _ _ r _ _ e);refine(ai c ?_ s);show(d σ).bind _=_;rw[k];exact l
theorem aC.c{S:γ→δ→Prop}{m d:M α}{f:α→M γ}{g:α→M δ}(h:aC Eq m d)(i:∀a,aC S (f a) (g a)):aC S (m.a f) (d.a g):=
 h.h λa Z e=>e▸i a
theorem aC.k{a:α}{b:β}(h:R a b):aC R (M.b a) (M.b b):=λZ Z e=>(ai b (by cases e;rfl) (by cases e;exact h))
theorem aC.j{m:M α}{d:M β}{b:RG}(h:aC R m d):aC R (M.c b m) (M.c b d):=by induction b using QL with
 |true=>exact h
 |false=>exact λZ Z e=>aI e
theorem aC.g{m n:M α}{c d:M β}{b:RG}(h:aC R m c)(g:aC R n d):aC R (Sr b m n) (Sr b c d):=by induction b using QL with
 |true=>exact h
 |false=>exact g
theorem aC.l{m:M β}:aC R (M.g (α:=α)) m:=λZ Z e=>aI e
theorem aC.i{s:aG}{n:QN}{stop:α→RG}{f g:PV→α→M α}(h:∀x t,aC Eq (f x t) (g x t)):∀k t,aC Eq (dA s n stop f k t) (dA s n stop g k t)
 |0,Z=>.d
 |k+1,Z=>aC.d.c λx=>(h x _).c λt=>.g .d (aC.i h k t)
end
theorem tM(ts:QI QN)(v:PV){κ ρ:ay}(h:ar κ ρ):aC ar (bL ts v κ) (bL ts v ρ):=by
 match ts with
 |[]=>exact aC.l
 |[t]=>exact .k h.i
 |t::u::r=>
  dsimp only[bL];exact aC.d.c λl=>.j (.k (h.h _))
mutual
theorem bR(C:QN→QI PV→M PV):∀(e:PE) {κ ρ:ay},ar κ ρ→aC Eq (ak C e κ) (ak C e ρ)
 | .B Z,U,Y,O=>.d
 | .A n,κ,ρ,h=>λσ p e=>by
  have e:(κ.lookup n).map _=_:=e
  induction r:κ.lookup n using QQ with
  |none=>rw[r] at e;exact aI e
  |some v=>
   rw[r] at e;refine(ai v ?_ ?_)
   ·show(ρ.lookup n).map _=_
    rw[h _ _ r]
    cases e
    rfl
   ·cases e
    rfl
 | .D Z,U,Y,O=>.d
 | .qb Z,U,Y,O=>.d
 | .J Z a b,U,Y,h=>(bR C a h).c λZ=>(bR C b h).c λZ=>.d
 | .W a,Z,U,h=>(bR C a h).c λZ=>.d
 | .T a,Z,U,h=>((bR C a h).c λZ=>.d).c λZ=>.d
 | .M a b,Z,U,h=>((bR C a h).c λZ=>.d).c λZ=>.g (((bR C b h).c λZ=>.d).c λZ=>.d) .d
 | .Q a b,Z,U,h=>((bR C a h).c λZ=>.d).c λZ=>.g .d (((bR C b h).c λZ=>.d).c λZ=>.d)
 | .H Z a b,U,Y,h=>(bR C a h).c λZ=>(bR C b h).c λZ=>.d
 | .qc Z U a b c,Y,O,h=>(bR C a h).c λZ=>(bR C b h).c λZ=>aC.d.c λZ=>.g ((bR C c h).c λZ=>.d) .d
 | .P c a b,Z,U,h=>((bR C c h).c λZ=>.d).c λZ=>.g (bR C a h) (bR C b h)
 | .I q,Z,U,h=>(jT C q h).c λZ=>.d
 | .G q,Z,U,h=>(jT C q h).c λZ=>.d
 | .X,Z,U,Y=>.d
 | .qd Z q,U,Y,h=>(jT C q h).c λZ=>.d
 | .qf Z e,U,Y,h=>(bR C e h).c λZ=>.d
 | .N t u c e,Z,U,h=>by
  refine(bR C u h).c λZ=>aC.d.c λZ=>.j (.c (aC.i (λx Z=> ?_) _ _) λZ=>.d);refine(tM t x h).h λZ Z l=>((bR C c l).c λZ=>.d).c λZ=>.g ((bR C e l).c λZ=>.d) .d
 | .V t Z u c k e,U,Y,h=>by
  refine(bR C u h).c λZ=>aC.d.c λZ=>.j (.c (aC.i (λx Z=> ?_) _ _) λZ=>.d);refine(tM t x h).h λZ Z l=>((bR C c l).c λZ=>.d).c λZ=>.g ((bR C k l).c λZ=>aC.d.c λZ=>(bR C e l).c λZ=>.d) .d
 | .F f s,Z,U,h=>(bR C f h).c λZ=>(jT C s h).c λZ=>.d
 | .R o Z s,U,Y,h=>(bR C o h).c λZ=>aC.d.c λZ=>aC.d.c λZ=>(jT C s h).c λZ=>.d
 | .L o Z s,U,Y,h=>(bR C o h).c λZ=>aC.d.c λZ=>aC.d.c λZ=>(jT C s h).c λZ=>.d
 | .K o Z,U,Y,h=>(bR C o h).c λZ=>.d
 | .C o i,Z,U,h=>(bR C o h).c λZ=>(bR C i h).c λZ=>.d
 | .S o w y,Z,U,h=>(bR C o h).c λZ=>(bR C w h).c λZ=>(bR C y h).c λZ=>.d
 | .qe o,Z,U,h=>(bR C o h).c λZ=>.d
theorem jT(C:QN→QI PV→M PV):∀(s:QI PE) {κ ρ:ay},ar κ ρ→aC Eq (cK C s κ) (cK C s ρ)
 |[],Z,U,Y=>.d
 |e::r,Z,U,h=>(bR C e h).c λZ=>(jT C r h).c λZ=>.d
end
section
variable{C:QN→QI PV→M PV}{κ κ':ay}{σ σ':af}{r:QI PS}
theorem aa.D{e:PE}{ρ:ay}{Q:PV→af→Prop}(h:aa (ak C e κ) σ Q)(s:ar κ ρ):aa (ak C e ρ) σ Q:=
 h.elim λp a=>(bR C e s σ p a.1).elim λZ b=>(ai _ b.1 (b.2▸a.2))
def RS(C:QN→QI PV→M PV)(ss:QI PS)(κ:ay)(σ:af)(Q:Fl→ay→af→Prop):Prop:=
 ∀R,ar κ R→aa (dm C ss R) σ λp σ'=>∃κ',ar κ' p.2∧Q p.1 κ' σ'
def R1(C:QN→QI PV→M PV)(s:PS)(κ:ay)(σ:af)(Q:Fl→ay→af→Prop):Prop:=
 ∀R,ar κ R→aa (jf C s R) σ λp σ'=>∃κ',ar κ' p.2∧Q p.1 κ' σ'
def aV(C:QN→QI PV→M PV)(r:QI PS)(Q:Fl→ay→af→Prop)(l:Fl)(κ:ay)(σ:af):Prop:=match l with
 | .A=>RS C r κ σ Q
 | .B v=>Q (.B v) κ σ
variable{Q:Fl→ay→af→Prop}
theorem RS.s{s:PS}(h:R1 C s κ σ (aV C r Q)):RS C (s::r) κ σ Q:=λR a=>by
 refine aa.h ((h R a).g λp σ'=>ag λκ' k q=> ?_);obtain⟨l,b⟩:=p
 induction l using Fl.casesOn with
 |A=>exact q _ k
 |B v=>exact .i (ai κ' k q)
theorem RS.a(q:Q .A κ σ):RS C [] κ σ Q:=λZ s=>.i (ai κ s q)
theorem aV.b(q:Q .A κ σ):aV C [] Q .A κ σ:=RS.a q
theorem aV.a(h:RS C r κ σ Q):aV C r Q .A κ σ:=h
theorem RS.p(s:ar κ' κ)(h:RS C r κ' σ Q):RS C r κ σ Q:=λR a=>h R (s.j a)
theorem RS.f{e:PE}(h:aa (ak C e κ) σ λv σ'=>Q (.B v) κ σ'):RS C (.B e::r) κ σ Q:=
 .s λZ a=>by
  dsimp only[jf];exact .h ((h.D a).g λZ Z q=>.i (ai κ a q))
theorem RS.v{e:PE}{t:PT}(h:aa (ak C e κ) σ λv σ'=>∀ρ,ar κ ρ→aa (tB C t v ρ) σ' λb a=>∃κ',ar κ' b∧RS C r κ' a Q):RS C (.A t e::r) κ σ Q:=
 .s λZ c=>by
  dsimp only[jf];exact .h ((h.D c).g λv Z q=>.h ((q _ c).g λZ Z=>ag λκ' k q=>.i (ai κ' k q)))
theorem RS.d{e:PE}{n:QN}(h:aa (ak C e κ) σ λv σ'=>RS C r ((n,v)::κ) σ' Q):RS C (.A (.A n) e::r) κ σ Q:=
 .v (h.g λZ Z q Z s=>.i (ai _ s.i q))
theorem RS.l{e:PE}{a b:QN}{ns:QI QN}(h:aa (ak C e κ) σ λv σ'=>aa (fV v) σ' λl c=>l.length=ns.length+2∧RS C r (((a::b::ns).zip l).reverse++κ) c Q):RS C (.A (.B (a::b::ns)) e::r) κ σ Q:=
 .v (h.g λZ Z q Z s=>by
  dsimp only[tB,bL]
  exact .h (q.g λl Z q=>.l (by rw[q.1];exact ZI _) (.i (ai _ (s.h _) q.2))))
theorem RS.n{e o:PE}{a:QN}(h:aa (ak C e κ) σ λv σ'=>aa (ak C o κ) σ' λx b=>aa (Mine.pd x a v) b λZ c=>RS C r κ c Q):RS C (.A (.D o a) e::r) κ σ Q:=
 .v (h.g λZ Z q Z s=>.h ((q.D s).g λZ Z q=>.h (q.g λZ Z q=>.i (ai κ s q))))
theorem RS.q{e o i:PE}(h:aa (ak C e κ) σ λv σ'=>aa (ak C o κ) σ' λx a=>aa (ak C i κ) a λy b=>aa (Mine.mz x y v) b λZ c=>RS C r κ c Q):RS C (.A (.C o i) e::r) κ σ Q:=
 .v (h.g λZ Z q Z s=>.h ((q.D s).g λZ Z q=>.h ((q.D s).g λZ Z q=>.h (q.g λZ Z q=>.i (ai κ s q)))))
theorem RS.k{e:PE}(h:aa (ak C e κ) σ λZ σ'=>RS C r κ σ' Q):RS C (.F e::r) κ σ Q:=
 .s λZ a=>by
  exact .h ((h.D a).g λZ Z q=>.i (ai κ a q))
def RB(C:QN→QI PV→M PV)(e:PE)(κ:ay)(σ:af)(Q:RG→af→Prop):Prop:=aa (ak C e κ) σ λv σ'=>∃b,v=.D b∧Q b σ'
theorem RB.d{e:PE}{ρ:ay}{Q:RG→af→Prop}(h:RB C e κ σ Q)(s:ar κ ρ):aa ((ak C e ρ).a bI) σ Q:=
 .h ((h.D s).g λZ Z=>ag λZ e q=>by rw[e];exact .i q)
theorem RS.j{c:PE}{a b:QI PS}(h:RB C c κ σ λp σ'=>RS C (Sr p a b) κ σ' (aV C r Q)):RS C (.C c a b::r) κ σ Q:=
 .s λZ e=>by
  dsimp only[jf];exact .h ((h.d e).g λp Z q=>by induction p using QL<;>exact q _ e)
theorem RS.w{c:PE}{b:QI PS}{I:QN→ay→af→Prop}(k:QN)(l:k<mD)(t:I k κ σ)
  (u:∀k κ σ,I k κ σ→∀J:Fl→ay→af→Prop,(∀j κ σ,j<k→I j κ σ→J .A κ σ)→(∀v κ σ,Q (.B v) κ σ→J (.B v) κ σ)→
   RB C c κ σ λp σ'=>(p=QO→RS C b κ σ' J)∧(p=QR→RS C r κ σ' Q)):RS C (.G c b::r) κ σ Q:=by
 refine .s λR m=> ?_;show aa (mE (λR=>(ak C c R).a bI) (λR=>dm C b R) mD R) σ _;generalize mD=w at l
 induction w generalizing k κ σ R with
 |zero=>exact Ro l (VS _)
 |succ w x=>
  refine .h (((u k κ σ t (λn κ' e=>match n with| .A=>∃j,j<k∧I j κ' e| .B v=>Q (.B v) κ' e) (λj Z Z o h=>(ai j o h)) (λZ Z Z q=>q)).d m).g λp σ' q=> ?_)
  induction p using QL with
  |false=>exact .i (ai κ m (q.2 QJ))
  |true=>
   replace q:=q.1 QJ;show aa ((dm C b R).a λr=>Sr (Fl.qa r) (M.b r) (mE (λR=>(ak C c R).a bI) (λR=>dm C b R) w r.2)) σ' _;refine .h ((q R m).g λa e=>ag λκ' f q=> ?_);obtain⟨n,y⟩:=a
   induction n using Fl.casesOn with
   |A=>
    (revert q;refine ag λj o z=> ?_)
    exact x j z _ f (Rj o (SM l))
   |B v=>exact .i (ai κ' f q)
end
def Le(σ σ':af):Prop:=∀(j:QN) (o:AO),σ[j]?=QG o→σ'[j]?=QG o
def Ch(r:QN)(σ σ':af):Prop:=∀(j:QN) (o:AO),j≠r→σ[j]?=QG o→σ'[j]?=QG o
def fH(σ:af)(r:QN)(o:AO)(σ':af):Prop:=Le σ σ'∧σ[r]?=RM∧σ'[r]?=QG o
def aJ(σ:af)(l:QI PV)(v:PV)(σ':af):Prop:=∃r,v=.B r∧fH σ r (.A l) σ'
theorem Le.b(σ:af):Le σ σ:=λZ Z h=>h
theorem Le.a{σ σ' b:af}(h:Le σ σ')(g:Le σ' b):Le σ b:=λj o e=>g j o (h j o e)
theorem Le.c{σ σ' a:af}{r:QN}(h:Le σ σ')(b:σ[r]?=RM)(g:Ch r σ' a):Le σ a:=λj o e=>g j o (λq=>by rw[q,b] at e;exact aI e) (h j o e)
theorem Ch.a{σ σ' b:af}{r:QN}(h:Ch r σ σ')(g:Ch r σ' b):Ch r σ b:=λj o n e=>g j o n (h j o n e)
theorem Le.f{σ σ' a:af}{r:QN}(h:Le σ σ')(g:Ch r σ' a):Ch r σ a:=λj o n e=>g j o n (h j o e)
theorem Ch.b{σ σ' a:af}{r:QN}(h:Ch r σ σ')(g:Le σ' a):Ch r σ a:=λj o n e=>g j o (h j o n e)
theorem Le.d{σ σ':af}{r:QN}(h:Le σ σ')(e:σ'[r]?=RM):σ[r]?=none:=by
 induction q:σ[r]? using QQ with
 |none=>rfl
 |some o=>exact bV ((h _ _ q).symm.trans e)
theorem bU{σ:af}{i j:QN}{o:AO}(h:σ[i]?=QG o)(g:σ[j]?=RM):i≠j:=λe=>by
 rw[e,g] at h;exact aI h
section
variable{σ σ':af}{Q:PV→af→Prop}{o o':AO}{r:QN}
theorem aa.x(h:∀r σ',fH σ r o σ'→Q (.B r) σ'):aa (M.j o) σ Q:=.mk QJ (h _ _ (aL (λZ Z e=>(Us (gL e)).trans e) (TZ (Sd _)) (Ul ..)))
theorem aa.L(a:σ[r]?=QG o')(h:∀σ',Ch r σ σ'→σ'[r]?=QG o→Q .G σ'):aa (M.i r o) σ Q:=by
 have l:=(gL a);refine .mk ?_ (h _ (λj Z n e=>(qbD n.symm).trans e) (qbf l));show Sr _ _ _=_;rw[Vq.mpr l]
 rfl
theorem aa.w{Q:AO→af→Prop}(h:σ[r]?=QG o)(q:Q o σ):aa (M.f r) σ Q:=.mk (by show(σ[r]?).map _=_;rw[h];rfl) q
theorem aa.p{Q:QI PV→af→Prop}{l:QI PV}(a:σ[r]?=QG (.A l))(q:Q l σ):aa (Mine.bZ (.B r)) σ Q:=.h (.i (.h (.w a (.i q))))
theorem aa.n{l:QI PV}(a:l.length≤aR)(h:∀r σ',fH σ r (.A l) σ'→Q (.B r) σ'):aa (Mine.cR l) σ Q:=.l (Wv.mpr a) (.x h)
theorem aa.z{l:QI PV}(h:l.length≤aR)(q:Q (.F l) σ):aa (Mine.iN l) σ Q:=.l (Wv.mpr h) (.i q)
end
def gz(s:aG)(l:QI PV)(σ:af):Prop:=match s with
 | .A k=>k=l
 | .D i=>σ[i]?=QG (.A l)
 | .B i=>∃k,σ[i]?=QG (.A k)∧l.length=k.length∧∀(j:QN) (x:PV),k[j]?=QG x→l[j]?=QG (PV.F [.A j,x])
 | .C i=>∃k,σ[i]?=QG (.B k)∧l=k.map (λp=>.A p.1)
theorem gz.a{s:aG}{l:QI PV}{σ:af}{j:QN}{x:PV}(h:gz s l σ)(b:l[j]?=QG x){Q:PV→af→Prop}(q:Q x σ):aa (jr s l.length j) σ Q:=by
 induction s using aG.casesOn with
 |A k=>
  have h:k=l:=h;exact .mk (by show(k[j]?).map _=_;rw[h,b];rfl) q
 |D i=>
  show aa (M.a (M.f i) λo=>M.a (eN o) λk=>.c (SW k.length l.length) (.h k[j]?)) σ Q;refine .h (.w h (.h (.i (.l (ZI _) (.mk ?_ q)))));rw[b]
  rfl
 |B i=>
  (revert h;refine du λk h d n=> ?_)
  refine oE (λy g=> ?_) ((⟨_,Rk (d▸(gL b))⟩:∃y,k[j]?=QG y));rw[n j y g] at b;show aa (M.a (M.f i) λo=>M.a (eN o) λk=>.c (SW k.length l.length) (.h (k[j]?.map λx=>.F [.A j,x]))) σ Q;refine .h (.w h (.h (.i (.l (qaL.mpr d.symm) (.mk ?_ q)))));rw[g,←QS b]
  rfl
 |C i=>
  (revert h;refine ag λk h e=> ?_;subst e)
  rw[Rn] at b;show aa (M.a (M.f i) λo=>M.a (iC o) λm=>.c (SW m.length (k.map _).length) (.h (m[j]?.map λp=>.A p.1))) σ Q;refine .h (.w h (.h (.i (.l (qaL.mpr (QP _).symm) (.mk ?_ q)))));rw[b]
  rfl
theorem gz.b{s:aG}{l:QI PV}{σ:af}(h:gz s l σ){Q:UE→af→Prop}(q:Q () σ):aa (kr s l.length) σ Q:=by
 induction s using aG.casesOn with
 |A k=>exact .i q
 |D i=>
  show aa (M.a (M.f i) λo=>M.a (eN o) λk=>.c (SW k.length l.length) (.b ())) σ Q;exact .h (.w h (.h (.i (.l (ZI _) (.i q)))))
 |B i=>
  (revert h;refine du λk h d z=> ?_)
  show aa (M.a (M.f i) λo=>M.a (eN o) λk=>.c (SW k.length l.length) (.b ())) σ Q;exact .h (.w h (.h (.i (.l (qaL.mpr d.symm) (.i q)))))
 |C i=>
  (revert h;refine ag λk h e=> ?_;subst e)
  show aa (M.a (M.f i) λo=>M.a (iC o) λm=>.c (SW m.length (k.map _).length) (.b ())) σ Q;exact .h (.w h (.h (.i (.l (qaL.mpr (QP _).symm) (.i q)))))
theorem oh{α B:Type}{s:aG}{stop:α→RG}{body:PV→α→M α}{Q:α→af→Prop}(f:B→PV)(xs:QI B)(I:QI B→α→af→Prop)
  (S:∀c a σ,I c a σ→gz s (xs.map f) σ)
  (k:∀x c a σ,I (x::c) a σ→aa (body (f x) a) σ λd σ'=>(stop d=QO∧Q d σ')∨(stop d=QR∧I c d σ'))
  (l:∀a σ,I [] a σ→Q a σ):∀(u p:QI B) (a:α) (σ:af),p++u=xs→I u a σ→aa (dA s xs.length stop body u.length a) σ Q
 |[],Z,a,σ,U,h=>by
  have:=S _ _ _ h;have j:=this.b (Q:=λZ σ'=>aa (M.b a) σ' Q) (.i (l a σ h));rw[QP] at j;exact .h j
 |x::c,p,a,σ,e,h=>by
  have m:(xs.map f)[xs.length-(c.length+1)]?=QG (f x):=by
   rw[←e,Rn,QW,Se,Nat.add_sub_cancel,TN (Sd _),VI]
   rfl
  have j:=(S _ _ _ h).a m (Q:=λy σ'=>aa ((body y a).a λt=>Sr (stop t) (M.b t) (dA s xs.length stop body c.length t)) σ' Q)
   (.h ((k x c a σ h).g λd σ' q=>by
    (revert q;refine oO (λq=> ?_) (λq=> ?_))
    ·rw[q.1]
     exact .i q.2
    ·rw[q.1]
     exact oh f xs I S k l c (p++[x]) d σ' (by rw[Rq];exact e) q.2))
  rw[QP] at j;exact .h j
section
variable{C:QN→QI PV→M PV}{κ κ':ay}{σ σ':af}{r:QI PS}{Q:Fl→ay→af→Prop}
theorem aa.qs{ts:QI QN}{v:PV}{ρ:ay}{P:ay→af→Prop}(h:aa (bL ts v κ) σ P)(s:ar κ ρ):aa (bL ts v ρ) σ λa σ'=>∃κ',ar κ' a∧P κ' σ':=
 h.elim λp b=>(tM ts v s σ p b.1).elim λZ c=>⟨_,c.1,p.1,c.2,b.2⟩
def RF(C:QN→QI PV→M PV)(ts:QI QN)(b r:QI PS)(s:aG×QN)(κ:ay)(σ:af)(Q:Fl→ay→af→Prop):Prop:=
 s.1.qa=QR∧∀R,ar κ R→aa (dA s.1 s.2 Fl.qa (λx t=>(bL ts x t.2).a λc=>dm C b c) s.2 (.A,R)) σ λp σ'=>∃κ',ar κ' p.2∧aV C r Q p.1 κ' σ'
theorem RS.i{ts:QI QN}{n:RG}{t:PE}{b:QI PS}(h:aa (ak C t κ) σ λv σ'=>aa (Sr n (gU v) (dh v)) σ' λs a=>RF C ts b r s κ a Q):RS C (.D ts n t b::r) κ σ Q:=
 .s λR c=>by
  dsimp only[jf];exact .h ((h.D c).g λZ Z q=>.h (q.g λZ Z q=>.l (by rw[q.1];rfl) (q.2 R c)))
theorem RF.a{ts:QI QN}{b:QI PS}{s:aG}{U S:Type}(f:U→PV)(xs:QI U)(E:S→ay)(H:QI U→S→af→Prop)(k:S)(G:s.qa=QR)(I:ar (E k) κ)(J:H xs k σ)
  (L:∀y c σ,H y c σ→gz s (xs.map f) σ)
  (N:∀x y c σ,H (x::y) c σ→∀K:Fl→ay→af→Prop,(∀t κ σ,ar (E t) κ→H y t σ→K .A κ σ)→(∀v κ σ,Q (.B v) κ σ→K (.B v) κ σ)→
   aa (bL ts (f x) (E c)) σ λκ' σ'=>RS C b κ' σ' K)
  (O:∀c σ,H [] c σ→RS C r (E c) σ Q):RF C ts b r (s,xs.length) κ σ Q:=⟨G,λV P=>by
 refine oh f xs (λy p σ=>p.1=.A∧∃c,ar (E c) p.2∧H y c σ) (λy p σ h=>h.2.elim λc h=>L y c σ h.2) ?_ ?_ xs [] _ _ QJ (cE QJ k (I.j P) J)
 ·rintro x y ⟨l,m⟩ σ' ⟨-,c,d,n⟩
  refine .h (((N x y c σ' n (λl κ σ=>match l with
   | .A=>∃t,ar (E t) κ∧H y t σ
   | .B v=>Q (.B v) κ σ) (λt Z Z h g=>(ai t h g)) (λZ Z Z q=>q)).qs d).g λi D=>ag λκ' u q=>(q i u).g λp R=>ag λw F q=> ?_)
  obtain⟨z,T⟩:=p
  induction z using Fl.casesOn with
  |A=>exact .inr (aL QJ QJ (q.elim λt q=>(ai t (q.1.j F) q.2)))
  |B v=>exact .inl (cE QJ w F q)
 ·rintro⟨l,m⟩ σ' ⟨e,c,d,n⟩
  have e:l=.A:=e;rw[e]
  exact(ai (E c) d (O c σ' n))⟩
theorem aa.K{ts:QI QN}{t c e:PE}{Q:PV→af→Prop}(h:aa (ak C t κ) σ λv σ'=>aa (dh v) σ' λs d=>(s.1.qa=QR∨(c.qa&&e.qa)=QO)∧
   aa (dA s.1 s.2 (λZ=>QR) (λx acc=>(bL ts x κ).a λf=>((ak C c f).a bI).a λp=>Sr p ((ak C e f).a λy=>.c (Tv acc.length aR) (.b (acc++[y]))) (.b acc)) s.2 []) d λl i=>
    aa (Mine.cR l) i Q):aa (ak C (.N ts t c e) κ) σ Q:=by
 exact .h (h.g λZ Z q=>.h (q.g λZ Z q=>.l (by(refine oO (λq=> ?_) (λq=> ?_) (q.1))<;>rw[q]<;>simp) (.h q.2)))
theorem aa.T{ts:QI QN}{c e:PE}{s:aG}{B:Type}(f:B→PV)(xs:QI B)(H:QI B→QI PV→af→Prop){Q:QI PV→af→Prop}(D:xs.length≤aR)(u:H xs [] σ)
  (S:∀j acc σ,H j acc σ→gz s (xs.map f) σ)
  (v:∀x j acc σ,H (x::j) acc σ→aa (bL ts (f x) κ) σ λκ' σ'=>RB C c κ' σ' λp m=>Sr p (aa (ak C e κ') m λy k=>H j (acc++[y]) k) (H j acc m))
  (w:∀acc σ,acc.length≤xs.length→H [] acc σ→Q acc σ):
  aa (dA s xs.length (λZ=>QR) (λx acc=>(bL ts x κ).a λn=>((ak C c n).a bI).a λp=>Sr p ((ak C e n).a λy=>.c (Tv acc.length aR) (.b (acc++[y]))) (.b acc)) xs.length []) σ Q:=by
 refine oh f xs (λj acc σ=>acc.length+j.length≤xs.length∧H j acc σ) (λj acc σ h=>S _ _ _ h.2) ?_ (λacc σ h=>w acc σ h.1 h.2) xs [] _ _ QJ ⟨by simp,u⟩;rintro x j acc σ' ⟨t,z⟩;have t:acc.length+(j.length+1)≤xs.length:=t;refine .h ((v x j acc σ' z).g λκ' m q=>.h ((q.d (ar.g _)).g λp k q=> ?_))
 induction p using QL with
 |false=>exact .i (.inr (aL QJ (Sm t) q))
 |true=>
  have q:aa (ak C e κ') k λy k=>H j (acc++[y]) k:=q;show aa ((ak C e κ').a λy=>.c (Tv acc.length aR) (.b (acc++[y]))) k _;exact .h (q.g λy A q=>.l (Vq.mpr (by lia)) (.i (.inr (aL QJ (by rw[QW,TF];exact QK (Sx (RO _ _ _)) t) q))))
theorem aa.qh{ts:QI QN}{e:PE}{s:aG}{U:Type}(f:U→PV)(xs:QI U)(H:QI U→QI PV→af→Prop){Q:QI PV→af→Prop}(l:xs.length≤aR)(k:H xs [] σ)
  (S:∀d acc σ,H d acc σ→gz s (xs.map f) σ)
  (m:∀x d acc σ,H (x::d) acc σ→aa (bL ts (f x) κ) σ λκ' σ'=>aa (ak C e κ') σ' λy j=>H d (acc++[y]) j)
  (n:∀acc σ,acc.length≤xs.length→H [] acc σ→Q acc σ):
  aa (dA s xs.length (λZ=>QR) (λx acc=>(bL ts x κ).a λi=>((ak C (.B (.D QO)) i).a bI).a λp=>Sr p ((ak C e i).a λy=>.c (Tv acc.length aR) (.b (acc++[y]))) (.b acc)) xs.length []) σ Q:=
 .T f xs H l k S (λx d acc σ h=>(m x d acc σ h).g λZ Z q=>.mk QJ (ai QO QJ q)) n
end
section
variable{C:QN→QI PV→M PV}{κ:ay}{σ:af}{Q:PV→af→Prop}
abbrev Ev(C:QN→QI PV→M PV)(e:PE)(κ:ay)(σ:af)(v:PV):Prop:=ak C e κ σ=QG (v,σ)
abbrev cz(C:QN→QI PV→M PV)(s:QI PE)(κ:ay)(σ:af)(vs:QI PV):Prop:=cK C s κ σ=QG (vs,σ)
theorem Ev.a{e:PE}{v:PV}(h:Ev C e κ σ v)(q:Q v σ):aa (ak C e κ) σ Q:=.mk h q
theorem Ev.d{e:PE}{b:RG}{Q:RG→af→Prop}(h:Ev C e κ σ (.D b))(q:Q b σ):RB C e κ σ Q:=.mk h (ai b QJ q)
theorem eB{α B:Type}{m:M α}{f:α→M B}{σ σ':af}{a:α}(h:m σ=QG (a,σ')):m.a f σ=f a σ':=by
 show(m σ).bind _=_;rw[h]
 rfl
theorem fc{o:AO}{n:QN}(h:σ[n]?=QG o):M.f n σ=QG (o,σ):=by
 show(σ[n]?).map _=_;rw[h]
 rfl
theorem cz.d:cz C [] κ σ []:=QJ
theorem cz.a{e:PE}{s:QI PE}{v:PV}{vs:QI PV}(h:Ev C e κ σ v)(g:cz C s κ σ vs):cz C (e::s) κ σ (v::vs):=(eB h).trans ((eB g).trans QJ)
theorem wG{n:QN}{x:PV}{l:QI PV}(h:M.f n σ=QG (.A l,σ)):ie (.B n) x σ=(M.a (fw x) λk=>.h l[k]?) σ:=by
 show QX (M.f n σ) _=_;rw[h]
 rfl
theorem Ft{n:QN}{x:PV}{l:QI (RW×PV)}(h:M.f n σ=QG (.B l,σ)):ie (.B n) x σ=(M.a (cw x) λk=>.h (bG l k)) σ:=by
 show QX (M.f n σ) _=_;rw[h]
 rfl
theorem Fp{n c a:QN}{l:QI (QN×PV)}(h:M.f n σ=QG (.C c l,σ)):qN (.B n) a σ=M.h (bG l a) σ:=by
 show QX (M.f n σ) _=_;rw[h]
 rfl
theorem GP{n:QN}{l:QI PV}(h:M.f n σ=QG (.A l,σ)):jc C (.J .D) [.B n] σ=QG (.A l.length,σ):=by
 show QX (QX (M.f n σ) _) _=_;rw[h]
 rfl
theorem kh{α:Type}{o:Rz α}{v:α}(h:o=QG v):M.h o σ=QG (v,σ):=by
 rw[h];rfl
theorem Ev.f{o:PE}{n c a:QN}{s:QI (QN×PV)}{v:PV}(h:Ev C o κ σ (.B n))(d:σ[n]?=QG (.C c s))(e:bG s a=QG v):Ev C (.K o a) κ σ v:=
 (eB h).trans ((Fp (fc d)).trans (kh e))
theorem Ev.g{o i:PE}{n k:QN}{l:QI PV}{v x:PV}(h:Ev C o κ σ (.B n))(a:Ev C i κ σ x)(d:σ[n]?=QG (.A l))(e:fw x=.b k)(f:l[k]?=QG v):Ev C (.C o i) κ σ v:=
 (eB h).trans ((eB a).trans ((wG (fc d)).trans (by rw[e];exact kh f)))
theorem Ev.m{o i:PE}{n:QN}{k:RW}{l:QI (RW×PV)}{v:PV}(h:Ev C o κ σ (.B n))(a:Ev C i κ σ (.A k))(d:σ[n]?=QG (.B l))(e:bG l k=QG v):Ev C (.C o i) κ σ v:=
 (eB h).trans ((eB a).trans ((Ft (fc d)).trans (kh e)))
theorem Ev.k{o i:PE}{x y v:PV}(h:Ev C o κ σ x)(a:Ev C i κ σ y)(g:ie x y σ=QG (v,σ)):Ev C (.C o i) κ σ v:=(eB h).trans ((eB a).trans g)
theorem Ev.i{op:aF}{a b:PE}{x y v:PV}(h:Ev C a κ σ x)(d:Ev C b κ σ y)(g:gb op x y σ=QG (v,σ)):Ev C (.J op a b) κ σ v:=(eB h).trans ((eB d).trans g)
theorem Ev.h{op:aj}{a b:PE}{x y:PV}{r:RG}(h:Ev C a κ σ x)(i:Ev C b κ σ y)(g:eC op x y σ=QG (r,σ)):Ev C (.H op a b) κ σ (.D r):=(eB h).trans ((eB i).trans ((eB g).trans QJ))
theorem Ev.j{a:PE}{n:QN}{l:QI PV}(h:Ev C a κ σ (.B n))(e:σ[n]?=QG (.A l)):Ev C (.F (.D 33) [a]) κ σ (.A l.length):=
 (eB QJ).trans ((eB (cz.a h .d)).trans (GP (fc e)))
theorem dG(k:QN):fw (.A k)=.b k:=QJ
theorem RB.k{a:PE}{Q:RG→af→Prop}(h:RB C a κ σ λb σ'=>Q (!b) σ'):RB C (.T a) κ σ Q:=by
 exact .h ((h.d (ar.g _)).g λb Z q=>.i (ai _ QJ q))
theorem RB.f{a b:PE}{Q:RG→af→Prop}(h:RB C a κ σ λp σ'=>Sr p (RB C b κ σ' Q) (Q QR σ')):RB C (.M a b) κ σ Q:=by
 refine .h ((h.d (ar.g _)).g λp σ' q=> ?_)
 induction p using QL with
 |false=>exact .i (ai _ QJ q)
 |true=>
  have q:RB C b κ σ' Q:=q;exact aa.h ((q.d (ar.g _)).g λb Z q=>.i ⟨_,QJ,q⟩)
theorem RB.i{a b:PE}{Q:RG→af→Prop}(h:RB C a κ σ λp σ'=>Sr p (Q QO σ') (RB C b κ σ' Q)):RB C (.Q a b) κ σ Q:=by
 refine .h ((h.d (ar.g _)).g λp σ' q=> ?_)
 induction p using QL with
 |true=>exact .i (ai _ QJ q)
 |false=>
  have q:RB C b κ σ' Q:=q;exact aa.h ((q.d (ar.g _)).g λb Z q=>.i ⟨_,QJ,q⟩)
theorem RB.j{a b:PE}{x:RG}{Q:RG→af→Prop}(h:Ev C a κ σ (.D x))(e:x=QR)(g:RB C b κ σ Q):RB C (.Q a b) κ σ Q:=.i (h.d (by rw[e];exact g))
theorem RB.t{a b:PE}{x:RG}{Q:RG→af→Prop}(h:Ev C a κ σ (.D x))(e:x=QO)(g:Q QO σ):RB C (.Q a b) κ σ Q:=.i (h.d (by rw[e];exact g))
theorem RB.g{a b:PE}{x:RG}{Q:RG→af→Prop}(h:Ev C a κ σ (.D x))(e:x=QO)(g:RB C b κ σ Q):RB C (.M a b) κ σ Q:=.f (h.d (by rw[e];exact g))
theorem RB.l{a b:PE}{x:RG}{Q:RG→af→Prop}(h:Ev C a κ σ (.D x))(e:x=QR)(g:Q QR σ):RB C (.M a b) κ σ Q:=.f (h.d (by rw[e];exact g))
theorem RB.a{op:aj}{a b:PE}{Q:RG→af→Prop}(h:aa (ak C a κ) σ λx σ'=>aa (ak C b κ) σ' λy d=>aa (eC op x y) d Q):RB C (.H op a b) κ σ Q:=by
 exact .h (h.g λZ Z q=>.h (q.g λZ Z q=>.h (q.g λZ Z q=>.i (ai _ QJ q))))
theorem aa.v{c a b:PE}(h:RB C c κ σ λp σ'=>aa (ak C (Sr p a b) κ) σ' Q):aa (ak C (.P c a b) κ) σ Q:=by
 exact .h ((h.d (ar.g _)).g λp Z q=>by induction p using QL<;>exact q)
theorem aa.t{op:aF}{a b:PE}(h:aa (ak C a κ) σ λx σ'=>aa (ak C b κ) σ' λy d=>aa (gb op x y) d Q):aa (ak C (.J op a b) κ) σ Q:=
 .h (h.g λZ Z q=>.h q)
theorem aa.j{Q:QI PV→af→Prop}(q:Q [] σ):aa (cK C [] κ) σ Q:=.i q
theorem aa.d{e:PE}{s:QI PE}{Q:QI PV→af→Prop}(h:aa (ak C e κ) σ λv σ'=>aa (cK C s κ) σ' λvs a=>Q (v::vs) a):aa (cK C (e::s) κ) σ Q:=by
 exact .h (h.g λZ Z q=>.h (q.g λZ Z q=>.i q))
section
variable{r a' b':QI PS}{Q:Fl→ay→af→Prop}{c:PE}{b:RG}
theorem RS.u{p:RG}(a:p=QO)(h:RS C a' κ σ Q):RS C (Sr p a' b') κ σ Q:=by rw[a];exact h
theorem RS.t{p:RG}(a:p=QR)(h:RS C b' κ σ Q):RS C (Sr p a' b') κ σ Q:=by rw[a];exact h
theorem RS.g(h:Ev C c κ σ (.D b))(e:b=QR)(g:RS C r κ σ Q):RS C (.C c a' []::r) κ σ Q:=.j (h.d (by rw[e];exact .a g))
theorem RS.h(h:Ev C c κ σ (.D b))(a:b=QO)(g:RS C a' κ σ (aV C r Q)):RS C (.C c a' b'::r) κ σ Q:=.j (h.d (by rw[a];exact g))
theorem RS.m(h:Ev C c κ σ (.D b))(a:b=QR)(g:RS C b' κ σ (aV C r Q)):RS C (.C c a' b'::r) κ σ Q:=.j (h.d (by rw[a];exact g))
end
theorem aa.y{s:QI PE}(h:aa (cK C s κ) σ λvs σ'=>aa (Mine.cR vs) σ' Q):aa (ak C (.I s) κ) σ Q:=.h h
theorem aa.I{s:QI PE}(h:aa (cK C s κ) σ λvs σ'=>aa (Mine.iN vs) σ' Q):aa (ak C (.G s) κ) σ Q:=.h h
theorem aa.k{n:QN}{s:QI PE}{a:QN}(g:jj n=QG (.A a))(h:aa (cK C s κ) σ λvs σ'=>aa (C a vs) σ' Q):aa (ak C (.F (.D n) s) κ) σ Q:=by
 dsimp only[ak];rw[g];exact .h (.i (.h h))
theorem aa.u{n:QN}{s:QI PE}{g:GV}(a:jj n=QG g)(h:aa (cK C s κ) σ λvs σ'=>aa (jc C (.J g) vs) σ' Q):aa (ak C (.F (.D n) s) κ) σ Q:=by
 dsimp only[ak];rw[a];exact .h (.i (.h h))
theorem aa.F{o:PE}{n c name a:QN}{s:QI (QN×PV)}{e:QI PE}(d:Ev C o κ σ (.B n))(f:σ[n]?=QG (.C c s))(hm:mj c name=QG a)(j:bG s name=RM)
  (h:aa (cK C e κ) σ λvs σ'=>aa (C a (.B n::vs)) σ' Q):aa (ak C (.R o name e) κ) σ Q:=by
 refine .h (d.a (.h (.i (.h (.w f (.h (h.g λZ Z q=> ?_)))))));show aa (M.a (M.h (mj c name)) λa=>.c (!(bG s name).isSome) (C a (.B n::_))) _ _;rw[hm,j];exact .h (.i q)
noncomputable def Fl.qb(l:Fl):PV:=match l with
 | .A=>.G
 | .B v=>v
theorem bx{d a:QN}{args:QI PV}{pf:PF}{κ:ay}(f:gA a=QG pf)(e:kH pf args=QG κ)(h:∀K:Fl→ay→af→Prop,(∀l κ σ',Q l.qb σ'→K l κ σ')→RS (aB d) pf.Qu κ σ K):aa (aB (d+1) a args) σ Q:=by
 show aa (M.a (M.h (gA a)) λpf=>M.a (M.h (kH pf args)) λR=>M.a (dm (aB d) pf.Qu R) λr=>.b (sV r)) σ Q;rw[f];refine .h (.i (.h ?_));rw[e];exact .i (.h ((h (λl Z σ'=>Q l.qb σ') (λZ Z Z q=>q) κ (ar.g _)).g λp Z=>ag λZ Z q=>.i (by obtain⟨l,_⟩:=p;induction l using Fl.casesOn<;>exact q)))
theorem aJ.a{e:PE}{l:QI PV}(h:ak C e κ=M.j (.A l)):aa (ak C e κ) σ (aJ σ l):=by
 rw[h];exact .x λr Z n=>(ai r QJ n)
theorem aJ.h{s:QI PE}{vs:QI PV}(h:cz C s κ σ vs)(l:vs.length≤aR):aa (ak C (.I s) κ) σ (aJ σ vs):=
 .h (.mk h (.n l λr Z n=>(ai r QJ n)))
theorem aJ.g{σ' d:af}{l:QI PV}{v:PV}(h:Le σ σ')(n:aJ σ' l v d):aJ σ l v d:=
 n.elim λr n=>(fO r n.1 (h.a n.2.1) (by
  induction e:σ[r]? using QQ with
  |none=>rfl
  |some o=>
   have:=h r o e;rw[n.2.2.1] at this
   exact aI this) n.2.2.2)
theorem aJ.f{a b:PE}{l l':QI PV}(h:aa (ak C a κ) σ (aJ σ l))(g:∀σ',Le σ σ'→aa (ak C b κ) σ' (aJ σ' l'))(j:l.length+l'.length≤aR):aa (ak C (.J .A a b) κ) σ (aJ σ (l++l')):=
 .t (h.g λx σ'=>ag λr e n=>(g σ' n.1).g λy d=>ag λk o i=>by
  rw[e,o];show aa ((bZ (.B r)).a λx=>(bZ (.B k)).a λy=>cR (x++y)) d _;refine .h (.p (i.1 _ _ n.2.2) (.h (.p i.2.2 (.n ?_ λq s m=>aJ.g (n.1.a i.1) (ai q QJ m)))));rw[QW]
  exact j)
end
end Mine
end
section
set_option genSizeOf false
set_option genSizeOfSpec false
set_option genInjectivity false
set_option genSizeOf false
set_option genSizeOfSpec false
namespace Mine
section
variable{C:QN→QI PV→M PV}{κ:ay}{σ:af}{Q:PV→af→Prop}
theorem aa.S{o:PE}{n:QN}{m:aO}{s:QI PE}{c:AO}(d:Ev C o κ σ (.B n))(e:σ[n]?=QG c)
  (h:aa (cK C s κ) σ λvs σ'=>∃b,σ'[n]?=QG b∧(hW m c&&jC c b)=QO∧aa (kJ n b m vs) σ' Q):aa (ak C (.L o m s) κ) σ Q:=by
 exact .h (d.a (.h (.i (.h (.w e (.h (h.g λvs σ' q=>q.elim λb q=>.h (.w q.1 (.l q.2.1 q.2.2)))))))))
theorem aa.J{o e:PE}{n:QN}{l:QI PV}(b:Ev C o κ σ (.B n))(c:σ[n]?=QG (.A l))
  (h:aa (ak C e κ) σ λv σ'=>∃l',σ'[n]?=QG (.A l')∧l'.length<aR∧∀a,Ch n σ' a→a[n]?=QG (.A (l'++[v]))→Q .G a):aa (ak C (.L o .B [e]) κ) σ Q:=
 .S b c (.d (h.g λv σ' q=>q.elim λl' q=>.j (bz _ q.1 QJ (by
  exact .h (.i (.h (.i (.l (Vq.mpr q.2.1) (.L q.1 q.2.2)))))))))
theorem aa.qj{o e:PE}{n:QN}{l:QI PV}(u:Ev C o κ σ (.B n))(w:σ[n]?=QG (.A l))
  (h:aa (ak C e κ) σ λv σ'=>∃j l' k,v=.B j∧n≠j∧σ'[n]?=QG (.A l')∧σ'[j]?=QG (.A k)∧l'.length+k.length≤aR∧∀f,Ch n σ' f→f[n]?=QG (.A (l'++k))→Q .G f):aa (ak C (.L o .D [e]) κ) σ Q:=
 .S u w (.d (h.g λv σ' q=>by
  (revert q;refine bc λj l' k m s=> ?_;subst m;revert s;refine eu λx t y z q=> ?_)
  refine .j (bz _ t QJ ?_);show aa (M.a (M.b l') λl=>M.a (M.b (.B j)) λv=>M.a (eA v) λj=>M.a (Mine.bZ v) λr=>.c (Um (l.length+r.length) aR&& !SW n j) (.i n (.A (l++r)))) σ' Q;refine .h (.i (.h (.i (.h (.i (.h (.p y (.l ?_ (.L t q)))))))));rw[Wv.mpr z]
  induction e:SW n j using QL with
  |false=>rfl
  |true=>exact Ro (SN e) x))
end
theorem aa.qk{C:QN→QI PV→M PV}{κ:ay}{e:PE}{σ:af}{Q:PV→af→Prop}(h:aa (ak C e κ) σ λv σ'=>aa (fV v) σ' λl a=>l.length≤aR∧∀r b,fH a r (.A l) b→Q (.B r) b):aa (ak C (.F (.D 60) [e]) κ) σ Q:=
 .u QJ (.d (h.g λv σ' q=>.j (by
  exact .h (q.g λl Z q=>.n q.1 q.2))))
inductive ae where
 |B (b:RG) (v:PV)
 |A (l:QN)
 |C (l i:QN)
inductive Rv where
 |A (a:ae)
 |F (a b:ae)
 |B (op:QN) (a b:ae)
 |D (op:QN) (a b:ae)
 |G (op:QN) (a:ae)
 |C (a:ae)
inductive ab where
 |A (l:QN) (r:Rv)
 |B (o:ae)
 |C
inductive Tm where
 |A
 |B
 |F (b:QN)
 |C (o:ae) (cs:QI (PV×QN)) (d:QN)
 |D (o:ae) (b:QN)
abbrev aE:=QI ab×Tm
noncomputable def dk:PV:=.F [.C 32,.C 27]
noncomputable def dQ:PV:=.F [.C 44]
noncomputable def dg(l:QN):PV:=.F [.A l,.F []]
noncomputable def ae.v:ae→PV
 | .B b v=>.F [.C 81,Sr b dQ dk,v]
 | .A l=>.F [.C 48,dg l]
 | .C l i=>.F [.C 48,.F [.A l,.F [.F [.C 83,.A i]]]]
noncomputable def Rv.v:Rv→PV
 | .A a=>.F [.C 38,a.v]
 | .F a b=>.F [.C 99,.F [a.v,b.v]]
 | .B p a b=>.F [.C 109,.C p,a.v,b.v]
 | .D p a b=>.F [.C 129,.C p,a.v,b.v]
 | .G p a=>.F [.C 100,.C p,a.v]
 | .C a=>.F [.C 47,a.v,dk]
noncomputable def ab.v:ab→PV
 | .A l r=>.F [.C 105,dg l,r.v]
 | .B o=>.F [.C 95,o.v]
 | .C=>.F [.C 34]
noncomputable def ia(c:PV×QN):PV:=.F [c.1,.A c.2]
noncomputable def Tm.v:Tm→PV
 | .A=>.F [.C 120]
 | .B=>.F [.C 92,.C 31]
 | .F b=>.F [.C 54,.A b]
 | .C o s d=>.F [.C 125,o.v,.F (s.map ia),.A d]
 | .D o b=>.F [.C 104,o.v,.D QR,.C 151,.A b]
noncomputable def Rv.qa:Rv→QI ae
 | .A a=>[a]
 | .F a b=>[a,b]
 | .B Z a b=>[a,b]
 | .D Z a b=>[a,b]
 | .G Z a=>[a]
 | .C a=>[a]
noncomputable def Rv.qb(f:ae→ae):Rv→Rv
 | .A a=>.A (f a)
 | .F a b=>.F (f a) (f b)
 | .B p a b=>.B p (f a) (f b)
 | .D p a b=>.D p (f a) (f b)
 | .G p a=>.G p (f a)
 | .C a=>.C (f a)
noncomputable def ae.rd:ae→QI QN
 | .B Z U=>[]
 | .A l=>[l]
 | .C l Z=>[l]
noncomputable def Tm.rd:Tm→QI QN
 | .A=>[0]
 | .C o Z U=>o.rd
 | .D o Z=>o.rd
 |_=>[]
noncomputable def Rv.rd(r:Rv):QI Nat:=r.qa.flatMap ae.rd
noncomputable def Tm.qa:Tm→QI QN
 | .F b=>[b]
 | .C Z s d=>s.map (·.2)++[d]
 | .D Z b=>[b]
 |_=>[]
noncomputable def aS(l:QI QN):QI PV:=l.map λ(n:QN)=>.A n
theorem rY(r:Rv):r.qa.length≤2:=by induction r using Rv.casesOn<;>exact lB QJ
theorem aJ.d{m:M PV}{l:QI PV}{σ:af}(h:m=M.j (.A l)):aa m σ (aJ σ l):=by
 rw[h];exact .x λr Z n=>(ai r QJ n)
theorem oC(d:QN)(σ:af)(r:Rv):aa (aB (d+1) 103 [r.v]) σ (aJ σ (r.qa.map ae.v)):=by
 induction r using Rv.casesOn<;>exact aJ.d (by kernel_rfl)
theorem Mu(d:QN)(f:ae→ae)(r:Rv):aB (d+1) 110 [r.v,.F ((r.qa.map f).map ae.v)]=M.b (r.qb f).v:=by
 induction r using Rv.casesOn<;>kernel_rfl
theorem JR(d l:QN)(σ:af):aa (aB (d+1) 121 [dg l]) σ (aJ σ []):=aJ.d QJ
noncomputable def ab.qc:ab→RG
 | .C=>QO
 |_=>QR
theorem FX(d:QN)(s:ab)(v:PV):aB (d+1) 226 [s.v,v]=M.b (.D s.qc):=by
 induction s using ab.casesOn<;>kernel_rfl
theorem dB(o:ae):o.rd.length≤1:=by induction o using ae.casesOn<;>exact lB QJ
theorem pb(r:Rv):r.rd.length≤2:=by
 induction r using Rv.casesOn with
 |A a=>exact Sw (by show(a.rd++[]).length≤1;rw[RD];exact dB a)
 |G p a=>exact Sw (by show(a.rd++[]).length≤1;rw[RD];exact dB a)
 |C a=>exact Sw (by show(a.rd++[]).length≤1;rw[RD];exact dB a)
 |F a b=>exact(by show(a.rd++(b.rd++[])).length≤2;rw[RD,QW];exact SR (dB a) (dB b))
 |B p a b=>exact(by show(a.rd++(b.rd++[])).length≤2;rw[RD,QW];exact SR (dB a) (dB b))
 |D p a b=>exact(by show(a.rd++(b.rd++[])).length≤2;rw[RD,QW];exact SR (dB a) (dB b))
theorem Aj(t:Tm):t.rd.length≤1:=by
 induction t using Tm.casesOn with
 |C o s d=>exact dB o
 |D o d=>exact dB o
 |A=>exact Sd _
 |B=>exact RQ _
 |F d=>exact RQ _
theorem tN(d:QN)(σ:af){l:QN}{p:PV}(h:ak (aB d) (.N [159] (.C (.A 94) (.B (.A 1))) (.H .A (.C (.A 159) (.B (.A 0))) (.B (.C 86))) (.C (.A 159) (.B (.A 1)))) [(94,.F [.A l,p])]=M.j (.A [])):aa (aB (d+1) 126 [.F [.A l,p]]) σ (aJ σ (aS [l])):=
 bx QJ QJ λZ K=>.f (.g (aJ.f (l:=[.A l]) (aJ.a QJ) (λZ Z=>aJ.a h) (lB QJ)) λZ Z q=>K _ _ _ q)
theorem JA(o:ae):(o.rd=[]∧∃t v,o.v=.F [.C 81,t,v])∨∃p,o.v=.F [.C 48,p]∧∀d σ,aa (aB (d+1) 126 [p]) σ (aJ σ (aS o.rd)):=by
 induction o using ae.casesOn with
 |B b v=>exact .inl ⟨QJ,_,_,QJ⟩
 |A l=>exact .inr (ai _ QJ λd σ=>tN d σ QJ)
 |C l i=>exact .inr (ai _ QJ λd σ=>tN d σ QJ)
theorem zG(r:Rv):∃w l,r.v=.F (.C w::l)∧(w==36)=QR∧(w==174)=QR∧(30==w||(36==w||false))=false:=by
 induction r using Rv.casesOn<;>exact(eF _ _ QJ QJ QJ QJ)
end Mine
end
section
namespace Mine
theorem aa.s{α:Type}{f:α→PV}{xs:QI α}{r:QN}{σ:af}{Q:aG×QN→af→Prop}(h:σ[r]?=QG (.A (xs.map f)))(q:Q (.D r,xs.length) σ):aa (dh (.B r)) σ Q:=by
 refine .mk ?_ q;show QX (M.f r σ) _=_;rw[fc h,←QP f]
 rfl
theorem aa.qp{α:Type}{f:α→PV}{xs:QI α}{r:QN}{σ:af}{Q:aG×QN→af→Prop}(h:σ[r]?=QG (.A (xs.map f)))(q:Q (.B r,xs.length) σ):aa (gU (.B r)) σ Q:=by
 refine .mk ?_ q;show QX (M.f r σ) _=_;rw[fc h,←QP f]
 rfl
theorem gH(a b:QI QN):aS (a++b)=aS a++aS b:=Sg
theorem eY(a:QI QN):(aS a).length=a.length:=QP _
theorem yD(d:QN)(σ:af){os:QI ae}{r:QN}(M:σ[r]?=QG (.A (os.map ae.v)))(N:os.length≤aR):aa (aB (d+2) 133 [.B r]) σ (aJ σ (aS (os.flatMap ae.rd))):=by
 refine bx (pf:=sJ) (κ:=[(139,.B r)]) (by kernel_rfl) (by kernel_rfl) λK O=>.d ((aJ.a (l:=[]) (by kernel_rfl)).g λv P h=> ?_)
 (revert h;refine ag λq y n=> ?_;subst y)
 refine .i (Ev.a (v:=.B r) (by kernel_rfl) (.s (n.1 _ _ M) ?_))
 refine RF.a ae.v os (λZ=>[(85,.B q)]) (λG (o:QI QN) S=>(Le σ S∧S[q]?=QG (.A (aS o)))∧o++G.flatMap ae.rd=os.flatMap ae.rd∧o.length+G.length≤aR) [] QJ (.c QJ .d)
  (aL ⟨n.1,n.2.2⟩ QJ (by simpa using N)) (λZ Z S h=>h.1.1 _ _ M) (λx G o S h J I Z=>.i ?_) λo S h=> ?_
 ·(revert h;refine bk λz u H=> ?_;revert z;refine oA λw C=> ?_)
  replace I:=λa κ σ Q R T U V=>I a κ σ Q (aL ⟨R,T⟩ U V);have H:o.length+(G.length+1)≤aR:=H
  (refine oO (Im λL t v W=> ?_) (ag λp X Y=> ?_) (JA x))
  ·rw[W]
   refine .g (b:=QR) (by kernel_rfl) QJ (.a (I o _ _ (.c QJ .d) w C ?_ (by exact Sm H)));rw[←u,Zw,L]
   rfl
  ·rw[X]
   refine .h (b:=QO) (by kernel_rfl) QJ (.k (.qj (n:=q) (by kernel_rfl) C (.k (a:=126) (by kernel_rfl) (.d (Ev.a (v:=p) (by kernel_rfl) (.j ((Y d S).g λv a0 h=> ?_)))))))
   (revert h;refine ag λj D m=> ?_;subst D)
   have L:=dB x;refine⟨j,_,_,QJ,λe=> ?_,m.1 _ _ C,m.2.2,?_,λa1 c e=>.a (.b (I (o++x.rd) _ _ (.c QJ .d) ((w.a m.1).c n.2.1 c) ?_ ?_ ?_))⟩
   ·rw[e,m.2.1] at C
    exact aI C
   ·rw[eY,eY]
    exact QK (Si (QK L (Th _)) _) H
   ·rw[e,gH]
   ·rw[←u,Zw,Rq]
   ·rw[QW]
    exact QK (RR (Si L _) _) (QK (Sx (RO o.length 1 G.length)) H)
 ·(revert h;refine bk λE u F=> ?_;revert E;refine oA λw C=> ?_;clear F)
  rw[List.flatMap_nil,RD] at u;exact .f (Ev.a (v:=.B q) (by kernel_rfl) (O _ _ _ (fO q QJ w n.2.1 (u▸C))))
theorem zE(d:QN)(σ:af)(r:Rv):aa (aB (d+3) 140 [r.v]) σ (aJ σ (aS r.rd)):=by
 (refine dw (λw l e o p z=> ?_) (zG r);clear z)
 have m:=oC (d+1) σ r;rw[e] at m⊢
 refine bx (pf:=sO) (κ:=[(121,.F (.C w::l))]) (by kernel_rfl) (by kernel_rfl) λK s=>.g (b:=w==36) (by kernel_rfl) o (.g (b:=w==174) (by kernel_rfl) p
  (.f (.k (a:=133) (by kernel_rfl) (.d (.k (a:=103) (by kernel_rfl) (.d (Ev.a (v:=.F (.C w::l)) (by kernel_rfl) (.j (m.g λv i h=> ?_)))))))))
 (revert h;refine ag λq c n=> ?_;subst c)
 exact .j ((yD d i n.2.2 (QK (rY r) (lB QJ))).g λv t h=>s _ _ _ (h.g n.1))
theorem rX(d:QN){σ:af}{κ:ay}{e:PE}{o:ae}(f:Ev (aB (d+2)) e κ σ o.v):aa (ak (aB (d+2)) (.F (.D 181) [.I [e]]) κ) σ (aJ σ (aS o.rd)):=
 .k QJ (.d ((aJ.h (cz.a f .d) (lB QJ)).g λv c h=>by
  (revert h;refine ag λq b n=> ?_;subst b)
  refine .j ((yD (os:=[o]) d c n.2.2 (lB QJ)).g λv i h=> ?_);have:=aJ.g n.1 h
  rwa[Wa] at this))
theorem Ah(d:QN)(σ:af){o:ae}{w:QN}{l:QI PV}(h:(125==w||(104==w||false))=QO):aa (aB (d+3) 147 [.F (.C w::o.v::l)]) σ (aJ σ (aS o.rd)):=
 bx (pf:=sQ) (κ:=[(163,.F (.C w::o.v::l))]) (by kernel_rfl) (by kernel_rfl) λK c=>.d (Ev.a (v:=.C w) (by kernel_rfl) (.h (b:=125==w||(104==w||false)) (by kernel_rfl) h
  (.f ((rX d (o:=o) (by kernel_rfl)).g λv e h=>c _ _ _ h))))
theorem Ag(d:QN)(σ:af)(t:Tm):aa (aB (d+3) 147 [t.v]) σ (aJ σ (aS t.rd)):=by
 induction t using Tm.casesOn with
 |A=>exact aJ.d QJ
 |B=>exact aJ.d (by kernel_rfl)
 |F b=>exact aJ.d (by kernel_rfl)
 |C o s b=>exact Ah d σ QJ
 |D o b=>exact Ah d σ QJ
theorem pU(σ:af)(n:QN):∀l:QI QN,cP (toD σ (n+1)) (aS l)=QG (l.map λ(j:QN)=>D.C j)
 |[]=>QJ
 |a::r=>by
  show QX (QG _) (λx=>(cP (toD σ (n+1)) (aS r)).map _)=_;rw[pU σ n r]
  rfl
theorem uu(b:QN):∀l:QI QN,((l.map λ(j:QN)=>D.C j).any λe=>bY e (.C b))=Rc (b∈l)
 |[]=>QJ
 |a::r=>by
  show((a:RW)==b||_)=_;rw[uu b r,Ud,Vs,Sk,Ua,Ua,SI,qdX,qcj]
theorem xh{σ:af}{n b:QN}{l:QI QN}(h:σ[n]?=QG (.A (aS l))):mf (.A b) (.B n) σ=QG (Rc (b∈l),σ):=by
 show QX (M.f n σ) _=_;rw[fc h];show QY _ (cP (toD σ 16) (aS l))=_;rw[pU σ 15];show QG (List.any _ _,σ)=_;rw[uu]
theorem HT{σ:af}{n b:QN}{l:QI QN}(h:σ[n]?=QG (.A (aS l))):eC .D (.A b) (.B n) σ=QG (!Rc (b∈l),σ):=by
 show QX (mf (.A b) (.B n) σ) _=_;rw[xh h]
 rfl
theorem aJ.j{C:QN→QI PV→M PV}{κ:ay}{σ:af}{α:Type}{ts:QI QN}{k e:PE}{f g:α→PV}{xs:QI α}(κ':α→ay)(v:Ev C k κ σ (.F (xs.map f)))(l:xs.length≤aR)
  (u:∀x σ,bL ts (f x) κ σ=QG (κ' x,σ)) (m:∀x σ,Ev C e (κ' x) σ (g x)):aa (ak C (.N ts k (.B (.D QO)) e) κ) σ (aJ σ (xs.map g)):=by
 refine .K (v.a (.mk (a:=(.A (xs.map f),xs.length)) (by rw[←QP f];rfl) ⟨.inl QJ,?_⟩));refine aa.T f xs (λs c t=>t=σ∧c++s.map g=xs.map g) l ⟨QJ,QJ⟩ (λZ Z Z Z=>QJ) (λx s c t h=>.mk (u x t) (Ev.d QJ ?_)) λc t h q=> ?_
 ·show aa (ak C e (κ' x)) t λy i=>i=σ∧c++[y]++s.map g=xs.map g
  exact(m x t).a ⟨h.1,by rw[Rq];exact h.2⟩
 ·(revert q;refine oA λb e=> ?_;subst b)
  rw[Vm,RD] at e;exact .n (QK h l) λr i n=>(ai r QJ (e▸n))
theorem LG(d:QN){σ:af}{l:QI QN}{w v:PV}{q:QN}(hq:σ[q]?=QG (.A (aS l)))(hl:l.length≤aR){K:Fl→ay→af→Prop}(hK:∀v κ σ',(∃k:QI QN,(∀x,x∈k↔x∈l)∧k.length≤l.length∧aJ σ (aS k) v σ')→K (.B v) κ σ'):
  RS (aB d) (mu.Qu.drop 2) [(75,.B q),(78,w),(163,v)] σ K:=by
 refine .d ((aJ.a QJ).g λv σ1 h=> ?_)
 (revert h;refine ag λp e_237 n=> ?_;subst e_237)
 refine .i (Ev.a QJ (.s (n.1 _ _ hq) ?_))
 refine RF.a _ l (λZ=>[(85,.B p)]) (λys (acc:QI QN) σ'=>(Le σ σ'∧σ'[p]?=QG (.A (aS acc)))∧(∀x,(x∈acc∨x∈ys)↔x∈l)∧acc.length+ys.length≤l.length) [] QJ (.c QJ .d)
  (aL ⟨n.1,n.2.2⟩ (by simp) (by simp)) (λZ Z σ' h=>h.1.1 _ _ hq) (λx ys acc σ' h J hJ Z=>.i ?_) λacc σ' h=> ?_
 ·(revert h;refine bk λz_238 hacc hn=> ?_;revert z_238;refine oA λhle hp=> ?_)
  replace hJ:=λa κ σ h1 h2 h3 h4 h5=>hJ a κ σ h1 (aL ⟨h2,h3⟩ h4 h5);have hn:acc.length+(ys.length+1)≤l.length:=hn;refine .j (.f (Ev.d QJ (Ev.d (Ev.h QJ QJ (HT hp)) ?_)))
  by_cases hx:x∈acc
  ·rw[Ry hx]
   exact .a (.b (hJ acc _ _ (.c QJ .d) hle hp (λy=>by rw[←hacc y,SI];exact⟨λh=>h.elim .inl λh=>.inr (.inr h),λh=>h.elim .inl λh=>h.elim (λe=>.inl (e▸hx)) .inr⟩) (Sm hn)))
  ·rw[RJ hx]
   refine .k (.J QJ hp (Ev.a QJ (bz _ hp ?_ λσ2 c e=>.a (.b (hJ (acc++[x]) _ _ (.c QJ .d) (hle.c n.2.1 c) ?_ (λy=> ?_) ?_)))))
   ·rw[eY]
    exact Rj (Rj (Tc (Th ys.length)) hn) hl
   ·rw[e,gH]
    rfl
   ·rw[←hacc y,qds,Ti,SI,or_assoc]
   ·rw[QW,TF]
    exact QK (Sx (RO _ _ _)) hn
 ·(revert h;refine bk λz_239 hacc hn=> ?_;revert z_239;refine oA λhle hp=> ?_)
  exact .f (Ev.a QJ (hK _ _ _ ⟨acc,λx=>by rw[←hacc x];simp,by simpa using hn,p,QJ,hle,n.2.1,hp⟩))
noncomputable def Tm.qc(t:Tm):Bool:=Um t.qa.length 100
theorem bT{n:QN}(h:n≤100):n≤aR:=QK h (lB QJ)
theorem Ac(d:QN)(σ:af)(t:Tm)(p:t.qc=QO):aa (aB (d+1) 91 [t.v]) σ λv σ'=>∃k:QI QN,(∀x,x∈k↔x∈t.qa)∧k.length≤100∧aJ σ (aS k) v σ':=by
 have p:t.qa.length≤100:=lB p;refine bx (pf:=mu) (κ:=[(163,t.v)]) (by kernel_rfl) (by kernel_rfl) λK r=> ?_
 have i:∀{w v e},aJ σ (aS t.qa) v e→RS (aB d) (mu.Qu.drop 2) [(75,v),(78,w),(163,t.v)] e K:=by
  rintro w _ e ⟨q,rfl,n⟩;exact LG d n.2.2 (bT p) λv κ σ'=>du λk u y z=>r _ _ _ (bz k u (QK y p) (z.g n.1))
 induction t using Tm.casesOn with
 |F b=>exact .d (Ev.a (v:=.C 54) (by kernel_rfl) (.h (b:=QO) (by kernel_rfl) QJ (.d ((aJ.a (l:=[.A b]) (by kernel_rfl)).g λv e h=>.a (.a (i h))))))
 |C o s b=>
  have L:s.length+1≤100:=by
   rw[show(Tm.C o s b).qa=s.map (·.2)++[b] from QJ,QW,QP] at p;exact p
  refine .d (Ev.a (v:=.C 125) (by kernel_rfl) (.m (b:=QR) (by kernel_rfl) QJ (.h (b:=QO) (by kernel_rfl) QJ (.d (aa.g (aJ.f (l:=s.map λc=>.A c.2) (l':=[.A b])
   (aJ.j (f:=ia) (λc=>[(80,.A c.2),(101,c.1),(78,.C 125),(163,(Tm.C o s b).v)]) (by kernel_rfl) ?_ (λZ Z=>by kernel_rfl) (λZ Z=>by kernel_rfl)) (λZ Z=>aJ.a (by kernel_rfl)) ?_) λv e h=>.a (.a (.a (.a (i ?_)))))))))
  ·exact bT (qcK L)
  ·exact bT (by rw[QP];exact L)
  ·show aJ σ (aS (s.map (·.2)++[b])) v e
   rw[gH,aS,UM];exact h
 |D o b=>exact .d (Ev.a (v:=.C 104) (by kernel_rfl) (.m (b:=QR) (by kernel_rfl) QJ (.m (b:=QR) (by kernel_rfl) QJ (.m (b:=QR) (by kernel_rfl) QJ (.m (b:=QR) (by kernel_rfl) QJ (.h (b:=QO) (by kernel_rfl) QJ
   (.d ((aJ.a (l:=[.A b]) (by kernel_rfl)).g λv e h=>.a (.a (.a (.a (.a (.a (.a (.a (.a (.a (i h))))))))))))))))))
 |A=>exact .d (Ev.a (v:=.C 120) (by kernel_rfl) (.m (b:=QR) (by kernel_rfl) QJ (.m (b:=QR) (by kernel_rfl) QJ (.m (b:=QR) (by kernel_rfl) QJ (.m (b:=QR) (by kernel_rfl) QJ (.m (b:=QR) (by kernel_rfl) QJ
   (.d ((aJ.a (l:=[]) (by kernel_rfl)).g λv e h=>.a (.a (.a (.a (.a (.a (.a (.a (.a (.a (i h))))))))))))))))))
 |B=>exact .d (Ev.a (v:=.C 92) (by kernel_rfl) (.m (b:=QR) (by kernel_rfl) QJ (.m (b:=QR) (by kernel_rfl) QJ (.m (b:=QR) (by kernel_rfl) QJ (.m (b:=QR) (by kernel_rfl) QJ (.m (b:=QR) (by kernel_rfl) QJ
   (.d ((aJ.a (l:=[]) (by kernel_rfl)).g λv e h=>.a (.a (.a (.a (.a (.a (.a (.a (.a (.a (i h))))))))))))))))))
section
variable{C:QN→QI PV→M PV}{κ:ay}{σ:af}{Q:PV→af→Prop}
theorem aa.B{n c a:QN}{v:PV}{s fs':QI (QN×PV)}(b:σ[n]?=QG (.C c s))(d:(Tv s.length 50&&kG c a)=QO)(f:iI a v s=fs')(q:∀σ',Ch n σ σ'→σ'[n]?=QG (.C c fs')→Q .G σ'):aa (Mine.pd (.B n) a v) σ Q:=by
 exact .h (.i (.h (.w b (.l d (.L b (f▸q))))))
theorem aa.qa{c a:QN}{args:QI PV}(d:ma c=QG a)(h:∀r σ',fH σ r (.C c []) σ'→aa (C a (.B r::args)) σ' λv b=>v=.G∧Q (.B r) b):aa (jc C (.J (.B c)) args) σ Q:=by
 show aa (kW C c args) σ Q;unfold kW;rw[d];exact .h (.i (.h (.x λr σ' n=>.h ((h r σ' n).g λv Z q=>by rw[q.1];exact .i q.2))))
theorem pF{m n i:QN}{a b:PV}(h:σ[i]?=QG (.A [a,b])):bL [m,n] (.B i) κ σ=QG ((n,b)::(m,a)::κ,σ):=by
 show QX (QX (QG (i,σ)) λp=>QX (M.f p.1 p.2) _) _=_
 rw[show(QG (i,σ)).bind (λp:QN×af=>(M.f p.1 p.2).bind λq=>eN q.1 q.2)=QG ([a,b],σ) from by
  show(M.f i σ).bind _=_;rw[fc h]
  rfl]
 rfl
theorem aa.qi{ts:QI QN}{t c e:PE}{α:Type}(f:α→PV)(xs:QI α){r:QN}(v:Ev C t κ σ (.B r))(i:σ[r]?=QG (.A (xs.map f)))(l:xs.length≤aR)(H:QI α→QI PV→af→Prop)(j:H xs [] σ)
  (S:∀g acc σ',H g acc σ'→Le σ σ')
  (k:∀x g acc σ,H (x::g) acc σ→aa (bL ts (f x) κ) σ λκ' σ'=>RB C c κ' σ' λp b=>Sr p (aa (ak C e κ') b λy d=>H g (acc++[y]) d) (H g acc b))
  (m:∀acc σ' q b,H [] acc σ'→fH σ' q (.A acc) b→Q (.B q) b):aa (ak C (.N ts t c e) κ) σ Q:=
 .K (v.a (.s i ⟨.inl QJ,aa.T f xs H l j (λZ Z Z h=>S _ _ _ h _ _ i) k λacc σ' h q=>.n (QK h l) λr d n=>m acc σ' r d q n⟩))
theorem aa.W{ts:QI QN}{t e:PE}{α:Type}(f:α→PV)(xs:QI α){r:QN}(v:Ev C t κ σ (.B r))(c:σ[r]?=QG (.A (xs.map f)))(l:xs.length≤aR)(H:QI α→QI PV→af→Prop)(i:H xs [] σ)
  (S:∀s acc σ',H s acc σ'→Le σ σ')
  (j:∀x s acc σ,H (x::s) acc σ→aa (bL ts (f x) κ) σ λκ' σ'=>aa (ak C e κ') σ' λy b=>H s (acc++[y]) b)
  (k:∀acc σ' q a,H [] acc σ'→fH σ' q (.A acc) a→Q (.B q) a):aa (ak C (.N ts t (.B (.D QO)) e) κ) σ Q:=
 .qi f xs v c l H i S (λx s acc σ h=>(j x s acc σ h).g λZ Z q=>Ev.d QJ q) k
end
theorem nB{σ:af}{a b:QN}{l:QI QN}(h:σ[a]?=QG (.A (aS l)))(c:σ[b]?=QG (.A [])):eQ (.B a) (.B b) σ=QG (l.isEmpty,σ):=by
 show QX (QX σ[a]? _) (λx=>QY _ (QX σ[b]? _))=_;rw[h,c];show QX (QY _ (cP (toD σ 15) (aS l))) _=_;rw[pU σ 14];show QG (je (l.map λ(j:QN)=>D.C j) [],σ)=_
 induction l using Rm<;>rfl
def mL(t:PV):Prop:=∀(d:QN) (σ:af),aa (aB (d+1) 116 [t]) σ λv S=>v=.D QO∧Le σ S
theorem JS:mL dQ:=λd σ=>.mk (a:=.D QO) (σ':=σ) (by kernel_rfl) ⟨QJ,Le.b σ⟩
theorem JT:mL dk:=λd σ=>.mk (a:=.D QO) (σ':=σ) (by kernel_rfl) ⟨QJ,Le.b σ⟩
noncomputable def oD:PV:=.F [.C 99,.F [dk,dQ]]
theorem JU:mL oD:=λd σ=>
 bx QJ QJ λK j=>.h QJ QJ (.f (aa.g (RB.a (Q:=λb t=>b=QO∧Le σ t) ((aJ.a QJ).g λx k h=>(aJ.a (l:=[]) QJ).g λy o g=>by
  (revert h;refine ag λa c n=> ?_;subst c)
  (revert g;refine ag λb i m=> ?_;subst i)
  exact .mk (nB (l:=[]) (m.1 _ _ n.2.2) m.2.2) ⟨QJ,n.1.a m.1⟩)) λv t=>ag λb e q=>j _ _ _ ⟨e.trans (q.1▸QJ),q.2⟩))
abbrev Bp:=QN×QN×aE
def cB(σ:af)(p:Bp):Prop:=σ[p.1]?=QG (.A [.B p.2.1,p.2.2.2.v])∧σ[p.2.1]?=QG (.A (p.2.2.1.map ab.v))
noncomputable def bN(p:Bp):PV:=.B p.1
noncomputable def jP(m:PV)(A l b s:QN):AO:=.C 82 [(67,m),(147,.A A),(115,.B l),(110,.B b),(97,.B s)]
def aZ(σ:af)(r A:QN)(f:QI PV)(c:QI aE):Prop:=
 ∃m l b a,σ[r]?=QG (jP m A l b a)∧σ[l]?=QG (.A f)∧σ[a]?=QG (.B [])∧∃s:QI Bp,σ[b]?=QG (.A (s.map bN))∧(∀p∈s,cB σ p)∧s.map (·.2.2)=c
theorem cB.a{σ σ':af}{p:Bp}(h:Le σ σ')(b:cB σ p):cB σ' p:=⟨h _ _ b.1,h _ _ b.2⟩
theorem aZ.a{σ σ':af}{r A:QN}{f:QI PV}{s:QI aE}(h:Le σ σ')(b:aZ σ r A f s):aZ σ' r A f s:=by
 (revert b;refine gP λm l c d e g i j k n o=> ?_)
 exact⟨m,l,c,d,h _ _ e,h _ _ g,h _ _ i,j,h _ _ k,λp q=>(n p q).a h,o⟩
theorem aZ.b{σ:af}{r A:QN}{m:QI PV}{s:QI aE}(h:aZ σ r A m s):∃g vs,(∀{C o κ σ'},Le σ σ'→Ev C o κ σ' (.B r)→Ev C (.K o 110) κ σ' (.B g))∧σ[g]?=QG (.A vs)∧vs.length=s.length∧
  ∀{n:QN} {b:aE},s[n]?=QG b→∃i j,vs[n]?=QG (.B i)∧σ[i]?=QG (.A [.B j,b.2.v])∧σ[j]?=QG (.A (b.1.map ab.v)):=by
 (revert h;refine gP λy D g E q z k F t u c=> ?_;subst c)
 refine(eF g _ (λw x=>Ev.f x (w _ _ q) QJ) t (by rw[QP,QP]) λ{n b} e=> ?_);rw[Rn] at e
 (refine ag (λp l d=> ?_) (mS e);subst d)
 have a:=u p (Rg l);exact(cX p.1 p.2.1 (by rw[Rn,l];rfl) a.1 a.2)
theorem wO(d:QN){σ:af}{r A t:QN}{q x y:PV}{i:QI PV}(s:σ[r]?=QG (.C 82 []))(j:σ[t]?=QG (.A i))(w:i.length≤aR){K:Fl→ay→af→Prop}
  (h:∀l σ',Ch r σ σ'→σ[l]?=RM→σ'[l]?=QG (.A i)→σ'[r]?=QG (.C 82 [(67,q),(147,.A A),(115,.B l)])→RS (aB d) (lj.Qu.drop 3) [(71,.B r),(110,x),(97,y)] σ' K):
  RS (aB d) lj.Qu [(71,.B r),(67,q),(147,.A A),(165,.B t),(110,x),(97,y)] σ K:=by
 refine .n (Ev.a QJ (Ev.a QJ (.B s QJ QJ λz D E=> ?_)));refine .n (Ev.a QJ (Ev.a QJ (.B E QJ QJ λF c u=> ?_)));replace c:=D.a c;have k:t≠r:=λe=>by rw[e,s] at j;exact nA j QJ
 refine .n (.qk (Ev.a QJ (.p (c _ _ k j) ⟨w,λl G f=>Ev.a QJ (.B (f.1 _ _ u) QJ QJ λm v H=> ?_)⟩)));have g:l≠r:=(bU u f.2.1).symm;refine .p (.r QJ) (h l m ((c.b f.1).a v) ?_ (v _ _ g f.2.2) H)
 induction e:σ[l]? using QQ with
 |none=>rfl
 |some o=>exact bV ((c _ _ g e).symm.trans f.2.1)
theorem uP(d:QN){σ:af}{A u:QN}{w:PV}{o:QI PV}(F:σ[u]?=QG (.A o))(G:o.length≤aR){Q:PV→af→Prop}
  (h:∀q l k s σ',Le σ σ'→σ[q]?=RM→σ[k]?=RM→σ'[q]?=QG (jP w A l k s)→σ'[l]?=QG (.A o)→σ'[k]?=QG (.A [])→σ'[s]?=QG (.B [])→Q (.B q) σ'):
  aa (jc (aB (d+1)) (.J (.B 82)) [w,.A A,.B u]) σ Q:=by
 refine .qa QJ λr H e=>bx QJ QJ λK I=>
  wO d e.2.2 (e.1 _ _ F) G λl L N p O y=> ?_
 refine .n (.v (Ev.d QJ ((aJ.a QJ).g λv P R=> ?_)))
 (revert R;refine ag λk f j=> ?_;subst f)
 refine Ev.a QJ (.B (j.1 _ _ y) QJ QJ λS T z=> ?_);refine .n (.v (Ev.d QJ (.x λs U m=>Ev.a QJ (.B (m.1 _ _ z) QJ QJ λt D V=>.a (I _ _ _ ⟨QJ,?_⟩)))));have i:=(T.b m.1).a D;have E:=e.1.c e.2.1 N;exact h r l k s t ((E.a j.1).c e.2.1 i) e.2.1 (E.d j.2.1) V (i _ _ (bU e.2.2 p).symm (j.1 _ _ O)) (i _ _ (bU y j.2.1).symm j.2.2) (D _ _ (bU z m.2.1).symm m.2.2)
theorem CS(d:QN){σ:af}{A t j s:QN}{m:PV}{g:QI PV}(k:σ[t]?=QG (.A g))(o:g.length≤aR){Q:PV→af→Prop}
  (h:∀q l σ',Le σ σ'→σ[q]?=RM→σ'[q]?=QG (jP m A l j s)→σ'[l]?=QG (.A g)→σ[l]?=RM→Q (.B q) σ'):
  aa (jc (aB (d+1)) (.J (.B 82)) [m,.A A,.B t,.B j,.B s]) σ Q:=by
 refine .qa QJ λr p b=>bx QJ QJ λK u=>
  wO d b.2.2 (b.1 _ _ k) o λl w x e y z=> ?_
 refine .n (.v (Ev.d QJ (Ev.a QJ (Ev.a QJ (.B z QJ QJ λD E F=> ?_)))));refine .n (.v (Ev.d QJ (Ev.a QJ (Ev.a QJ (.B F QJ QJ λi G H=>.a (u _ _ _ ⟨QJ,?_⟩))))));have f:=E.a G;exact h r l i (b.1.c b.2.1 (x.a f)) b.2.1 H (f _ _ (bU b.2.2 e).symm y) (b.1.d e)
theorem aa.qb{C:QN→QI PV→M PV}{κ:ay}{σ:af}{Q:PV→af→Prop}{e:PE}{n:QN}{k:QI (RW×PV)}(b:Ev C e κ σ (.B n))(m:σ[n]?=QG (.B k))(p:k.length≤aR)(h:∀r σ',fH σ r (.B k) σ'→Q (.B r) σ'):aa (ak C (.F (.D 50) [e]) κ) σ Q:=
 .u (g:=.F) QJ (.d (b.a (.j (by
  show aa (M.a (eA (.B n)) λn=>M.a (M.f n) λo=>M.a (iC o) λs=>.c (Um s.length aR) (.j (.B s))) σ Q
  exact .h (.i (.h (.w m (.h (.i (.l (Wv.mpr p) (.x h)))))))))))
def dO(s:QI aE):Prop:=s.length≤10∧∀b∈s,b.1.length≤30
theorem qk{C:QN→QI PV→M PV}{κ:ay}{σ:af}{Q:PV→af→Prop}{L:PE}{O:QN}{ps:QI Bp}(U:Ev C L κ σ (.B O))(V:σ[O]?=QG (.A (ps.map bN)))(f:∀p∈ps,cB σ p)(P:dO (ps.map (·.2.2)))
  (h:∀q (s:QI Bp) σ',Le σ σ'→σ[q]?=RM→σ'[q]?=QG (.A (s.map bN))→(∀p∈s,cB σ' p∧p.1≠q∧p.2.1≠q)→s.map (·.2.2)=ps.map (·.2.2)→(s.map (·.2.1)).Nodup→(∀p∈s,σ[p.2.1]?=RM)→Q (.B q) σ'):
  aa (ak C (.N [161,163] L (.B (.D QO)) (.I [.F (.D 60) [.A 161],.A 163])) κ) σ Q:=by
 refine .W bN ps U V (bT (QK (by rw[←QP (·.2.2)];exact P.1) (lB QJ))) (λR k σ'=>Le σ σ'∧∃z s:QI Bp,z++R=ps∧k=s.map bN∧(∀p∈s,cB σ' p)∧s.map (·.2.2)=z.map (·.2.2)∧(s.map (·.2.1)).Nodup∧∀p∈s,σ[p.2.1]?=RM) (jl (Le.b σ) ([]) ([]) QJ QJ (λZ h=>Ro h Rb) QJ UD λZ h=>Ro h Rb) (λZ Z Z h=>h.1) (λx R k σ' g=> ?_) λk σ' q E g n=> ?_
 ·(revert g;refine yh λl z s G m r=> ?_;subst m;revert r;refine cY λc K o t=> ?_)
  have S:x∈ps:=by rw[←G];exact SF _ (QM ..)
  have T:=(f x S).a l;refine .mk (pF T.1) (.y (.d (.qk (Ev.a QJ (.p T.2 ⟨bT ?_,λj X H=>.d (Ev.a QJ (.j (.n (lB QJ) λi Y J=> ?_)))⟩)))))
  ·rw[QP]
   exact QK (P.2 _ (Up S)) (lB QJ)
  ·refine(jl ((l.a H.1).a J.1) (z++[x]) (s++[(i,j,x.2.2)]) (by rw[Rq];exact G) (by rw[Sg];rfl) (λp h=> ?_) (by rw[Sg,K,Sg];rfl) ?_ λp h=> ?_)
   ·(refine oO (λh=> ?_) (λh=> ?_) (mA h))
    ·exact(c p h).a (H.1.a J.1)
    ·obtain rfl:=m1 h
     exact⟨J.2.2,J.1 _ _ H.2.2⟩
   ·rw[Sg]
    refine VY.mpr (aL o (SO.mpr ⟨Rb,UD⟩) λa ha b hb e=> ?_)
    (refine ag (λp f u=> ?_) (mM ha);subst u)
    obtain rfl:=m1 hb;exact bU (c p f).2 H.2.1 e
   ·(refine oO (λh=> ?_) (λh=> ?_) (mA h))
    ·exact t p h
    ·obtain rfl:=m1 h
     exact l.d H.2.1
 ·(revert g;refine yh λl z s G v w=> ?_;subst v;revert w;refine cY λc K o t=> ?_)
  rw[RD] at G;exact h q s E (l.a n.1) (l.d n.2.1) n.2.2 (λp f=>(aL ((c p f).a n.1) (bU (c p f).1 n.2.1) (bU (c p f).2 n.2.1))) (G▸K) o t
theorem vn(d:QN){σ:af}{r A:QN}{t:QI PV}{w:QI aE}(I:aZ σ r A t w)(J:dO w)(L:t.length≤aR){Q:PV→af→Prop}
  (h:∀q m l b k (ps:QI Bp) σ',Le σ σ'→σ[q]?=RM→σ[b]?=RM→σ'[q]?=QG (jP m A l b k)→σ'[l]?=QG (.A t)→σ'[k]?=QG (.B [])→σ'[b]?=QG (.A (ps.map bN))→(∀p∈ps,cB σ' p∧p.1≠b∧p.2.1≠b)→ps.map (·.2.2)=w→l≠b→Q (.B q) σ'):
  aa (aB (d+2) 96 [.B r]) σ Q:=by
 (revert I;refine gP λm l b k i N O ps P R E=> ?_)
 refine bx (pf:=sF) (κ:=[(43,.B r)]) (by kernel_rfl) (by kernel_rfl) λK S=>.d (qk (ps:=ps) (Ev.f (n:=r) (by kernel_rfl) i (by kernel_rfl)) P R (E▸J) λq x T e U F G V Z Z=> ?_)
 refine .f (.u (g:=.B 82) (by kernel_rfl) (.d (Ev.a (Ev.f (n:=r) (v:=m) (by kernel_rfl) (e _ _ i) (by kernel_rfl)) (.d (Ev.a (Ev.f (n:=r) (v:=.A A) (by kernel_rfl) (e _ _ i) (by kernel_rfl)) (.d (Ev.a (Ev.f (n:=r) (v:=.B l) (by kernel_rfl) (e _ _ i) (by kernel_rfl))
  (.d (Ev.a (v:=.B q) (by kernel_rfl) (.d (.qb (Ev.f (n:=r) (v:=.B k) (by kernel_rfl) (e _ _ i) (by kernel_rfl)) (e _ _ O) (RQ _) λs W c=>.j (CS d (c.1 _ _ (e _ _ N)) L λz y D o X Y e4 e5=>S _ _ _ ?_))))))))))))
 exact h z m y q s x D ((e.a c.1).a o) ((e.a c.1).d X) U Y e4 (o _ _ c.2.2) (o _ _ (c.1 _ _ F)) (λp H=>⟨(G p H).1.a (c.1.a o),(G p H).2⟩) (V.trans E) (bU (c.1 _ _ F) e5).symm
noncomputable def dR:QI QN→QN
 |[]=>0
 |i::r=>dR r|||2^i
set_option autoImplicit true in
theorem Bv:dR (i::r)=dR r|||2^i:=QJ
set_option autoImplicit true in
theorem Bw:dR []=0:=QJ
theorem uM:∀{l:QI QN},(∀i∈l,i<9)→hU (aS l)=QG (dR l)
 |[],Z=>QJ
 |i::r,h=>by
  show Sr (Rc (0≤(i:RW)∧(i:RW)<9)) ((hU (aS r)).map λm=>m|||2^i) RM=_;have a:=h i (QM ..);rw[uM λj b=>h j (QV _ b),Ry (⟨RN (by decide) (Rx _),Sz.mpr (QK a (by decide))⟩)]
  rfl
theorem hV:∀{l:QI QN},(∀i∈l,i<9)→dR l<512
 |[],Z=>lB QJ
 |i::Z,h=>qcJ (hV λj a=>h j (QV _ a)) (Nat.pow_lt_pow_right (by decide) (h i (QM ..)))
section
variable{C:QN→QI PV→M PV}{κ:ay}{σ:af}{Q:PV→af→Prop}
theorem aa.X{e:PE}{l:QI QN}(h:aa (ak C e κ) σ (aJ σ (aS l)))(f:∀i∈l,i<9)(k:l.length≤100)(q:∀σ',Le σ σ'→Q (.H (dR l)) σ'):aa (ak C (.F (.D 150) [e]) κ) σ Q:=
 .u (g:=.G) QJ (.d (h.g λv σ'=>ag λr m n=>.j (by
  rw[m];show aa (M.a (M.b (.B r)) λv=>M.a (Mine.bZ v) λl=>.c (Um l.length aR) (.h ((hU l).map .H))) σ' Q;refine .h (.i (.h (.p n.2.2 (.l (Wv.mpr (bT (by rw[eY];exact k))) ?_))));rw[uM f]
  exact .i (q σ' n.1))))
theorem lP{x y:QN}(h:x<512)(d:y<512):gb .D (.H x) (.H y)=M.b (.H (x|||y)):=by
 show(M.c (Tv x 512) (.b x)).a (λx=>(M.c (Tv y 512) (.b y)).a λy=>.b (PV.H (x|||y)))=_;rw[Vq.mpr h,Vq.mpr d]
 rfl
theorem EY{x y:QN}(h:x<512)(d:y<512):gb .B (.H x) (.H y)=M.b (.H (x&&&(x^^^y))):=by
 show(M.c (Tv x 512) (.b x)).a (λx=>(M.c (Tv y 512) (.b y)).a λy=>.b (PV.H (x&&&(x^^^y))))=_;rw[Vq.mpr h,Vq.mpr d]
 rfl
theorem aa.q{α:Type}{m:M α}{a:α}{Q:α→af→Prop}(h:m=.b a)(q:Q a σ):aa m σ Q:=by
 rw[h];exact .i q
theorem FY{l m:QN}(h:l<1000):eC .B (.A l) (.H m) σ=QG (m.testBit l,σ):=by
 show(M.c (Tv l 1000) (.b (m.testBit l))) σ=_;rw[Vq.mpr h]
 rfl
theorem xf{k:RW}{n:QN}{kvs:QI (RW×PV)}(h:σ[n]?=QG (.B kvs)):eC .B (.A k) (.B n) σ=QG (kvs.any λp=>p.1==k,σ):=by
 show QX (M.f n σ) _=_;rw[fc h]
 rfl
theorem aa.qt{ts:QI QN}{t c e:PE}{α:Type}{f:α→PV}{xs:QI α}(l:xs.length≤aR)(h:aa (ak C t κ) σ (aJ σ (xs.map f)))(k:∀x σ,aa (bL ts (f x) κ) σ λκ' σ'=>σ'=σ∧Ev C c κ' σ (.D QR)):aa (ak C (.N ts t c e) κ) σ (aJ σ []):=
 .K (h.g λv i=>ag λr o n=>by
  rw[o]
  exact .s n.2.2 ⟨.inl QJ,aa.T f xs (λZ a σ'=>σ'=i∧a=[]) l ⟨QJ,QJ⟩ (λZ Z Z h=>h.1▸n.2.2) (λx Z Z σ' h=>(k x σ').g λκ' j g=>Ev.d (b:=QR) (by rw[g.1];exact g.2) (by rw[g.1];exact h))
   λa σ' Z h=>by rw[h.1,h.2];exact .n (RQ _) λq p m=>aJ.g n.1 (ai q QJ m)⟩)
theorem RB.q{a:PE}{l:QI QN}{Q:RG→af→Prop}(h:aa (ak C a κ) σ (aJ σ (aS l)))(q:∀σ',Le σ σ'→Q l.isEmpty σ'):RB C (.H .A a (.I [])) κ σ Q:=
 .a (h.g λx c h=>(aJ.a QJ).g λy d g=>by
  (revert h;refine ag λi e n=> ?_;subst e)
  (revert g;refine ag λj b m=> ?_;subst b)
  exact .mk (nB (m.1 _ _ n.2.2) m.2.2) (q _ (n.1.a m.1)))
end
def fu(σ:af)(u r le g:QN):Prop:=σ[u]?=QG (.C 200 [(43,.B r),(59,.B le),(107,.B g)])∧σ[le]?=QG (.B [])
theorem fu.b{σ σ':af}{u r le a:QN}(h:Le σ σ')(g:fu σ u r le a):fu σ' u r le a:=⟨h _ _ g.1,h _ _ g.2⟩
def iY(f:QI PV):Prop:=∀x∈f,∃t,x=.F [t,.D QO,.G]∧mL t
theorem Hy(d:QN){σ:af}{u r le R A l m:QN}{I:QI PV}{S:QI aE}{c:Rv}(J:fu σ u r le R)(T:aZ σ r A I S)(U:iY I)(G:l<I.length)(V:l<9):
  aa (aB (d+2) 164 [.B u,(ab.A l c).v,.H m]) σ λv σ'=>v=.D (!m.testBit l)∧Le σ σ':=by
 (revert T;refine IG λnm rl rb rs W X z=> ?_;clear z)
 refine ag (λt e Y=> ?_) (U _ (UP G));have G:=(Rk G).trans (RH QG e)
 refine bx (pf:=sk) (κ:=[(71,.B u),(152,(ab.A l c).v),(69,.H m)]) (by kernel_rfl) (by kernel_rfl) λK O=>.g (b:=QR) (by kernel_rfl) QJ
  (.l (Ev.a (v:=.F [.A l,c.v]) (by kernel_rfl) (.mk (a:=[.A l,c.v]) (σ':=σ) (by kernel_rfl) ⟨QJ,?_⟩)))
 refine .j (.i (Ev.d (Ev.h (x:=.A l) (y:=.H m) (by kernel_rfl) (by kernel_rfl) (FY (Ue V (by decide)))) ?_))
 induction P:m.testBit l using QL with
 |true=>exact .f (Ev.a (v:=.D QR) (by kernel_rfl) (O _ _ _ ⟨by rw[P];rfl,Le.b σ⟩))
 |false=>
  refine .i (Ev.d (b:=QR) (Ev.h (x:=.A l) (y:=.B le) (by kernel_rfl) (Ev.f (n:=u) (by kernel_rfl) J.1 (by kernel_rfl)) (xf J.2)) (.k ?_));refine aa.k (a:=116) (by kernel_rfl) (.d (Ev.a (v:=t) (Ev.k (y:=.A 0) (Ev.g (x:=.A l) (Ev.f (Ev.f (n:=u) (by kernel_rfl) J.1 (by kernel_rfl)) W (by kernel_rfl)) (by kernel_rfl) X (dG l) G) (by kernel_rfl) (by kernel_rfl)) (.j ((Y d σ).g λv L g=>(ai QO g.1 ?_)))))
  (refine dw (λw x Z p s N=> ?_) (zG c);clear p;clear s)
  refine .a (.a (.g (b:=30==w||(36==w||false)) (by rw[Z];kernel_rfl) N (.f (aa.g (RB.q (l:=[]) (Q:=λb σ'=>b=QO∧Le σ σ') (.qt (f:=ae.v) (xs:=c.qa) (bT (QK (rY c) (by decide)))
   (.k (a:=103) (by kernel_rfl) (.d (Ev.a (v:=c.v) (by kernel_rfl) (.j (oC d L c))))) λo E=>.mk (a:=(35,o.v)::_) (σ':=E) QJ ⟨QJ,by induction o using ae.casesOn<;>kernel_rfl⟩) λE h=>⟨QJ,g.2.a h⟩) λv E=>ag λb e q=>O _ _ _ ⟨by rw[P];exact e.trans (q.1▸QJ),q.2⟩))))
noncomputable def dW(m:QN):ab→RG
 | .A l Z=> !m.testBit l
 |_=>QR
set_option autoImplicit true in
theorem qP:dW m (.A l r)= !m.testBit l:=QJ
noncomputable def jd(m l:QN):Nat:=m&&&(m^^^dR [l])
noncomputable def gu(m:QN):ab→QN
 | .A l r=>Sr (m.testBit l) ((jd m l|||dR r.rd)|||dR []) m
 | .B o=>m|||dR o.rd
 | .C=>m
set_option autoImplicit true in
theorem zX:gu m (.A l r)=Sr (m.testBit l) ((jd m l|||dR r.rd)|||dR []) m:=QJ
def ab.qa(n:QN):ab→Prop
 | .A l r=>l<n∧∀i∈r.rd,i<n
 | .B o=>∀i∈o.rd,i<n
 | .C=>YB
theorem wI(d:QN){σ:af}{u r le g A m:QN}{f:QI PV}{c:QI aE}{s:ab}(e:fu σ u r le g)(i:aZ σ r A f c)(p:iY f)(j:f.length≤9)(h:s.qa f.length):
  aa (aB (d+2) 164 [.B u,s.v,.H m]) σ λv σ'=>v=.D (dW m s)∧Le σ σ':=by
 induction s using ab.casesOn with
 |A l r=>exact Hy d e i p h.1 (Rj h.1 j)
 |B o=>exact .mk (a:=.D QR) (σ':=σ) (by kernel_rfl) ⟨QJ,Le.b σ⟩
 |C=>exact .mk (a:=.D QR) (σ':=σ) (by kernel_rfl) ⟨QJ,Le.b σ⟩
theorem jz{x y:QN}(h:x<512)(a:y<512):x|||y<512:=qcJ (n:=9) h a
theorem vz{m l:QN}(hm:m<512):jd m l<512:=Rp Nat.and_le_left hm
theorem Ke{r:Rv}{n:QN}(h:∀i∈r.rd,i<n)(a:n≤9):dR r.rd<512:=hV λi b=>Rj (h i b) a
theorem tw{m n:QN}{s:ab}(hm:m<512)(h:n≤9)(a:s.qa n):gu m s<512:=by
 induction s using ab.casesOn with
 |A l r=>
  show Sr _ _ _<512
  induction m.testBit l using QL with
  |true=>exact jz (jz (vz hm) (Ke a.2 h)) (lB QJ)
  |false=>exact hm
 |B o=>exact jz hm (hV λi b=>Rj (a i b) h)
 |C=>exact hm
theorem KJ(r:Rv):r.rd.length≤100:=QK (pb r) (by decide)
theorem zY(d:QN){σ:af}{u r le R A m:QN}{y:QI PV}{S:QI aE}{s:ab}(N:fu σ u r le R)(T:aZ σ r A y S)(U:iY y)(z:y.length≤9)(D:s.qa y.length)(hm:m<512):
  aa (aB (d+4) 176 [.B u,s.v,.H m]) σ λv σ'=>v=.H (gu m s)∧Le σ σ':=by
 induction s using ab.casesOn with
 |C=>exact .mk (a:=.H m) (σ':=σ) (by kernel_rfl) ⟨QJ,Le.b σ⟩
 |B o=>
  have O:∀i∈o.rd,i<9:=λi p=>Rj (D i p) z
  exact bx (pf:=oG) (κ:=[(71,.B u),(152,(ab.B o).v),(69,.H m)]) (by kernel_rfl) (by kernel_rfl) λK E=>.h (b:=QO) (by kernel_rfl) QJ
   (.f (.t (Ev.a (v:=.H m) (by kernel_rfl) (.X (rX (d+1) (o:=o) (by kernel_rfl)) O (QK (dB o) (by decide)) λw G=>.q (lP hm (hV O)) (E _ _ _ ⟨QJ,G⟩)))))
 |A l c=>
  have J:∀i∈c.rd,i<9:=λi p=>Rj (D.2 i p) z
  refine bx (pf:=oG) (κ:=[(71,.B u),(152,(ab.A l c).v),(69,.H m)]) (by kernel_rfl) (by kernel_rfl) λK E=>.g (b:=QR) (by kernel_rfl) QJ
   (.j (.j (x:=QR) (by kernel_rfl) QJ (aa.F (n:=u) (a:=164) (by kernel_rfl) N.1 (by kernel_rfl) (by kernel_rfl) (.d (Ev.a (v:=(ab.A l c).v) (by kernel_rfl) (.d (Ev.a (v:=.H m) (by kernel_rfl) (.j
    ((wI (d+1) N T U z D).g λv w h=>(ai (dW m (.A l c)) h.1 ?_))))))))))
  have G:=h.2
  induction I:m.testBit l using QL with
  |false=>
   have e:dW m (.A l c)=true:=by rw[qP,I];rfl
   exact .u e (.f (Ev.a (v:=.H m) (by kernel_rfl) (E _ _ _ ⟨by rw[zX,I];rfl,G⟩)))
  |true=>
   have e:dW m (.A l c)=false:=by rw[qP,I];rfl
   have P:jd m l<512:=vz hm;have Q:∀i∈[l],i<9:=λi p=>m1 p▸Rj D.1 z
   refine .t e (.a (.a (.l (Ev.a (v:=.F [dg l,c.v]) (by kernel_rfl) (.mk (a:=[dg l,c.v]) (σ':=w) (by kernel_rfl) ⟨QJ,.h (b:=QO) (by kernel_rfl) QJ
    (.d (.t (Ev.a (v:=.H m) (by kernel_rfl) (.X (l:=[l]) (aJ.a (by kernel_rfl)) Q (lB QJ) λL V=>.q (EY hm (hV Q)) (.a (.a (.f ?_)))))))⟩)))))
   refine .t (.t (Ev.a (v:=.H (jd m l)) (by kernel_rfl) (.X (.k (a:=140) (by kernel_rfl) (.d (Ev.a (v:=c.v) (by kernel_rfl) (.j (zE d L c))))) J (KJ c) λM W=>.q (lP P (hV J)) ?_)))
   exact .X (l:=[]) (.k (a:=121) (by kernel_rfl) (.d (Ev.a (v:=dg l) (by kernel_rfl) (.j (JR (d+2) l M))))) (λZ h=>Ro h Rb) (by decide) λY h4=>
    .q (lP (jz P (hV J)) (lB QJ)) (E _ _ _ ⟨by rw[zX,I];rfl,((G.a V).a W).a h4⟩)
theorem zu{a n:QN}{b:RW}(c:b=a+n):cF a b 1=n∧gn a b 1=(RE n).map λ(j:QN)=>.A (a+j:QN):=by
 have h:cF a b 1=n:=by
  show((b-a+1-1)/1).toNat=n;rw[c,qel,Zq,qbw,Zq]
  rfl
 refine⟨h,?_⟩;show(RE (cF a b 1)).map _=_;rw[h];exact WH λj Z=>RH PV.A (by simp)
theorem Ka(n:QN):cF ((n:RW)-1) (-1) (-1)=n∧gn ((n:RW)-1) (-1) (-1)=(RE n).reverse.map λ(j:QN)=>.A j:=by
 have h:cF ((n:RW)-1) (-1) (-1)=n:=by
  show(((n:RW)-1-(-1)+1-1)/1).toNat=n;simp
 refine⟨h,?_⟩;show(RE (cF ((n:RW)-1) (-1) (-1))).map _=_;rw[h];refine qcN (by rw[QP,QP,TC]) λi a c=> ?_;have b:i<n:=by rw[QP,RC] at a;exact a
 rw[qcM,WW,qcM,List.getElem_reverse,WW,RC];exact RH PV.A (by rw[VQ (qbO b),VQ (Rp (RQ i) b),Int.neg_mul,Int.one_mul];rfl)
section
variable{C:QN→QI PV→M PV}{κ:ay}{σ:af}{Q:PV→af→Prop}
theorem zT{a b c:RW}{n:QN}{l:QI PV}(h:cF a b c=n∧gn a b c=l)(d:n≤1000)(s:pg a b c=QO):dh (.I a b c)=M.b (.A l,n):=by
 show M.c (Um (cF a b c) aR&&pg a b c) (.b (aG.A (gn a b c),cF a b c))=_;rw[h.1,h.2,s,Wv.mpr (QK d (lB QJ))]
 rfl
theorem tu{a n:QN}{b:RW}(h:b=a+n)(c:a≤1000)(d:n≤1000):dh (.I a b 1)=M.b (.A ((RE n).map λ(j:QN)=>.A (a+j:QN)),(RE n).length):=by
 rw[zT (zu h) d (Ry ⟨RN (by decide) (Rx _),RN (Sz.mpr c) (by decide),h▸RN (by decide) (Rx (a+n)),h▸RN (Sz.mpr (SR c d)) (by decide),.inl QJ⟩),RC]
theorem tp{n:QN}(h:n≤1000):dh (.I ((n:RW)-1) (-1) (-1))=M.b (.A ((RE n).reverse.map λ(j:QN)=>.A j),(RE n).reverse.length):=by
 rw[zT (Ka n) h (Ry ⟨RN (by decide) (WA (Rx n) 1),RN (WA (Sz.mpr h) 1) (by decide),by decide,by decide,.inr QJ⟩),TC,RC]
theorem gV{n:QN}(h:n≤1000):dh (.I 0 (n:RW) 1)=M.b (.A ((RE n).map λ(j:QN)=>.A j),(RE n).length):=by
 have:=tu (Int.zero_add _).symm (RQ _) h;simp only[SG] at this;exact this
theorem ko{i:RW}(h: -1000≤i∧i≤1000):dY i=true:=Ry ⟨RN (by decide) h.1,Zo h.2 (by decide)⟩
theorem aa.N{e:PE}{a:RW}(b:Ev C e κ σ (.A a))(c: -1000≤a∧a≤1000)(q:Q (.I 0 a 1) σ):aa (ak C (.F (.D 96) [e]) κ) σ Q:=
 .u QJ (.d (b.a (.j (.h (.i (.l (ko c) (.i q)))))))
theorem aa.qf{e f:PE}{a b:RW}(c:Ev C e κ σ (.A a))(g:Ev C f κ σ (.A b))(k: -1000≤a∧a≤1000)(m: -1000≤b∧b≤1000)(q:Q (.I a b 1) σ):aa (ak C (.F (.D 96) [e,f]) κ) σ Q:=
 .u QJ (.d (c.a (.d (g.a (.j (.h (.i (.h (.i (.l (by rw[ko k,ko m];rfl) (.i q)))))))))))
theorem aa.qg{e:PE}{n:QN}(b:Ev C e κ σ (.A ((n:RW)-1)))(c:n≤1000)(q:Q (.I ((n:RW)-1) (-1) (-1)) σ):aa (ak C (.F (.D 96) [e,.W (.B (.A 1)),.W (.B (.A 1))]) κ) σ Q:=
 .u QJ (.d (b.a (.d (Ev.a QJ (.d (Ev.a QJ (.j (.h (.i (.h (.i (.h (.i (.l (by rw[ko ⟨RN (by decide) (WA (Rx n) 1),RN (WA (Sz.mpr c) 1) (by decide)⟩];rfl) (.i q)))))))))))))))
theorem aa.Y{n k:QN}{l:QI PV}{v:PV}(a:σ[n]?=QG (.A l))(b:k<l.length)(q:∀σ',Ch n σ σ'→σ'[n]?=QG (.A (l.set k v))→Q .G σ'):aa (Mine.mz (.B n) (.A k) v) σ Q:=by
 refine .h (.i (.h (.w a ?_)));exact .l (Vq.mpr b) (.L a q)
theorem aa.qn{o:PE}{n:QN}{l:QI PV}(b:Ev C o κ σ (.B n))(c:σ[n]?=QG (.A l))(d:l.length≤aR)(q:∀r σ',fH σ r (.A l.reverse) σ'→Q (.B r) σ'):aa (ak C (.qe o) κ) σ Q:=
 .h (b.a (.h (.p c (.n (by rw[TC];exact d) q))))
end
noncomputable def iq(f:QN→QN):QI QN→QN
 |[]=>0
 |g::r=>iq f r|||f g
set_option autoImplicit true in
theorem sa:iq f (g::r)=iq f r|||f g:=QJ
set_option autoImplicit true in
theorem JE:iq f []=0:=QJ
theorem kj{x y i:QN}:(x|||y).testBit i=QO↔x.testBit i=QO∨y.testBit i=true:=by
 rw[qaH,Vs]
theorem rZ(f:QN→QN)(i:QN):∀l:QI QN,(iq f l).testBit i=QO↔∃g∈l,(f g).testBit i=QO
 |[]=>⟨λh=>Ro h (by rw[JE,Wt];decide),ag λZ h Z=>Ro h Rb⟩
 |g::r=>by
  rw[sa,kj,rZ f i r];simp only[SI,qea];exact or_comm
noncomputable def cn(f:QN→QN)(t:Tm):Nat:=iq f t.qa|||dR t.rd
noncomputable def bt(s:QI QN)(g:QN):Nat:=(s[g]?).getD 0
def Tm.qb(n N k:QN)(t:Tm):Prop:=t.qc=QO∧(∀i∈t.rd,i<n)∧∀g∈t.qa,k<g∧g<N
theorem tK(t:Tm):∃w l,t.v=.F (.C w::l)∧(w==46)=false:=by
 induction t using Tm.casesOn<;>exact(fy _ _ QJ QJ)
theorem yF{f:QN→QN}{l:QI QN}(h:∀g∈l,f g<512):iq f l<512:=by
 induction l with
 |nil=>exact lB QJ
 |cons g r i=>exact jz (i λx a=>h x (QV _ a)) (h g (QM ..))
theorem kF{s:QI QN}(h:∀m∈s,m<512)(g:QN):bt s g<512:=by
 unfold bt
 induction e:s[g]? using QQ with
 |none=>exact lB QJ
 |some m=>exact h m (Rg e)
theorem uC(d:QN){σ:af}{u r le bg A N k:QN}{I:QI PV}{bs:QI aE}{b:aE}{p:QI QN}(hu:fu σ u r le bg)(L:aZ σ r A I bs)(O:σ[bg]?=QG (.A (p.map .H)))(h9:I.length≤9)
  (hm:∀m∈p,m<512) (hN:N=p.length) (hk:bs[k]?=QG b) (P:b.2.qb I.length N k):aa (aB (d+4) 183 [.B u,.A k]) σ λv σ'=>v=.H (cn (bt p) b.2)∧Le σ σ':=by
 refine dw (λrb vs hp R a1 L=> ?_) (L.b)
 (refine cm (λi j z hj S=> ?_) (L hk))
 refine bq (λw l hw T=> ?_) (tK b.2);have hr:∀i∈b.2.rd,i<9:=λi z=>Rj (P.2.1 i z) h9
 refine bx QJ QJ λK hK=>.d (Ev.a (Ev.g (Ev.g (hp (Le.b σ) (Ev.f QJ hu.1 QJ)) QJ R (dG k) z) QJ hj QJ QJ)
  (.d (Ev.a QJ (.i (.k QJ (.d (Ev.a QJ (.j ((Ac (d+2) σ b.2 P.1).g λv V h=> ?_)))))))))
 (revert h;refine yl λks E hl q D n=> ?_;subst D)
 refine .s n.2.2 ?_
 refine RF.a _ ks (λc=>[(85,.H c),(163,b.2.v),(71,.B u)]) (λW (c:QN) σ'=>Le V σ'∧c<512∧(∀g∈W,g<N)∧∀i,(c.testBit i=QO∨∃g∈W,(bt p g).testBit i=QO)↔∃g∈ks,(bt p g).testBit i=QO) 0 QJ (.r QJ)
  (cq (Le.b _) (lB QJ) (λg Y=>(P.2.2 g ((E g).mp Y)).2) λi=>by rw[Wt];simp) (λZ Z σ' h=>h.1 _ _ n.2.2) (λx W c σ' h J hJ Z=>.i ?_) λc σ' h=> ?_
 ·(revert h;refine cY λo G hy z=> ?_)
  have hx:=hN▸hy x (QM ..);have F:=Rk hx;have e:bt p x=p[x]:=by rw[bt,F];rfl
  refine .d (Ev.a (Ev.i (y:=.H (bt p x)) QJ (Ev.g (Ev.f QJ (o _ _ (n.1 _ _ hu.1)) QJ) QJ (o _ _ (n.1 _ _ O)) (dG x) (by rw[Rn,F,e];rfl))
   (by rw[lP G (kF hm x)];rfl)) (.a (hJ _ _ _ (.r QJ) (cq o (jz G (kF hm x)) (λg Y=>hy g (QV _ Y)) λi=> ?_))))
  rw[kj,←z i,or_assoc];simp only[SI,qea]
 ·(revert h;refine cY λo G a0 z=> ?_)
  have e:c=iq (bt p) b.2.qa:=qbP λi=>by
   rw[Ud,rZ];simp only[←E];rw[←z i];exact⟨.inl,λh=>h.elim id<|ag λZ h U=>Ro h Rb⟩
  refine .j (.l (by rw[hw];kernel_rfl) T (.a (.a (.f (.t (Ev.a QJ (.X (.k QJ (.d (Ev.a QJ (.j (Ag d σ' b.2))))) hr ?_ λa2 h2=>.q (lP G (hV hr)) (hK _ _ _ ⟨by rw[e];rfl,(n.1.a o).a h2⟩))))))));exact QK (Aj _) (by decide)
section
variable{C:QN→QI PV→M PV}{κ:ay}{σ:af}{r:QI PS}{K:Fl→ay→af→Prop}
theorem RS.x{o d:PE}{X:QI PS}{q:QN}{ps:QI Bp}(κ':ay)(w:ar κ' κ)(z:∀a b,ar κ' ((163,a)::(161,b)::κ'))(k:∀a,ar κ' ((152,a)::κ'))
  (j:Ev C o κ σ (.B q)) (f:σ[q]?=QG (.A (ps.map bN))) (l:∀p∈ps,cB σ p) (E:∀s:ab,Ev C d ((152,s.v)::κ') σ (.D QR))
  (h:RS C r κ' σ K):RS C (.D [161,163] QR o [.D [152] QR (.A 161) [.C d X []]]::r) κ σ K:=by
 refine .i (j.a (.s f (RF.a bN ps (λ(Z:UE)=>κ') (λy Z t=>t=σ∧∀p∈y,p∈ps) () QJ w ⟨QJ,λZ h=>h⟩ (λZ Z t h=>h.1▸f) (λx y Z t g J F Z=> ?_) λZ t g=>g.1▸h)))
 (revert g;refine oA λe u=> ?_;subst e)
 have m:=l x (u x (QM ..));refine .mk (pF m.1) (.i (Ev.a QJ (.s m.2 (RF.a ab.v x.2.2.1 (λ(Z:UE)=>κ') (λZ Z c=>c=t) () QJ (z _ _) QJ (λZ Z t h=>h▸m.2) (λs Z Z c g G n Z=>.i ?_) λZ c g=> ?_))))
 ·obtain rfl:=g
  exact .g (E s) QJ (.a (n () _ _ (k _) QJ))
 ·obtain rfl:=g
  exact .a (F () _ _ (ar.g _) ⟨QJ,λp l=>u p (QV _ l)⟩)
end
theorem xw{C:QN→QI PV→M PV}{κ:ay}{σ:af}(s:ab):Ev C (.M (.H .A (.C (.A 152) (.B (.A 0))) (.B (.C 105))) (.H .A (.C (.C (.A 152) (.B (.A 2))) (.B (.A 0))) (.B (.C 36)))) ((152,s.v)::κ) σ (.D QR):=by
 induction s using ab.casesOn with
 |C=>kernel_rfl
 |B o=>kernel_rfl
 |A l r=>induction r using Rv.casesOn<;>kernel_rfl
theorem Ms(d:QN){σ:af}{r A:QN}{bf:QI PV}{F:QI aE}(hb:aZ σ r A bf F)(hf:dO F){Q:PV→af→Prop}
  (q:∀u le z σ',Le σ σ'→fu σ' u r le z→σ[z]?=RM→σ'[z]?=QG (.A ((SQ F.length 0).map .H))→Q (.B u) σ'):aa (jc (aB (d+1)) (.J (.B 200)) [.B r]) σ Q:=by
 (revert hb;refine gP λnm rl rb rs U G I L V h5 l=> ?_;subst l)
 refine .qa QJ λu a0 D=>bx QJ QJ λK hK=> ?_;refine .n (Ev.a QJ (Ev.a QJ (.B D.2.2 QJ QJ λa1 c2 X=> ?_)));refine .n (.x λle a2 E=>Ev.a QJ (.B (E.1 _ _ X) QJ QJ λN Y O=> ?_));have j:=(D.1.c D.2.1 ((c2.b E.1).a Y));have m:=Y _ _ (bU X E.2.1).symm E.2.2;refine .x [(71,.B u),(43,.B r)] (.r QJ) (λZ Z=>.r QJ) (λZ=>.r QJ) (Ev.f QJ (j _ _ U) QJ) (j _ _ V) (λp hp=>(h5 p hp).a j) xw ?_
 have hl:L.length≤10:=by
  have:=hf.1;rwa[QP] at this
 refine .n (.W bN L (Ev.f QJ (j _ _ U) QJ) (j _ _ V) (bT (QK hl (by decide))) (λP o σ'=>σ'=N∧∃k,o=(SQ k 0).map PV.H∧k+P.length=L.length) (cE QJ 0 QJ (SG _)) (λZ Z σ' h=>h.1▸Le.b _)
  (λx P o σ' h=>.i (Ev.a QJ ⟨h.1,?_⟩)) λo σ' z a3 g y=> ?_)
 ·(revert h;refine cc λR k s hk=> ?_;subst s)
  exact(ai (k+1) (by rw[List.replicate_succ',Sg];rfl) ((qbr k P.length).trans hk))
 (revert g;refine oA λt v=> ?_;subst t;revert v;refine ag λk w e=> ?_;subst w)
 refine Ev.a QJ (.B (y.1 _ _ O) QJ QJ λS T g6=>.a (hK _ _ _ ⟨QJ,?_⟩));refine q u le z S ((j.a y.1).c D.2.1 T) ⟨g6,T _ _ (λe=> ?_) (y.1 _ _ m)⟩ (j.d y.2.1) ?_
 ·rw[e,O] at m
  exact nA m QJ
 ·rw[T _ _ (bU O y.2.1).symm y.2.2,QP,←e]
  rfl
noncomputable def bu(m:QN)(ss:QI ab):Nat:=ss.foldr (λs m=>gu m s) m
noncomputable def eR:QN→QI aE→QI QN
 |Z,[]=>[]
 |i,b::r=>bu (cn (λg=>bt (eR (i+1) r) (g-(i+1))) b.2) b.1::eR (i+1) r
set_option autoImplicit true in
theorem GX:eR i (b::r)=bu (cn (λg=>bt (eR (i+1) r) (g-(i+1))) b.2) b.1::eR (i+1) r:=QJ
noncomputable def bO(s:QI aE):QI Nat:=eR 0 s
def dy(n:QN)(a:QI aE):Prop:=∀(k:QN) (b:aE),a[k]?=QG b→(∀s∈b.1,s.qa n)∧b.2.qb n a.length k
theorem rA:∀(l:QI aE) (i:QN),(eR i l).length=l.length
 |[],Z=>QJ
 |Z::r,i=>RH (·+1) (rA r (i+1))
theorem Be(x:QN)(l:QI QN)(j:QN):bt (x::l) (j+1)=bt l j:=QJ
theorem og(l:QI aE):∀(e:QI aE) (i j:QN),bt (eR i (e++l)) (e.length+j)=bt (eR (i+e.length) l) j
 |[],i,j=>by rw[UJ,SG];rfl
 |p::e,i,j=>by
  rw[Se,RO,XI,GX,Be,og l e (i+1) j,TQ i 1,UN 1]
theorem JD{f g:QN→QN}{l:QI QN}(h:∀x∈l,f x=g x):iq f l=iq g l:=by
 induction l with
 |nil=>rfl
 |cons a r i=>rw[sa,sa,i λx b=>h x (QV _ b),h a (QM ..)]
theorem qn{f g:QN→QN}{t:Tm}(h:∀x∈t.qa,f x=g x):cn f t=cn g t:=by
 rw[cn,cn,JD h]
theorem oe{n:QN}{s:QI aE}(f:dy n s){k:QN}{b:aE}(a:s[k]?=QG b):bt (bO s) k=bu (cn (bt (bO s)) b.2) b.1:=by
 refine oE (λt e=> ?_) (Te.mp a);have i:s=s.take k++b::s.drop (k+1):=by rw[←e,qbe,Vu]
 have l:(s.take k).length=k:=by rw[XG,WG (Sm t)]
 have c:=og (b::s.drop (k+1)) (s.take k) 0 0;rw[←i,l,SG] at c;have j:(s.take (k+1)).length=k+1:=by rw[XG,WG t]
 refine c.trans ?_;show bu _ _=_
 congr 1
 refine qn λg h=> ?_;have h:=((f k b a).2.2.2 g h).1;have d:=og (s.drop (k+1)) (s.take (k+1)) 0 (g-(k+1));rw[Vu,j,SG,Uq h] at d;exact d.symm
theorem qD{n:QN}(a:n≤9){m:QN}(hm:m<512):∀{ss:QI ab},(∀s∈ss,s.qa n)→bu m ss<512
 |[],Z=>hm
 |s::Z,h=>tw (qD a hm λx b=>h x (QV _ b)) a (h s (QM ..))
theorem qo{n N k:QN}(h:n≤9){f:QN→QN}{t:Tm}(a:t.qb n N k)(b:∀g,f g<512):cn f t<512:=
 jz (yF λg Z=>b g) (hV λi c=>Rj (a.2.1 i c) h)
theorem xy{n:QN}(a:n≤9):∀(l:QI aE) (i:QN),(∀b∈l,(∀s∈b.1,s.qa n)∧∀j∈b.2.rd,j<n)→∀m∈eR i l,m<512
 |[],Z,U,Y,h=>Ro h Rb
 |b::r,i,f,m,h=>by
  have c:=xy a r (i+1) λx k=>f x (QV _ k)
  (refine oO (λe=> ?_) (λh=> ?_) (mC h)<;>try subst e)
  ·have d:=f b (QM ..)
   exact qD a (jz (yF λg Z=>kF c _) (hV λi o=>Rj (d.2 i o) a)) d.1
  ·exact c m h
theorem GU{n:QN}(a:n≤9){s:QI aE}(f:dy n s):∀m∈bO s,m<512:=xy a s 0 λb c=>by
 refine oE (λk h=> ?_) (Uu.mp c);exact⟨(f k b h).1,(f k b h).2.2.1⟩
def jL(b:QI aE)(s:QI QN)(m:QN)(t:QI QN×RG):Prop:=
 (t.1.length=b.length∧∀x∈t.1,x<512)∧(∀j,m≤j→j<b.length→bt t.1 j=bt (bO b) j)∧(t.2=QR→t.1=s)∧(t.2=QO→s≠bO b)
theorem sW{m x:QN}{s:QI QN}(h:x::s=(RE m).reverse):m=x+1∧s=(RE x).reverse:=by
 induction m using Uo with
 |zero=>exact nomatch h
 |succ m=>
  rw[Yi,List.reverse_append] at h;have:=VE h;exact⟨by rw[this.1],by rw[this.2,this.1];rfl⟩
theorem Bd{l:QI QN}{k v:QN}(hk:k<l.length)(j:QN):bt (l.set k v) j=if j=k then v else bt l j:=by
 unfold bt;rw[Vx]
 by_cases e:k=j
 ·rw[SH e,SH e.symm,SH hk]
  rfl
 ·rw[SK e,SK λh=>e h.symm]
theorem yK{n:QN}{s:QI aE}(f:dy n s){m:QI QN}{k:QN}{t:QI QN×RG}{b:aE}(h:jL s m (k+1) t)(a:s[k]?=QG b):bu (cn (bt t.1) b.2) b.1=bt (bO s) k:=by
 rw[oe f a]
 congr 1
 exact qn λg c=>h.2.1 g ((f k b a).2.2.2 g c).1 ((f k b a).2.2.2 g c).2
theorem JO{b:QI aE}{s:QI QN}{k:QN}{t:QI QN×RG}(h:jL b s (k+1) t)(e:bt (bO b) k=bt t.1 k):jL b s k t:=
 (aL h.1 (λj a l=>(qcx a).elim (λq=>by rw[←q,e]) λq=>h.2.1 j q l) h.2.2)
theorem JN{bs:QI aE}{ms0:QI QN}{k:QN}{st:QI QN×RG}(h:jL bs ms0 (k+1) st)(hk:k<bs.length)(h5:bt (bO bs) k<512)(e:bt (bO bs) k≠bt st.1 k):jL bs ms0 k (st.1.set k (bt (bO bs) k),QO):=by
 have hk':k<st.1.length:=h.1.1▸hk;refine(cq ⟨Vc.trans h.1.1,λx hx=> ?_⟩ (λj hj hl=> ?_) nofun λZ=> ?_)
 ·(refine oO (λhx=> ?_) (λe_270=> ?_) (Va hx)<;>try subst e_270)
  ·exact h.1.2 x hx
  ·exact h5
 ·rw[Bd hk']
  by_cases q:j=k
  ·rw[SH q,q]
  ·rw[SK q]
   exact h.2.1 j (by lia) hl
 ·induction hs:st.2 using QL with
  |true=>exact h.2.2.2 hs
  |false=>
   intro q;rw[h.2.2.1 hs,q] at e;exact e QJ
theorem JM{b:QI aE}{s:QI QN}{t:QI QN×RG}(h:jL b s 0 t):t.1=bO b:=by
 apply qcN
 ·rw[h.1.1,bO,rA]
 ·intro i a c
  have:=h.2.1 i (RQ _) (h.1.1▸a);rw[bt,bt,Rk a,Rk c] at this;exact this
theorem fu.a{σ σ':af}{u r le bg:QN}{l:QI PV}(g:σ[bg]?=QG (.A l))(c:Ch bg σ σ')(h:fu σ u r le bg):fu σ' u r le bg:=
 ⟨c _ _ (λe=>by have:=h.1;rw[e,g] at this;exact nA this QJ) h.1,c _ _ (λe=>by have:=h.2;rw[e,g] at this;exact nA this QJ) h.2⟩
def dN(σ0 σ:af)(u r le bg:QN)(s:QI QN):Prop:=Le σ0 σ∧fu σ u r le bg∧σ[bg]?=QG (.A (s.map .H))
theorem dN.a{σ0 σ σ':af}{u r le bg:QN}{s:QI QN}(h:dN σ0 σ u r le bg s)(l:Le σ σ'):dN σ0 σ' u r le bg s:=(aL (h.1.a l) (h.2.1.b l) (l _ _ h.2.2))
theorem Hx(s:QI QN)(k v:QN):(s.map PV.H).set k (.H v)=(s.set k v).map .H:=WL.symm
section
variable{σ0:af}{u r le bg A:QN}{bf:QI PV}{bs:QI aE}
theorem Bf(d:QN)(P:aZ σ0 r A bf bs)(Q:iY bf)(L:bf.length≤9){σ:af}{S:QI QN}(M:dN σ0 σ u r le bg S){ss:QI ab}{j m:QN}(T:σ0[j]?=QG (.A (ss.map ab.v)))(U:ss.length≤30)(V:∀s∈ss,s.qa bf.length)(hm:m<512)
  {κ κ':ay} {e:PE} {N:QI PS} {K:Fl→ay→af→Prop} (W:Ev (aB (d+4)) e κ σ (.B j)) (y:κ.lookup 69=QG (.H m)) (X:κ'.lookup 71=QG (.B u)) (o:κ'.lookup 152=RM) (p:κ'.lookup 69=RM) (Y:ar κ' κ)
  (h:∀σ',Le σ σ'→RS (aB (d+4)) N ((69,.H (bu m ss))::κ') σ' K):
  RS (aB (d+4)) (.D [152] QR (.qe e) [.A (.A 69) (.R (.A 71) 153 [.A 152,.A 69])]::N) κ σ K:=by
 refine .i (.qn W (M.1 _ _ T) (bT (by rw[QP];exact QK U (Sq _ _))) λq z t=> ?_);rw[←ZM] at t
 refine .s t.2.2 (RF.a ab.v ss.reverse (λm=>(69,.H m)::κ') (λC (a:QN) σ'=>Le z σ'∧a<512∧(∀s∈C,s.qa bf.length)∧C.foldl (λm s=>gu m s) a=bu m ss) m QJ (.c y Y) (cq (Le.b _) hm (λs f=>V s (Vg.mp f)) (by rw[List.foldl_reverse];rfl))
  (λZ Z σ' g=>g.1 _ _ t.2.2) (λs C a σ' g J hJ Z=>.i ?_) λa σ' g=>by
   (revert g;refine cY λw E G l=> ?_)
   have l:a=bu m ss:=l;rw[l]
   exact h σ' (t.1.a w))
 (revert g;refine cY λw l O g4=> ?_)
 have k:=(M.a t.1).a w;have f:=O s (QM ..);refine .d (.F ?_ k.2.1.1 QJ QJ (.d (Ev.a QJ (.d (Ev.a QJ (.j ((zY d k.2.1 (P.a k.1) Q L f l).g λv a0 q=> ?_)))))))
 ·show(Wy 71 ((152,s.v)::(69,.H a)::κ')).map _=_
  rw[Tn,Tn];rw[X]
  rfl
 ·rw[q.1]
  refine .a (hJ (gu a s) _ _ (.c QJ λn v e=> ?_) (cq (w.a q.2) (tw l L f) (λx hx=>O x (QV _ hx)) g4));rw[Tn,Tn,Tn];split
  ·rename_i I
   rw[VC I,p] at e;exact aI e
  ·split
   ·rename_i I
    rw[VC I,o] at e;exact aI e
   ·exact e
theorem Ea(d:QN)(hb:aZ σ0 r A bf bs)(hp:iY bf)(h9:bf.length≤9)(hf:dO bs)(hfit:dy bf.length bs){σ:af}(h0:dN σ0 σ u r le bg (SQ bs.length 0))(hbg:σ0[bg]?=RM):
  aa (aB (d+5) 190 [.B u]) σ λv σ'=>v=.G∧dN σ0 σ' u r le bg (bO bs):=by
 refine bx QJ QJ λK hK=>.d (Ev.a QJ ?_)
 refine .w (I:=λk κ σ=>∃ch ms,ar [(128,.D ch),(71,.B u)] κ∧dN σ0 σ u r le bg ms∧(ms.length=bs.length∧∀x∈ms,x<512)∧(ch=QR→ms=bO bs)∧(ch=QO→k≠0)∧(ms≠bO bs→2≤k)) 2 (by decide)
  ⟨QO,_,.r QJ,h0,⟨UX,λx hx=>(List.mem_replicate.mp hx).2▸lB QJ⟩,nofun,λZ=>by decide,λZ=>Sd _⟩ λk κ σ1 I J hJ Z=> ?_
 (revert I;refine mq λch ms0 hs hF hms hc1 hc2 hc3=> ?_)
 refine aa.D (Ev.d QJ ⟨λhch=>.p hs ?_,λhch=>.p hs (.a (hK _ _ _ ⟨QJ,hc1 hch▸hF⟩))⟩) hs;refine .d (Ev.a QJ ?_);refine dw (λrb vs hv hvs hlen hblk=> ?_) (hb.b);have h10:bs.length≤1000:=QK hf.1 (by decide);refine .i (.qg (Ev.i (Ev.j (hv hF.1 (Ev.f QJ hF.2.1.1 QJ)) (hF.1 _ _ hvs)) QJ (by rw[hlen];rfl)) h10 (.q (tp h10) ?_))
 refine RF.a _ (RE bs.length).reverse (λst=>[(128,.D st.2),(71,.B u)]) (λys (st:QI QN×RG) σ'=>dN σ0 σ' u r le bg st.1∧∃m,m≤bs.length∧ys=(RE m).reverse∧jL bs ms0 m st) (ms0,QR) QJ (.r QJ)
  ⟨hF,_,Sd _,QJ,hms,λj h1 h2=>Ro h1 (qcv.mpr h2),λZ=>QJ,nofun⟩ (λZ Z Z Z=>QJ) (λx ys st σ2 g J' hJ' Z=>.i ?_) λst σ2 g=> ?_
 ·(revert g;refine cj λhF2 m hm hy hI=> ?_)
  (refine oA (λe_273 r_274=> ?_) (sW hy);subst e_273;revert r_274;intro e_275;subst e_275)
  have hb':=hb.a hF2.1;refine oE (λb hx=> ?_) ((⟨_,Rk hm⟩:∃b,bs[x]?=QG b));have hfb:=hfit x b hx;refine cm (λi j hi hij hj=> ?_) (hblk hx);refine .d (.F QJ hF2.2.1.1 QJ QJ (.d (Ev.a QJ (.j ((uC d hF2.2.1 hb' hF2.2.2 h9 hI.1.2 hI.1.1.symm hx hfb.2).g λv σ3 q=> ?_)))));rw[q.1];have hF3:=hF2.a q.2;refine Bf d hb hp h9 hF3 (κ':=[(117,.A x),(128,.D st.2),(71,.B u)]) hj (hf.2 b (Rg hx)) hfb.1 (qo h9 hfb.2 (kF hI.1.2)) (Ev.g (Ev.g (hv hF3.1 (Ev.f QJ hF3.2.1.1 QJ)) QJ (hF3.1 _ _ hvs) (dG x) hi) QJ (hF3.1 _ _ hij) QJ QJ) QJ QJ QJ QJ (.r QJ) λσ4 h4=> ?_;rw[yK hfit hI hx];have hF4:=hF3.a h4;have hxl:x<st.1.length:=hI.1.1▸hm;have hg:(st.1.map PV.H)[x]?=QG (.H (bt st.1 x)):=by rw[Rn,bt,Rk hxl];rfl
  refine .j (Ev.d (Ev.h QJ (Ev.g (Ev.f QJ hF4.2.1.1 QJ) QJ hF4.2.2 (dG x) hg) QJ) ?_)
  by_cases e:bt (bO bs) x=bt st.1 x
  ·exact .t (by rw[Sk.mpr e];rfl) (.a (.a (.a (hJ' st _ _ (.r QJ) (cW hF4 x (Sm hm) QJ (JO hI e))))))
  ·refine .u (by rw[Tp.mpr e];rfl) (.q (Ev.a QJ (Ev.a (Ev.f QJ hF4.2.1.1 QJ) (Ev.a QJ (.Y hF4.2.2 (by rw[QP];exact hxl) λσ5 c5 g5=> ?_)))))
   rw[Hx] at g5
   have h5:bt (bO bs) x<512:=by
    rw[←yK hfit hI hx];exact qD h9 (qo h9 hfb.2 (kF hI.1.2)) hfb.1
   exact .d (Ev.a QJ (.a (.a (.a (hJ' (_,QO) _ _ (.r QJ) (cW (aL (hF4.1.c hbg c5) (hF4.2.1.a hF4.2.2 c5) g5) x (Sm hm) QJ (JN hI hm h5 e)))))))
 ·(revert g;refine cj λhF2 m hm hy hI=> ?_)
  obtain rfl:m=0:=by
   have:=RH Wz hy;rwa[UJ,TC,RC,qcj] at this
  have e:=JM hI;refine .a (hJ (Sr st.2 1 0) _ _ ?_ ⟨st.2,st.1,.r QJ,hF2,hI.1,λZ=>e,λh=>by rw[h];decide,λh=>Ro e h⟩)
  induction h2:st.2 using QL with
  |false=>exact Zl (hc2 hch)
  |true=>exact hc3 (hI.2.2.2 h2)
end
noncomputable def dK(m:QN):QI ab→QI ab
 |[]=>[]
 |s::r=>Sr (dW (bu m r) s) (dK m r) (s::dK m r)
set_option autoImplicit true in
theorem ik:dK m (s::r)=Sr (dW (bu m r) s) (dK m r) (s::dK m r):=QJ
noncomputable def fi(m:QN):QN→QI ab→QI QN
 |Z,[]=>[]
 |i,s::r=>Sr (dW (bu m r) s) (fi m (i+1) r) (i::fi m (i+1) r)
set_option autoImplicit true in
theorem mw:fi m i (s::r)=Sr (dW (bu m r) s) (fi m (i+1) r) (i::fi m (i+1) r):=QJ
noncomputable def gR(ss:QI ab)(l:QI QN):QI ab:=l.filterMap λi=>ss[i]?
theorem zf(m:QN)(ss:QI ab):∀(r:QI ab) (i:QN),ss.drop i=r→gR ss (fi m i r)=dK m r
 |[],Z,U=>QJ
 |s::r,i,h=>by
  have b:ss[i]?=QG s:=by
   have:=RH (·[0]?) h;simpa using this
  have c:ss.drop (i+1)=r:=by
   have:=RH List.tail h;simpa using this
  rw[mw,ik];have a:=zf m ss r (i+1) c
  induction dW (bu m r) s using QL with
  |true=>exact a
  |false=>
   show qaw _ (i::_)=_;rw[WI,b];exact RH (s::·) a
theorem oS(m:QN):∀(r:QI ab) (i:QN),(fi m i r).length≤r.length
 |[],Z=>Sd _
 |s::r,i=>by
  rw[mw];have:=oS m r (i+1)
  induction dW (bu m r) s using QL with
  |true=>exact Sw this
  |false=>exact Tg this
theorem zl(m:QN):∀(r:QI ab) (i:QN),∀x∈fi m i r,x<i+r.length
 |[],Z,U,h=>Ro h Rb
 |s::r,i,x,h=>by
  rw[mw] at h;refine have b:=zl m r (i+1);?_;rw[Se]
  induction e:dW (bu m r) s using QL with
  |true=>
   rw[e] at h;exact VT (b x h) (RO i 1 _)
  |false=>
   rw[e] at h
   (refine oO (λa=> ?_) (λh=> ?_) (mC h)<;>try subst a)
   ·exact Tc (Th _)
   ·exact VT (b x h) (RO i 1 _)
section
variable{σ0:af}{u r le bg A:QN}{bf:QI PV}{bs:QI aE}
theorem Gv(d:QN)(hb:aZ σ0 r A bf bs)(hp:iY bf)(h9:bf.length≤9)(hf:dO bs)(a7:dy bf.length bs){σ:af}{ms:QI QN}(G:dN σ0 σ u r le bg ms)(N:ms.length=bs.length∧∀x∈ms,x<512){k:QN}{b:aE}(hk:bs[k]?=QG b):
  aa (aB (d+5) 197 [.B u,.A k]) σ (aJ σ (aS (fi (cn (bt ms) b.2) 0 b.1))):=by
 refine dw (λrb vs hv b0 b7 a8=> ?_) (hb.b);refine cm (λi j hi b1 hj=> ?_) (a8 hk);refine have O:=a7 k b hk;?_;refine have hl:=hf.2 b (Rg hk);?_;generalize hm:cn (bt ms) b.2=m
 refine bx QJ QJ λK hK=>.l (.I (.d (.F QJ G.2.1.1 QJ QJ (.d (Ev.a QJ (.j
  ((uC d G.2.1 (hb.a G.1) G.2.2 h9 N.2 N.1.symm hk O.2).g λv b8 q=>.d ((aJ.a QJ).g λv' b9 h=> ?_))))))))
 (revert q;refine oA λP h1=> ?_;subst P)
 rw[hm]
 (revert h;refine ag λq Q n2=> ?_;subst Q)
 refine have o:=(G.a h1).a n2.1;?_;refine .j (.z (lB QJ) (.mk QJ ⟨QJ,.d (Ev.a (Ev.g (Ev.g (hv o.1 (Ev.f QJ o.2.1.1 QJ)) QJ (o.1 _ _ b0) (dG k) hi) QJ (o.1 _ _ b1) QJ QJ) ?_)⟩));refine have b2:=o.1 _ _ hj;?_;refine .i (.qg (Ev.i (Ev.j QJ b2) QJ (by rw[QP];rfl)) (QK hl (by decide)) (.q (tp (QK hl (by decide))) ?_))
 refine RF.a _ (RE b.1.length).reverse (λm=>[(69,.H m),(85,.B q),(161,.B j),(71,.B u)]) (λys (a:QN) t=>(Le σ t∧a<512)∧∃i,i≤b.1.length∧ys=(RE i).reverse∧a=bu m (b.1.drop i)∧t[q]?=QG (.A (aS (fi m i (b.1.drop i)).reverse))) m QJ (.r QJ)
  (gE ⟨h1.a n2.1,hm▸qo h9 O.2 (kF N.2)⟩ _ (Sd _) QJ (by rw[ZO];rfl) (by rw[ZO];exact n2.2.2)) (λZ Z Z Z=>QJ) (λx ys a b3 g J hJ Z=>.i ?_) λa b3 g=> ?_
 ·(revert g;refine jY λS c hc hy T hq=> ?_;revert S;refine oA λw ha=> ?_;subst T)
  (refine oA (λU V=> ?_) (sW hy);subst U;revert V;intro W;subst W)
  refine have y:=G.a w;?_;refine have hd:b.1.drop x=b.1[x]::b.1.drop (x+1):=Xp hc;?_;refine have hs:=O.1 b.1[x] (UP hc);?_;have hx:(b.1.map ab.v)[x]?=QG b.1[x].v:=by rw[Rn,Rk hc];rfl
  generalize b.1[x]=s at hd hs hx;refine have c0:σ0[q]?=none:=(G.1.a h1).d n2.2.1;?_
  have ev:∀{t:af} {κ},Le σ0 t→ar [(161,.B j),(25,.A x)] κ→aa (ak (aB (d+4)) (.C (.A 161) (.A 25)) κ) t λv a9=>v=s.v∧a9=t:=λh0 b4=>
   aa.D (Ev.a (Ev.g QJ QJ (h0 _ _ hj) (dG x) hx) ⟨QJ,QJ⟩) b4
  have L:∀{n:af},Le σ n→n[q]?=QG (.A (aS (fi m x (b.1.drop x)).reverse))→RS (aB (d+4)) [.A (.A 69) (.R (.A 71) 153 [.C (.A 161) (.A 25),.A 69])] [(25,.A x),(69,.H (bu m (b.1.drop (x+1)))),(85,.B q),(161,.B j),(71,.B u)] n J:=λ{n} M b5=>by
   refine have E:=G.a M;?_;refine .d (.F QJ E.2.1.1 QJ QJ (.d ((ev E.1 (.r QJ)).g λv t g=> ?_)))
   (revert g;refine oA λX Y=> ?_;subst X;revert Y;intro a0;subst a0)
   refine .d (Ev.a QJ (.j ((zY d E.2.1 (hb.a E.1) hp h9 hs ha).g λv b6 g=> ?_)))
   (revert g;refine oA λa1 h5=> ?_;subst a1)
   exact .a (hJ _ _ _ (.r QJ) (gE ⟨M.a h5,tw ha h9 hs⟩ x (Sm hc) QJ (by rw[hd];rfl) (h5 _ _ b5)))
  refine .j (.k (aa.F (a:=164) QJ y.2.1.1 QJ QJ (.d ((ev y.1 (.r QJ)).g λv t g=> ?_))))
  (revert g;refine oA λa2 a3=> ?_;subst a2;revert a3;intro a4;subst a4)
  refine .d (Ev.a (v:=.H (bu m (b.1.drop (x+1)))) QJ (.j ((wI (d+2) y.2.1 (hb.a y.1) hp h9 hs).g λv n g=>(ai _ g.1 ?_))));refine have M:=g.2;?_
  induction e:dW (bu m (b.1.drop (x+1))) s using QL with
  |true=>exact .a (.a (L (w.a M) (by rw[M _ _ hq,hd,mw,e];rfl)))
  |false=>
   refine .k (.J QJ (M _ _ hq) (Ev.a QJ (bz _ (M _ _ hq) ?_ λb6 c5 g5=>.a (.a (L ((w.a M).c (h1.d n2.2.1) c5) ?_)))))
   ·refine have h6:=oS m (b.1.drop (x+1)) (x+1);?_
    rw[XH] at h6;rw[eY,TC];exact Rp h6 (Rp (Zk _ _) (Rp hl (lB QJ)))
   ·rw[g5,hd,mw,e]
    show _=QG (AO.A (aS (List.reverse (x::_))));rw[UH,gH]
    rfl
 ·(revert g;refine jY λa5 c hc hy a6 hq=> ?_;revert a5;refine oA λw ha=> ?_;subst a6)
  obtain rfl:c=0:=by
   refine have:=RH Wz hy;?_;rwa[UJ,TC,RC,qcj] at this
  refine .f (.qn QJ hq ?_ λp n n4=>hK _ _ _ ?_)
  ·refine have h6:=oS m (b.1.drop 0) 0;?_
   rw[eY,TC];exact bT (QK h6 (QK hl (by decide)))
  ·have:(aS (fi m 0 (b.1.drop 0)).reverse).reverse=aS (fi m 0 b.1):=by
    rw[aS,ZM,qbA]
    rfl
   rw[this] at n4;exact aJ.g w (ai p QJ n4)
end
theorem jB{n x:QN}{s y:QI QN}(h:s++x::y=RE n):x=s.length∧s.length<n:=by
 have a:(RE n)[s.length]?=QG x:=by rw[←h,TN (Sd _),VI];rfl
 refine oE (λl e=> ?_) (Te.mp a);rw[WW] at e;exact⟨e.symm,by rwa[RC] at l⟩
theorem Lf{α:Type}(a:QI α)(x v:α)(c:QI α):(a++x::c).set a.length v=a++v::c:=by
 rw[List.set_append_right _ _ (Sd _),VI]
 rfl
def AF(σ:af)(r:QN)(l:QI (QN×QI QN)):Prop:=σ[r]?=QG (.A (l.map λp=>.B p.1))∧∀p∈l,σ[p.1]?=QG (.A (aS p.2))
noncomputable def km(b:aE)(p:QN×QI QN):aE:=(gR b.1 p.2,b.2)
def ui(s:QI aE)(l:QI (QN×QI QN)):Prop:=s.length=l.length∧∀(k:QN) (b:aE) (p:QN×QI QN),s[k]?=QG b→l[k]?=QG p→p.2.length≤30∧∀i∈p.2,i<b.1.length
theorem JP{C:QN→QI PV→M PV}{κ:ay}{σ:af}{u:PE}{ss:QI ab}{j q:QN}{l:QI QN}(p:Ev C u κ σ (.B q))(F:σ[q]?=QG (.A (aS l)))(G:l.length≤30)(H:∀i∈l,i<ss.length)
  (o:κ.lookup 161=QG (.B j)) (I:σ[j]?=QG (.A (ss.map ab.v))):aa (ak C (.N [25] u (.B (.D QO)) (.C (.A 161) (.A 25))) κ) σ (aJ σ ((gR ss l).map ab.v)):=by
 refine .W (λ(n:QN)=>.A n) l p F (bT (QK G (by decide))) (λs c t=>t=σ∧(∀i∈s,i<ss.length)∧c++(gR ss s).map ab.v=(gR ss l).map ab.v) (aL QJ H QJ) (λZ Z Z h=>h.1▸Le.b _) (λx s c t h=>.i ?_) λc t r w h n=> ?_
 ·(revert h;refine oA λd f=> ?_;subst d;revert f;refine oA λy e=> ?_)
  have E:=Rk (y x (QM ..));refine Ev.a (Ev.g ?_ (by rfl) I (dG x) (by rw[Rn,E];rfl)) (aL QJ (λi h=>y i (QV _ h)) ?_)
  ·show(Wy 161 ((25,.A x)::κ)).map _=_
   rw[Tn];rw[o]
   rfl
  ·rw[←e,gR,gR,WI,E,Rq]
   rfl
 ·(revert h;refine oA λk m=> ?_;subst k;revert m;refine oA λz e=> ?_)
  rw[show gR ss []=[] from QJ,Vm,RD] at e;exact(ai r QJ (e▸n))
theorem HQ{C:QN→QI PV→M PV}{κ:ay}{σ:af}{i j:RW}{r s:QN}{b:QI (QN×PV)}(k:κ.lookup 117=QG (.A i))(c:κ.lookup 25=QG (.A j))(e:κ.lookup 43=QG (.B r))(g:σ[r]?=QG (.C 82 b))(m:bG b 97=QG (.B s))(o:σ[s]?=QG (.B [])):
  Ev C (.H .B (.G [.A 117,.A 25]) (.K (.A 43) 97)) κ σ (.D QR):=by
 have l:∀{n v},κ.lookup n=QG v→Ev C (.A n) κ σ v:=λ{n v} h=>by
  show(κ.lookup n).map _=_;rw[h]
  rfl
 refine Ev.h (x:=.F [.A i,.A j]) ?_ (Ev.f (l e) g m) ?_
 ·exact(eB (cz.a (l k) (cz.a (l c) .d))).trans QJ
 ·show QX (M.f s σ) _=_
  rw[fc o]
  rfl
theorem DG{C:QN→QI PV→M PV}{κ κ':ay}{σ:af}{e:PE}{X r:QI PS}{c:PE}{L:QI QN}{K:Fl→ay→af→Prop}(o:aa (ak C e κ) σ (aJ σ (aS L)))(s:ar κ' κ)(p:∀a b,ar κ' ((25,a)::(73,b)::κ'))
  (t:∀(j:QN) b σ',Le σ σ'→Ev C c ((25,.A j)::(73,b)::κ') σ' (.D QR)) (h:∀σ',Le σ σ'→RS C r κ' σ' K):RS C (.D [73,25] QO e [.C c X []]::r) κ σ K:=by
 refine .i (o.g λv k g=> ?_)
 (revert g;refine ag λq d n=> ?_;subst d)
 have l:(L.zipIdx).length=L.length:=qce;refine .qp n.2.2 ?_;rw[←l];refine RF.a (λ(z:QN×QN)=>.F [.A z.2,.A z.1]) L.zipIdx (λ(Z:UE)=>κ') (λZ Z σ'=>σ'=k) () QJ s QJ (λZ Z σ' g=>(bz (aS L) (g▸n.2.2) (by rw[QP,l,eY]) λj x m=> ?_)) (λx B Z σ' g J u Z=>.mk QJ (.g (t x.1 _ σ' (g▸n.1)) QJ (.a (u () _ _ (p _ _) g)))) λZ σ' g=>h σ' (g▸n.1);rw[aS,Rn] at m
 (refine ag (λy w f=> ?_) (mS m);subst f)
 rw[Rn,YA,w,SG]
 rfl
theorem zo(d:QN){σ:af}{r A rp:QN}{bf:QI PV}{u:QI aE}{H:QI (QN×QI QN)}(Q:aZ σ r A bf u)(hf:dO u)(ht:bf.length≤aR)(hp:AF σ rp H)(a6:ui u H):
  aa (aB (d+3) 214 [.B r,.B rp]) σ λv σ'=>Le σ σ'∧∃q,v=.B q∧aZ σ' q A bf (Zu km u H):=by
 refine bx QJ QJ λK hK=>.d (.k QJ (.d (Ev.a QJ (.j (vn d Q hf ht λq nm rl E rs ps d1 h1 fq c5 g1 g2 g3 g4 g5 g6 g7=> ?_)))));refine .n (.x λs d2 n2=>Ev.a QJ (.B (fs':=[(67,nm),(147,.A A),(115,.B rl),(110,.B E),(97,.B s)]) (n2.1 _ _ g1) QJ QJ λd3 c3 e3=> ?_));have I:E≠q:=λe=>by rw[e,g1] at g4;exact nA g4 QJ
 have a7:rl≠q:=λe=>by rw[e,g1] at g2;exact nA g2 QJ
 refine have h3:=(h1.a n2.1).c fq c3;?_;refine have e4:=c3 _ _ I (n2.1 _ _ g4);?_;refine have e2:=c3 _ _ a7 (n2.1 _ _ g2);?_;refine have es:=c3 _ _ (λe=>by have:=n2.2.1;rw[e,g1] at this;exact bV this) n2.2.2;?_
 (revert Q;refine gP λd4 d5 d6 d7 b1 b2 b3 c6 b4 b5 b6=> ?_)
 refine have O:u.length≤1000:=QK hf.1 (by decide);?_;refine have R:(c6.map bN).length=u.length:=(by rw[QP,←b6,QP]);?_;refine have a8:ps.length=u.length:=(by rw[←g6,QP]);?_;refine .i (.N (Ev.j (Ev.f QJ (h3 _ _ b1) QJ) (h3 _ _ b4)|>λh=>by rw[R] at h;exact h) (⟨RN (by decide) (Rx _),Sz.mpr (QK O (by decide))⟩) (.q (gV O) ?_))
 refine RF.a _ (RE u.length) (λ(Z:UE)=>[(85,.B q),(43,.B r),(118,.B rp)]) (λys Z σ'=>(Le σ σ'∧σ'[q]?=QG (jP nm A rl E s)∧σ'[rl]?=QG (.A bf)∧σ'[s]?=QG (.B []))∧∃S,S++ys=RE u.length∧
   ∃(F:QI Bp) (m:QI PV),σ'[E]?=QG (.A (F.map bN++m))∧F.length=S.length∧m.length=ys.length∧(∀p∈F,cB σ' p∧p.1≠E∧p.2.1≠E)∧F.map (·.2.2)=(Zu km u H).take S.length) () QJ (.r QJ)
  ⟨(cq h3 e3 e2 es),[],QJ,[],ps.map bN,e4,QJ,by rw[QP,RC,a8],λZ h=>Ro h Rb,QJ⟩ (λZ Z Z Z=>QJ) (λx ys Z a9 g J hJ Z=>.i ?_) λZ a9 g=> ?_
 ·(revert g;refine yg λT S C F m U m2 m3 m4 m5=> ?_;revert T;refine cY λP k2 k3 k4=> ?_)
  (refine oA (λV hx=> ?_) (jB C);subst V)
  (refine jx (λy m W=> ?_) ((List.exists_cons_of_length_eq_add_one m3:∃y t,m=y::t));subst W)
  generalize b0:S.length=x at*;refine have Q:=Rk hx;?_;generalize u[x]=b at Q;refine have b7:=Q;?_;rw[←b6,Rn] at b7
  (refine ag (λp0 X a1=> ?_) (mS b7);subst a1)
  refine have a0:=(b5 p0 (Rg X)).a P;?_;refine have c8:x<H.length:=a6.1▸hx;?_;refine have D:=Rk c8;?_;generalize H[x]=p at D;refine have a2:=a6.2 x _ p Q D;?_;refine have b8:=hp.2 p (Rg D);?_;have b9:(H.map λp=>PV.B p.1)[x]?=QG (.B p.1):=by rw[Rn,D];rfl
  refine .l (Ev.a (v:=.B p0.1) (Ev.g (Ev.f QJ (P _ _ b1) QJ) QJ (P _ _ b4) (dG x) (by rw[Rn,X];rfl)) (.p a0.1 ⟨QJ,?_⟩));refine .q (.y (.d ((JP (Ev.g QJ QJ (P _ _ hp.1) (dG x) b9) (P _ _ b8) a2.1 a2.2 QJ a0.2).g λv d8 g=> ?_)))
  (revert g;refine ag λc a3 nc=> ?_;subst a3)
  refine .d (Ev.a QJ (.j (.n (lB QJ) λa d9 na=> ?_)));refine have h6:=nc.1.a na.1;?_;refine Ev.a (Ev.f QJ (h6 _ _ k2) QJ) (Ev.a QJ (.Y (h6 _ _ U) (by rw[QW,QP,m2,Se];exact Tc (Th _)) λc9 c7 c0=> ?_));refine have c1:c≠E:=(bU U nc.2.1).symm;?_;refine have c2:a≠E:=(bU (nc.1 _ _ U) na.2.1).symm;?_;refine have h7:=(P.a h6).c c5 c7;?_;rw[show x=(F.map bN).length from by rw[QP,m2],Lf] at c0;refine have k7:∀{j o},a9[j]?=QG o→j≠E→c9[j]?=QG o:=λh e=>c7 _ _ e (h6 _ _ h);?_;refine DG (κ':=[(43,.B r),(117,.A x),(85,.B q),(118,.B rp)]) (L:=p.2++[p0.2.2.1.length]) ?_ (.r QJ) (λZ Z=>.r QJ) (λj b σ' h=>HQ QJ QJ QJ (h _ _ (h7 _ _ b1)) QJ (h _ _ (h7 _ _ b3))) λc4 G=> ?_
  ·rw[gH]
   refine .t (Ev.a (Ev.g QJ QJ (h7 _ _ hp.1) (dG x) b9) ((aJ.h (cz.a (Ev.j QJ (h7 _ _ (b5 p0 (Rg X)).2)) .d) (lB QJ)).g λv c4 g=> ?_))
   (revert g;refine ag λz a4 nz=> ?_;subst a4)
   show aa (M.a (bZ (.B p.1)) λx=>M.a (bZ (.B z)) λy=>cR (x++y)) c4 _;refine .h (.p (nz.1 _ _ (h7 _ _ b8)) (.h (.p nz.2.2 (.n ?_ λw e0 nw=>aJ.g nz.1 (ai w QJ ?_)))))
   ·rw[QW,eY]
    exact bT (QK (RR a2.1 1) (by decide))
   ·rw[QP] at nw
    exact nw
  ·refine .a (hJ () _ _ (.r QJ) ⟨(cq (h7.a G) (G _ _ (k7 k2 I.symm)) (G _ _ (k7 k3 ?_)) (G _ _ (k7 k4 ?_))),S++[x],(Rq ..).trans C,F++[(a,c,km p0.2.2 p)],m,?_,?_,Ve m3,λz C=> ?_,?_⟩)
   ·exact g7
   ·intro e
    rw[e,U] at k4;exact nA k4 QJ
   ·rw[G _ _ c0,Sg,Rq]
    rfl
   ·rw[QW,QW,m2,b0]
    rfl
   ·(refine oO (λC=> ?_) (λC=> ?_) (mA C))
    ·refine have:=m4 z C;?_
     exact⟨⟨G _ _ (k7 this.1.1 this.2.1),G _ _ (k7 this.1.2 this.2.2)⟩,this.2⟩
    ·obtain rfl:=Mine.m1 C
     exact(aL ⟨G _ _ (c7 _ _ c2 na.2.2),G _ _ (c7 _ _ c1 (na.1 _ _ nc.2.2))⟩ c2 c1)
   ·refine have d0:(Zu km u H)[x]?=QG (km p0.2.2 p):=(by rw[List.getElem?_zipWith,Q,D]);?_
    rw[Sg,m5,QW,b0,TF,Zv,d0]
    rfl
 ·(revert g;refine yg λa5 S C F m U m2 m3 m4 m5=> ?_;revert a5;refine cY λP k2 k3 k4=> ?_)
  obtain rfl:=TX m3;rw[RD] at U C;refine .f (Ev.a QJ (hK _ _ _ ⟨P,q,QJ,nm,rl,E,s,k2,k3,k4,F,U,λp hp=>(m4 p hp).1,?_⟩));rw[m5,C,RC,XT];rw[List.length_zipWith];exact qdC _ _
theorem vF(l:QI (RW×PV))(k:RW)(v:PV):(eD l k v).length≤l.length+1:=by
 unfold eD
 induction l.any λp=>Rc (p.1=k) using QL with
 |true=>
  show(Yz _ l).length≤_;rw[QP];exact Uk _
 |false=>
  show(l++[_]).length≤_;rw[QW];exact Sd _
section
variable{C:QN→QI PV→M PV}{κ:ay}{σ:af}{Q:PV→af→Prop}
theorem aa.qe{ts:QI QN}{D:RG}{E c k e:PE}{U:Type}(f:U→PV)(xs:QI U)(H:QI U→QI (RW×PV)→af→Prop)
  (h:aa (ak C E κ) σ λv σ'=>aa (Sr D (gU v) (dh v)) σ' λs j=>s.2=xs.length∧(s.1.qa=QR∨(c.qa&&k.qa&&e.qa)=QO)∧(∀o acc σ,H o acc σ→gz s.1 (xs.map f) σ)∧H xs [] j)
  (F:∀x o acc σ,H (x::o) acc σ→aa (bL ts (f x) κ) σ λκ' σ'=>RB C c κ' σ' λp j=>(p=QO→aa (ak C k κ') j λa m=>∃i,a=.A i∧aa (ak C e κ') m λy t=>acc.length<aR∧H o (eD acc i y) t)∧(p=QR→H o acc j))
  (G:∀acc σ' r j,H [] acc σ'→fH σ' r (.B acc) j→Q (.B r) j):aa (ak C (.V ts D E c k e) κ) σ Q:=by
 refine .h (h.g λv I q=>.h (q.g λs J q=> ?_));obtain⟨s,n⟩:=s
 (revert q;refine oA λu w=> ?_;subst u;revert w;refine bk λK S L=> ?_)
 refine .l (by(revert K;refine oO (λq=> ?_) (λq=> ?_))<;>rw[q]<;>simp) (.h (oh f xs H S (λx o acc σ' g=> ?_) (λacc σ' g=>.x λr m n=>G acc σ' r m g n) xs [] _ _ QJ L));refine .h ((F x o acc σ' g).g λκ' m q=>.h ((q.d (ar.g _)).g λp t q=> ?_))
 induction p using QL with
 |false=>exact .i (.inr ⟨QJ,q.2 QJ⟩)
 |true=>
  show aa (M.a (ak C k κ') λa=>M.a (cw a) λi=>M.a (ak C e κ') λy=>.c (Tv acc.length aR) (.b (eD acc i y))) t _;refine .h ((q.1 QJ).g λa N q=> ?_)
  (revert q;refine ag λi z q=> ?_;subst z)
  exact .h (.i (.h (q.g λy O q=>.l (Vq.mpr q.1) (.i (.inr ⟨QJ,q.2⟩)))))
theorem aa.V{n:QN}{k:RW}{l:QI (RW×PV)}{v:PV}(a:σ[n]?=QG (.B l))(b:l.length<aR)(q:∀σ',Ch n σ σ'→σ'[n]?=QG (.B (eD l k v))→Q .G σ'):aa (Mine.mz (.B n) (.A k) v) σ Q:=by
 refine .h (.i (.h (.w a ?_)));exact .l (Vq.mpr b) (.L a q)
end
def lF(σ:af)(q n:QN):Prop:=∃s:QI (RW×PV),σ[q]?=QG (.B s)∧s.length≤n
theorem te{C:QN→QI PV→M PV}{κ κ':ay}{σ b:af}{e:PE}{r:QI PS}{L:QI QN}{q n:QN}{K:Fl→ay→af→Prop}(F:aa (ak C e κ) σ λv σ'=>Le σ σ'∧∃p,v=.B p∧σ'[p]?=QG (.A (aS L)))(G:ar κ' κ)(H:∀a,ar κ' ((89,a)::κ'))(t:κ'.lookup 85=QG (.B q))
  (I:Le b σ) (N:b[q]?=RM) (u:lF σ q n) (O:n+L.length≤4000) (h:∀σ',Le b σ'→lF σ' q (n+L.length)→RS C r κ' σ' K):RS C (.D [89] QR e [.A (.C (.A 85) (.A 89)) (.B (.D QO))]::r) κ σ K:=by
 refine .i (F.g λv P g=> ?_)
 (revert g;refine cc λm p d E=> ?_;subst d)
 (revert u;refine ag λk u R=> ?_)
 refine .s E (RF.a _ L (λ(Z:UE)=>κ') (λy Z σ'=>Le b σ'∧σ'[p]?=QG (.A (aS L))∧∃k:QI (RW×PV),σ'[q]?=QG (.B k)∧k.length+y.length≤n+L.length) () QJ G
  (jV (I.a m) E k (m _ _ u) (RR R _)) (λZ Z σ' g=>g.2.1) (λx y Z σ' g J S Z=>.i ?_) λZ σ' g=> ?_)
 ·(revert g;refine gM λw l f o j=> ?_)
  have j:f.length+(y.length+1)≤n+L.length:=j
  have z:Ev C (.A 85) ((89,.A x)::κ') σ' (.B q):=by
   show(Wy 85 ((89,PV.A x)::κ')).map _=_;rw[Tn];rw[t]
   rfl
  refine .q (Ev.a QJ (Ev.a z (Ev.a QJ (.V o (Rj (Xz (QK (Sh _ _) (QK j O)):f.length<4001) (lB QJ)) λT c e=>.a (S () _ _ (H _) (jV (w.c N c) (c _ _ (λe=> ?_) l) _ e ?_))))))
  ·rw[e,o] at l
   exact nA l QJ
  ·exact QK (RR (vF f x (.D QO)) y.length) (QK (Sx (RO f.length 1 y.length)) j)
 ·(revert g;refine gM λw l f o j=> ?_)
  exact h σ' w (ai f o j)
theorem aJ.i{σ σ':af}{l:QI PV}{v:PV}(h:aJ σ l v σ'):Le σ σ'∧∃p,v=.B p∧σ'[p]?=QG (.A l):=
 h.elim λp h=>(cE h.2.1 p h.1 h.2.2.2)
theorem HI(d:QN){σ:af}{r A:QN}{bf:QI PV}{bs:QI aE}(hb:aZ σ r A bf bs)(hf:dO bs)(hA:A≤8):aa (aB (d+4) 209 [.B r]) σ λv σ'=>Le σ σ'∧∃q,v=.B q:=by
 (revert hb;refine gP λnm rl rb rs h1 H O ps h4 h5 P=> ?_;clear H;clear O;subst P)
 have a0:dh (.I 0 ((A:RW)+1) 1)=M.b (.A ((RE (A+1)).map λ(j:QN)=>.A j),(RE (A+1)).length):=gV (n:=A+1) (by exact Rp hA (by decide))
 refine bx (pf:=sI) (κ:=[(43,.B r)]) (by kernel_rfl) (by kernel_rfl) λK hK=>.d (.qe (λ(n:QN)=>.A n) (RE (A+1)) (λR u σ'=>σ'=σ∧u.length+R.length≤9)
  (.N (a:=(A:RW)+1) (Ev.i (x:=.A A) (y:=.A 1) (Ev.f (n:=r) (by kernel_rfl) h1 (by kernel_rfl)) (by kernel_rfl) QJ) (by exact⟨RN (by decide) (Rx _),Ug.mpr (Rp hA (by decide))⟩) (.q a0 (qQ QJ (.inl QJ) (λZ Z Z Z=>QJ) QJ (by rw[RC];exact QK (Sx (SG _)) (Tg hA)))))
  (λx R u σ' g=>.i (Ev.d (b:=QO) QJ ⟨λZ=>Ev.a (v:=.A x) QJ (ai x QJ (Ev.a (v:=.D QO) QJ (aL ?_ g.1 ?_))),nofun⟩)) λu σ' q a3 g n=> ?_)
 ·exact Rj (Rj (Rj (Tc (Th _)) g.2) (Sd 9)) (lB QJ)
 ·exact QK (RR (vF u x (.D QO)) _) (by rw[qaZ];exact g.2)
 ·(revert g;refine oA λS g=> ?_;subst S)
  have hl:ps.length≤10:=by
   have:=hf.1;rwa[QP] at this
  refine .i (Ev.a (v:=.B rb) (Ev.f (n:=r) (by kernel_rfl) (n.1 _ _ h1) (by kernel_rfl)) ?_);refine .s (n.1 _ _ h4) ?_
  refine RF.a bN ps (λ(Z:UE)=>[(85,.B q)]) (λR Z z=>Le σ' z∧(∃a,lF z q a∧a+100*R.length≤1009)∧∀p∈R,p∈ps) () QJ (.c QJ .d)
   (aL n.1 (ai 9 (ai u n.2.2 g) (Si (Td 100 hl) 9)) λZ h=>h) (λZ Z z g=>g.1 _ _ h4) (λx R Z z g J hJ Z=> ?_) λZ z g=>.f (Ev.a (v:=.B q) (by kernel_rfl) (hK _ _ _ ⟨g.1,q,QJ⟩))
  (revert g;refine bk λk1 T k4=> ?_;revert T;refine ag λa k2 k3=> ?_)
  have k3:a+100+100*R.length≤1009:=by rw[Se,qbt] at k3;rwa[TQ,UN 100]
  have ka:a+100≤1009:=QK (Sh _ _) k3;have hx:=k4 x (QM ..);have ax:=(h5 x hx).a k1;have Y:=hf.2 _ (Up hx);refine .mk (pF ax.1) (.i (Ev.a (v:=.B x.2.1) QJ ?_));refine .s ax.2 ?_
  refine RF.a ab.v x.2.2.1 (λ(Z:UE)=>[(163,x.2.2.2.v),(85,.B q)]) (λzs Z t=>Le σ' t∧t[x.2.1]?=QG (.A (x.2.2.1.map ab.v))∧∃c,lF t q c∧c+3*zs.length≤a+90) () QJ (.r QJ)
   (jV k1 ax.2 a k2 (Si (Td 3 Y) a)) (λZ Z t g=>g.2.1) (λs zs Z t g J' a1 Z=>.i ?_) λZ t g=> ?_
  ·(revert g;refine gM λm1 m2 c U F=> ?_)
   have F:c+3+3*zs.length≤a+90:=by rw[Se,qbt] at F;rwa[TQ,UN 3]
   have m5:c+3≤4000:=QK (QK (Sh _ _) F) (QK (Si (by decide) a) (QK ka (by decide)))
   have E:∀{k κ e},Le σ' e→ar [(163,x.2.2.2.v),(85,.B q)] κ→k≤3→lF e q (c+k)→J' .A κ e:=λ{k κ e} G gs gc V=>
    a1 () _ _ gs (jV G (G _ _ (h5 x hx).2) _ V (QK (RR (Si gc c) _) F))
   induction s using ab.casesOn with
   |C=>exact .m (b:=QR) (by kernel_rfl) QJ (.m (b:=QR) (by kernel_rfl) QJ (.a (.b (.b (E (k:=0) m1 (.r QJ) (by decide) U)))))
   |B o=>exact .m (b:=QR) (by kernel_rfl) QJ (.h (b:=QO) (by kernel_rfl) QJ (te (κ':=[(163,x.2.2.2.v),(85,.B q)]) ((rX (d+1) (o:=o) (by kernel_rfl)).g λZ Z h=>h.i) (.r QJ) (λZ=>.r QJ) QJ m1 n.2.1 U
     (QK (Si (QK (dB o) (by decide)) c) m5) λe G V=>.a (.b (.b (E G (ar.g _) (QK (dB o) (by decide)) V)))))
   |A l X=>
    have hr:(X.rd++[l]).length≤3:=by rw[QW];exact RR (pb X) 1
    refine .h (b:=QO) (by kernel_rfl) QJ (te (κ':=[(163,x.2.2.2.v),(85,.B q)]) (L:=X.rd++[l]) ?_ (.r QJ) (λZ=>.r QJ) QJ m1 n.2.1 U (QK (Si hr c) m5) λe G V=>.a (.b (E G (ar.g _) hr V)));rw[gH];exact aa.g (aJ.f (.k (a:=140) (by kernel_rfl) (.d (Ev.a (v:=X.v) (by kernel_rfl) (.j (zE d t X))))) (λe Z=>.k (a:=126) (by kernel_rfl) (.d (Ev.a (v:=dg l) (by kernel_rfl) (.j (tN (d+2) e (by kernel_rfl)))))) (bT (by rw[eY];exact QK (RR (pb X) 1) (by decide)))) λZ Z h=>h.i
  ·(revert g;refine gM λm1 m2 c U F=> ?_)
   refine bq (λw l hw a2=> ?_) (tK x.2.2.2);have hr:=Aj x.2.2.2;refine .d (aa.g (aJ.f (l':=[]) (.k (a:=147) (by kernel_rfl) (.d (Ev.a (v:=x.2.2.2.v) (by kernel_rfl) (.j (Ag (d) t x.2.2.2))))) (λe Z=>.v (Ev.d (b:=w==46) (by rw[hw];kernel_rfl) (by rw[a2];exact aJ.a QJ))) (bT (by rw[eY];exact QK hr (by decide)))) λv e g=> ?_);rw[RD] at g
   (revert g;refine ag λp W np=> ?_;subst W)
   have F:c≤a+90:=F;have m6:c+x.2.2.2.rd.length≤a+100:=QK (SR F hr) (by show a+91≤a+100;exact Si (by decide) a)
   (revert U;refine ag λkv m5 U=> ?_)
   exact te (κ':=[(85,.B q)]) (n:=c) (Ev.a (v:=.B p) QJ (cE (Le.b _) p QJ np.2.2)) (.c QJ .d) (λZ=>.c QJ .d) QJ (m1.a np.1) n.2.1 (ai kv (np.1 _ _ m5) U) (QK m6 (QK ka (by decide))) λa4 G V=>.a (hJ () _ _ (.c QJ .d)
    (aL G (ai _ V (QK (RR m6 _) k3)) λp hp=>k4 p (QV _ hp)))
noncomputable def fU:QN→QI ab→QI QN
 |Z,[]=>[]
 |i,s::r=>Sr s.qc (fU (i+1) r) (i::fU (i+1) r)
set_option autoImplicit true in
theorem oR:fU i (s::r)=Sr s.qc (fU (i+1) r) (i::fU (i+1) r):=QJ
noncomputable def eG(ss:QI ab):QI ab:=ss.filter λs=> !s.qc
theorem zc(ss:QI ab):∀(r:QI ab) (i:QN),ss.drop i=r→gR ss (fU i r)=eG r
 |[],Z,U=>QJ
 |s::r,i,h=>by
  have b:ss[i]?=QG s:=by
   have:=RH (·[0]?) h;simpa using this
  have c:ss.drop (i+1)=r:=by
   have:=RH List.tail h;simpa using this
  have a:=zc ss r (i+1) c;rw[oR,eG,TU]
  induction s.qc using QL with
  |true=>exact a
  |false=>
   show qaw _ (i::_)=_;rw[WI,b];exact RH (s::·) a
theorem zj:∀(r:QI ab) (i:QN),(fU i r).length≤r.length
 |[],Z=>Sd _
 |s::r,i=>by
  rw[oR];have:=zj r (i+1)
  induction s.qc using QL with
  |true=>exact Sw this
  |false=>exact Tg this
theorem zk:∀(r:QI ab) (i:QN),∀x∈fU i r,x<i+r.length
 |[],Z,U,h=>Ro h Rb
 |s::r,i,x,h=>by
  rw[oR] at h;have b:=zk r (i+1) x;rw[Se,←qaZ]
  induction e:s.qc using QL with
  |true=>
   rw[e] at h;exact b h
  |false=>
   rw[e] at h
   (refine oO (λa=> ?_) (λh=> ?_) (mC h)<;>try subst a)
   ·exact Rj (TB _) (Sh _ _)
   ·exact b h
noncomputable def dz(s:QI aE)(b:aE):aE:=(eG (dK (cn (bt (bO s)) b.2) b.1),b.2)
noncomputable def xx(s:QI aE)(b:aE):aE:=(dK (cn (bt (bO s)) b.2) b.1,b.2)
theorem oa(m:QN):∀ss:QI ab,(dK m ss).length≤ss.length
 |[]=>Sd _
 |s::r=>by
  rw[ik]
  induction dW (bu m r) s using QL with
  |true=>exact Sw (oa m r)
  |false=>exact Tg (oa m r)
theorem AB{s:QI aE}{f:aE→QI QN}{l:QI (QN×QI QN)}(h:l.map (·.2)=s.map f):Zu km s l=s.map λb=>(gR b.1 (f b),b.2):=by
 induction s generalizing l with
 |nil=>rfl
 |cons b s i=>
  induction l using Rm with
  |nil=>exact nomatch h
  |cons p l=>
   refine have h:=VE h;?_;refine have e:p.2=f b:=h.1;?_;rw[List.zipWith_cons_cons,i h.2,km,e,Tq]
theorem zg{s:QI aE}{f:aE→QI QN}{l:QI (QN×QI QN)}(h:l.map (·.2)=s.map f)(c:∀b∈s,(f b).length≤30∧∀i∈f b,i<b.1.length):ui s l:=by
 refine⟨by have:=RH Wz h;rw[QP,QP] at this;exact this.symm,λk b p a d=> ?_⟩
 have e:p.2=f b:=by
  have:=RH (·[k]?) h;simp only[Rn,a,d,qcu,qaR] at this;exact this
 rw[e];exact c b (Rg a)
def eM(σ:af)(p:QN)(f:aE→QI QN)(s:QI aE)(l:QI PV):Prop:=∃a:QI (QN×QI QN),l=a.map (λp=>.B p.1)∧(∀z∈a,σ[z.1]?=QG (.A (aS z.2))∧z.1≠p)∧a.map (·.2)=s.map f
theorem eM.b(σ:af)(p:QN)(f:aE→QI QN):eM σ p f [] []:=(bz ([]) QJ (λZ h=>Ro h Rb) QJ)
theorem eM.c{σ σ':af}{p:QN}{o:AO}{f:aE→QI QN}{s:QI aE}{b:aE}{l:QI PV}{v:PV}(h:eM σ p f s l)(i:σ[p]?=QG o)(n:aJ σ (aS (f b)) v σ'):eM σ' p f (s++[b]) (l++[v]):=by
 (revert h;refine ag λj e r=> ?_;subst e;revert r;refine oA λg k=> ?_)
 (revert n;refine ag λq a n=> ?_;subst a)
 refine(bz (j++[(q,f b)]) (by rw[Sg];rfl) (λz d=> ?_) (by rw[Sg,k,Sg];rfl))
 (refine oO (λd=> ?_) (λd=> ?_) (mA d))
 ·exact⟨n.1 _ _ (g z d).1,(g z d).2⟩
 ·obtain rfl:=m1 d
  exact⟨n.2.2,(bU i n.2.1).symm⟩
theorem eM.a{σ σ':af}{p:QN}{f:aE→QI QN}{s:QI aE}{l:QI PV}(h:eM σ p f s l)(g:Ch p σ σ'):eM σ' p f s l:=
 h.elim λc h=>(bz c h.1 (λz b=>⟨g _ _ (h.2.1 z b).2 (h.2.1 z b).1,(h.2.1 z b).2⟩) h.2.2)
theorem Le.toCh{σ σ':af}{p:QN}(h:Le σ σ'):Ch p σ σ':=λj o Z e=>h j o e
theorem FP{C:QN→QI PV→M PV}{d:QN}(h:C=aB (d+1)){κ:ay}{σ:af}{s:ab}{v:PV}{Q:RG→af→Prop}(e:Ev C (.C (.A 161) (.A 25)) κ σ s.v)(b:Ev C (.A 90) κ σ v)(q:Q (!s.qc) σ):RB C (.T (.F (.D 130) [.C (.A 161) (.A 25),.A 90])) κ σ Q:=
 .k (aa.k QJ (.d (e.a (.d (b.a (.j (.q (by rw[h];exact FX d s v) (ai _ QJ q))))))))
theorem HR(d:QN){κ:ay}{σ:af}{ss:QI ab}{j:QN}{v:PV}(I:σ[j]?=QG (.A (ss.map ab.v)))(E:ss.length≤30)(b:κ.lookup 161=QG (.B j))(G:κ.lookup 90=QG v):
  aa (ak (aB (d+1)) (.N [25] (.F (.D 96) [.F (.D 33) [.A 161]]) (.T (.F (.D 130) [.C (.A 161) (.A 25),.A 90])) (.A 25)) κ) σ (aJ σ (aS (fU 0 ss))):=by
 have H:∀{κ:ay} {n v},κ.lookup n=QG v→Ev (aB (d+1)) (.A n) κ σ v:=λ{κ n v} h=>by
  show(κ.lookup n).map _=_;rw[h]
  rfl
 have J:ss.length≤1000:=QK E (by decide)
 have P:Ev (aB (d+1)) (.F (.D 33) [.A 161]) κ σ (.A ss.length):=by
  have:=Ev.j (H b) I;rwa[QP] at this
 refine .K (.N P (⟨RN (by decide) (Rx _),Sz.mpr (QK J (by decide))⟩) (.q (gV J) ⟨.inl QJ,?_⟩))
 refine aa.T _ (RE ss.length) (λL c t=>t=σ∧∃z,z++L=RE ss.length∧c++aS (fU z.length (ss.drop z.length))=aS (fU 0 ss)) (by rw[RC];exact bT (QK E (by decide)))
  (cE QJ ([]) QJ QJ) (λZ Z Z Z=>QJ) (λx L c t g=>.i ?_) λc t u g=> ?_
 ·(revert g;refine oA λf k=> ?_;subst f;revert k;refine ag λz p e=> ?_)
  (refine oA (λl M=> ?_) (jB p);subst l)
  have Q:ss.drop z.length=ss[z.length]::ss.drop (z.length+1):=Xp M;have y:(ss.map ab.v)[z.length]?=QG ss[z.length].v:=by rw[Rn,Rk M];rfl
  rw[Q,oR] at e;generalize ss[z.length]=s at e y
  have O:∀{n v w},κ.lookup n=QG w→(n==25)=QR→Wy n ((25,v)::κ)=QG w:=λ{n v w} h e=>by
   rw[Tn,e];exact h
  refine FP QJ (Ev.g (H (O b QJ)) QJ I (dG _) y) (H (O G QJ)) ?_
  induction u:s.qc using QL with
  |true=>
   rw[u] at e;exact(cE QJ (z++[z.length]) ((Rq ..).trans p) (by rw[QW];exact e))
  |false=>
   rw[u] at e;rw[qdG,WC];refine Ev.a QJ (cE QJ (z++[z.length]) ((Rq ..).trans p) ?_);rw[QW,Rq];exact e
 ·(revert g;refine oA λm o=> ?_;subst m;revert o;refine ag λz p e=> ?_)
  rw[RD] at p;rw[p,RC,ZO,show aS (fU ss.length [])=[] from QJ,RD] at e;rw[RC] at u;exact .n (bT (QK u (QK E (by decide)))) λr R n=>(ai r QJ (e▸n))
theorem Dw(d:QN){σ:af}{q A:QN}{L:QI PV}{M:QI aE}(C:aZ σ q A L M)(D:dO M)(ht:L.length≤aR)(hA:A≤8){K:Fl→ay→af→Prop}{κ:ay}(N:ar [(85,.B q)] κ)
  (hK:∀v κ σ',Le σ σ'→∀W,v=.B W→aZ σ' W A L (M.map λb=>(eG b.1,b.2))→K (.B v) κ σ'):RS (aB (d+5)) (oQ.Qu.drop 3) κ σ K:=by
 refine .p N (.l (.I (.d (.k QJ (.d (Ev.a QJ (.j ((HI (d+1) C D hA).g λv a0 g=>.d ((aJ.a QJ).g λv' a1 h=> ?_)))))))))
 (revert g;refine kX λX w n=> ?_;subst n)
 (revert h;refine ag λp o O=> ?_;subst o)
 refine have P:=X.a O.1;?_;refine have Q:=C;?_
 (revert C;refine gP λnm rl rb rs b1 b2 b3 R Y b5 t=> ?_;subst t)
 refine .j (.z (lB QJ) (.mk QJ ⟨QJ,.i (Ev.a (Ev.f QJ (P _ _ b1) QJ) ?_)⟩));refine have fp:=X.d O.2.1;?_
 refine .s (P _ _ Y) (RF.a bN R (λ(Z:UE)=>[(118,.B p),(90,.B w),(85,.B q)]) (λys Z σ'=>Le σ σ'∧∃y,y++ys=R∧∃e,σ'[p]?=QG (.A e)∧e.length=y.length∧eM σ' p (λb=>fU 0 b.1) (y.map (·.2.2)) e) () QJ (.r QJ)
  (jk P ([]) QJ ([]) O.2.2 QJ (eM.b ..)) (λZ Z σ' g=>g.1 _ _ Y) (λx ys Z S g J hJ Z=> ?_) λZ S g=> ?_)
 ·(revert g;refine jZ λE y m e F hl T=> ?_)
  have hx:x∈R:=by rw[←m];exact SF _ (QM ..)
  refine have ax:=(b5 x hx).a E;?_;refine .mk (pF ax.1) (.k (.J QJ F ((HR (d+4) ax.2 (D.2 _ (Up hx)) QJ QJ).g λv a2 n4=> ?_)));refine have h4:=n4.i.1;?_;refine(bz e (h4 _ _ F) ?_ λU c5 e5=>.a (hJ () _ _ (.r QJ) (jk ((E.a h4).c fp c5) (y++[x]) ((Rq ..).trans m) _ e5 ?_ ?_)))
  ·have:e.length≤10:=by
    refine have G:=D.1;?_;rw[QP,←m,QW] at G;rw[hl];exact QK (Sh _ _) G
   exact Rp this (lB QJ)
  ·rw[QW,QW,hl]
   rfl
  ·rw[Sg]
   exact(T.c F n4).a c5
 ·(revert g;refine jZ λE y m e F V T=> ?_)
  rw[RD] at m;obtain⟨pl,rfl,p1,p2⟩:=m▸T;refine .f (.k QJ (.d (Ev.a QJ (.d (Ev.a QJ (.j ((zo (d+2) (Q.a E) D ht ⟨F,λz m=>(p1 z m).1⟩ (zg p2 λb C=>⟨QK (zj _ _) (D.2 b C),λi hi=>by have:=zk _ _ i hi;rwa[SG] at this⟩)).g λv U g=> ?_)))))))
  (revert g;refine cc λh5 q1 u H=> ?_;subst u)
  rw[AB p2,WH λb Z=>by rw[zc b.1 b.1 0 QJ]] at H;exact hK _ _ _ (E.a h5) q1 QJ H
theorem vw(d:QN){σ:af}{r A:QN}{M:QI PV}{s:QI aE}(o:aZ σ r A M s)(hp:iY M)(S:M.length≤9)(m:dO s)(t:dy M.length s)(hA:A≤8):
  aa (aB (d+6) 219 [.B r]) σ λv σ'=>Le σ σ'∧∃q,v=.B q∧aZ σ' q A M (s.map (dz s)):=by
 have O:=bT (QK S (by decide));have w:s.length≤1000:=QK m.1 (by decide);refine bx (pf:=oQ) (κ:=[(43,.B r)]) (by kernel_rfl) (by kernel_rfl) λK hK=>.d (.u (g:=.B 200) (by kernel_rfl) (.d (Ev.a (v:=.B r) (by kernel_rfl) (.j (Ms (d+4) o m λu le bg a2 h1 hu T P=> ?_)))));refine .k (.F (n:=u) (a:=190) (by kernel_rfl) hu.1 (by kernel_rfl) (by kernel_rfl) (.j ((Ea d o hp S m t (aL h1 hu P) T).g λv a3 g=> ?_)));have U:=g.2;refine dw (λrb vs hv V Q a1=> ?_) (o.b);have W:(bO s).length=s.length∧∀x∈bO s,x<512:=⟨rA _ _,GU S t⟩;refine .d (.k (a:=214) (by kernel_rfl) (.d (Ev.a (v:=.B r) (by kernel_rfl) (.d (.K (.N (a:=s.length) (Q▸Ev.j (hv U.1 (by kernel_rfl)) (U.1 _ _ V)) (by exact⟨RN (by decide) (Rx _),Sz.mpr (QK w (by decide))⟩) (.q (gV w) ⟨.inl QJ,?_⟩)))))))
 refine aa.qh _ (RE s.length) (λys C σ'=>dN σ σ' u r le bg (bO s)∧∃y,y++ys=RE s.length∧eM σ' u (λb=>fi (cn (bt (bO s)) b.2) 0 b.1) (s.take y.length) C) (by rw[RC];exact bT (QK m.1 (by decide)))
  (cE U ([]) QJ (eM.b ..)) (λZ Z Z Z=>QJ) (λx ys C X g=>.i ?_) λC X hl g=> ?_
 ·(revert g;refine cc λh y D p=> ?_)
  (refine oA (λE hx=> ?_) (jB D);subst E)
  have f:=Rk hx;refine .F (n:=u) (a:=197) (by kernel_rfl) h.2.1.1 (by kernel_rfl) (by kernel_rfl) (.d (Ev.a (v:=.A y.length) (by kernel_rfl) (.j ((Gv d o hp S m t h W f).g λv Y n=>(cE (h.a n.i.1) (y++[y.length]) ((Rq ..).trans D) ?_)))));rw[QW,TF,Zv,f];exact p.c (b:=s[y.length]) h.2.1.1 n
 ·(revert g;refine cc λh y D p=> ?_)
  rw[RD] at D;rw[D,RC,Wk] at p;refine .n (by rw[RC] at hl;exact bT (QK hl (QK m.1 (by decide)))) λrp Y n4=>.j ?_
  (refine ag (λpl G H=> ?_) (p.a n4.1.toCh);subst G;revert H;refine oA λp1 p2=> ?_)
  have R:=h.a n4.1;refine(zo (d+2) (o.a R.1) m O ⟨n4.2.2,λz D=>(p1 z D).1⟩ (zg p2 λb o=>⟨QK (oS _ _ _) (m.2 b o),λi hi=>by have:=zl _ _ _ i hi;rwa[SG] at this⟩)).g λv a4 g=> ?_
  (revert g;refine cc λh5 q1 I J=> ?_;subst I)
  rw[AB p2] at J;have e1:(s.map λb=>((gR b.1 (fi (cn (bt (bO s)) b.2) 0 b.1),b.2):aE))=s.map (xx s):=WH λb Z=>by rw[zf _ b.1 b.1 0 QJ];rfl
  rw[e1] at J
  have a0:dO (s.map (xx s)):=⟨by rw[QP];exact m.1,λb o=>by
   (refine ag (λc hc L=> ?_) (mM o);subst L)
   exact QK (oa _ _) (m.2 c hc)⟩
  refine Dw d J a0 O hA (.c QJ .d) λv κ σ' l q' e f=>hK _ _ _ (cE ((R.1.a h5).a l) q' e ?_);rw[UM] at f;exact f
section
variable{α:Type}
noncomputable def aM(l:QI (QN×α))(k:QN):Rz α:=(l.find? λp=>Rc (p.1=k)).map (·.2)
noncomputable def bJ(l:QI (QN×α))(k:QN)(v:α):QI (QN×α):=
 Sr (l.any λp=>Rc (p.1=k)) (l.map λp=>Sr (Rc (p.1=k)) (p.1,v) p) (l++[(k,v)])
noncomputable def dH(l:QI (QN×α))(k:QN):QI (QN×α):=l.filter λp=> !Rc (p.1=k)
noncomputable def bl(f:α→PV)(l:QI (QN×α)):QI (RW×PV):=l.map λp=>((p.1:Int),f p.2)
theorem iG(a b:QN):Rc ((a:RW)=(b:RW))=Rc (a=b):=WB.mpr qdX
theorem uq(f:α→PV)(l:QI (QN×α))(k:QN):((bl f l).any λp=>Rc (p.1=(k:RW)))=l.any λp=>Rc (p.1=k):=by
 rw[bl,List.any_map];exact RH (l.any ·) (XW λp=>iG p.1 k)
theorem gB(f:α→PV)(l:QI (QN×α))(k:QN):bG (bl f l) (k:RW)=(aM l k).map f:=by
 rw[bG,bl,qdE,aM,qaf,qaf];rw[show((λp:RW×PV=>Rc (p.1=(k:RW)))∘λp:QN×α=>((p.1:RW),f p.2))=λp=>Rc (p.1=k) from XW λp=>iG p.1 k]
 rfl
theorem lq(f:α→PV)(l:QI (QN×α))(k:QN)(v:α):eD (bl f l) (k:RW) (f v)=bl f (bJ l k v):=by
 rw[eD,uq,bJ]
 induction l.any λp=>Rc (p.1=k) using QL with
 |true=>
  show Yz _ (bl f l)=bl f (Yz _ l);rw[bl,bl,UM,UM];refine WH λp Z=> ?_;show Sr (Rc ((p.1:RW)=k)) _ _=_;rw[iG];show _=(((Sr (Rc (p.1=k)) (p.1,v) p).1:RW),f (Sr (Rc (p.1=k)) (p.1,v) p).2)
  induction Rc (p.1=k) using QL<;>rfl
 |false=>
  show bl f l++[_]=bl f (l++[_]);rw[bl,bl,Sg]
  rfl
theorem vA(f:α→PV)(l:QI (QN×α))(k:QN):ib (bl f l) (k:RW)=bl f (dH l k):=by
 rw[ib,bl,dH,bl,List.filter_map];exact RH (λg=>Yz _ (List.filter g l)) (XW λp=>RH (!·) (iG p.1 k))
theorem lN(l:QI (QN×α))(k:QN):(l.any λp=>Rc (p.1=k))=(aM l k).isSome:=by
 rw[aM,YX,List.isSome_find?]
theorem FJ(f:α→PV)(l:QI (QN×α))(k:QN):((bl f l).any λp=>p.1==(k:RW))=(aM l k).isSome:=by
 rw[←lN,←uq f]
 rfl
theorem gf(l:QI (QN×α))(k:QN)(v:α)(j:QN):aM (bJ l k v) j=if j=k then QG v else aM l j:=by
 unfold bJ
 induction h:l.any λp=>Rc (p.1=k) using QL with
 |true=>
  show aM (l.map λp=>Sr (Rc (p.1=k)) (p.1,v) p) j=_;rw[lN] at h;rw[aM,qdE,qaf]
  have e:((λp:QN×α=>Rc (p.1=j))∘λp=>Sr (Rc (p.1=k)) (p.1,v) p)=λp=>Rc (p.1=j):=XW λp=>by
   show Rc ((Sr (Rc (p.1=k)) (p.1,v) p).1=j)=_
   induction Rc (p.1=k) using QL<;>rfl
  rw[e]
  by_cases hj:j=k
  ·rw[SH hj,hj]
   rw[aM,YX] at h
   induction hf:l.find? λp=>Rc (p.1=k) using QQ with
   |none=>rw[hf] at h;exact aD h
   |some p=>
    have:=Yj hf;show QG (Sr (Rc (p.1=k)) (p.1,v) p).2=_;rw[show Rc (p.1=k)=QO from this]
    rfl
  ·rw[SK hj,aM]
   induction hf:l.find? λp=>Rc (p.1=j) using QQ with
   |none=>rfl
   |some p=>
    have hp:=Yj hf;have hp:p.1=j:=Rl hp;show QG (Sr (Rc (p.1=k)) (p.1,v) p).2=_;rw[RJ (λe=>hj (hp.symm.trans e))]
    rfl
 |false=>
  show aM (l++[(k,v)]) j=_;rw[lN] at h;rw[aM,List.find?_append]
  by_cases hj:j=k
  ·rw[SH hj,hj]
   rw[aM,YX] at h
   induction hf:l.find? λp=>Rc (p.1=k) using QQ with
   |none=>
    rw[qcI];rw[TP,Ry QJ]
    rfl
   |some p=>rw[hf] at h;exact fT h
  ·rw[SK hj,aM]
   induction hf:l.find? λp=>Rc (p.1=j) using QQ with
   |some p=>rfl
   |none=>
    rw[qcI];rw[TP,RJ (λe=>hj e.symm)]
    rfl
theorem oT(l:QI (QN×α))(k:QN)(v:α):(bJ l k v).length≤l.length+1:=by
 unfold bJ
 induction l.any λp=>Rc (p.1=k) using QL with
 |true=>
  show(Yz _ l).length≤_;rw[QP];exact Uk _
 |false=>
  show(l++[_]).length≤_;rw[QW];exact Sd _
def cg(l:QI (QN×α)):Prop:=(l.map (·.1)).Nodup
theorem Ao{l:QI (QN×α)}(h:cg l)(k:QN)(v:α):cg (bJ l k v):=by
 unfold bJ cg
 induction e:l.any λp=>Rc (p.1=k) using QL with
 |true=>
  show((l.map λp=>Sr (Rc (p.1=k)) (p.1,v) p).map (·.1)).Nodup;rw[UM]
  have:((·.1)∘λp:QN×α=>Sr (Rc (p.1=k)) (p.1,v) p)=(·.1):=XW λp=>by
   show(Sr (Rc (p.1=k)) (p.1,v) p).1=_
   induction Rc (p.1=k) using QL<;>rfl
  rw[this];exact h
 |false=>
  show((l++[(k,v)]).map (·.1)).Nodup;rw[Sg];refine VY.mpr (aL h (SO.mpr ⟨Rb,UD⟩) λa f b d q=> ?_)
  (refine ag (λp g c=> ?_) (mM f);subst c)
  have d:b=k:=m1 d;have:=Zx.mp e p g;exact this (Ry (q.trans d))
theorem pE{l:QI (QN×α)}(h:cg l)(f:QN×α→RG):cg (l.filter f):=List.Nodup.sublist ((List.filter_sublist).map _) h
theorem gg{l:QI (QN×α)}{k:QN}{v:α}(h:aM l k=QG v):(k,v)∈l:=by
 rw[aM] at h
 (refine ag (λp b a=> ?_) (mS h);subst a)
 have e:=Yj b;have e:p.1=k:=Rl e;exact e▸VJ b
theorem ji{l:QI (QN×α)}(b:cg l){p:QN×α}(h:p∈l):aM l p.1=QG p.2:=by
 induction l with
 |nil=>exact Ro h Rb
 |cons q l i=>
  rw[aM,TP];refine have u:=SO.mp b;?_
  (refine oO (λa=> ?_) (λh=> ?_) (mC h)<;>try subst a)
  ·rw[Ry QJ]
   rfl
  ·refine have m:p.1∈l.map (·.1):=Up h;?_
   rw[RJ λe:q.1=p.1=>u.1 (by show q.1∈_;rw[e];exact m)];exact i u.2 h
end
abbrev Kn:=QI (QN×QN)
noncomputable def nV(n:QN):PV:=.A n
noncomputable def cD(k:Kn):ae→ae
 | .A l=>.A ((aM k l).getD l)
 | .B b v=>.B b v
 | .C l i=>.C l i
set_option autoImplicit true in
theorem zv:cD k (.A l)=.A ((aM k l).getD l):=QJ
noncomputable def ab.qf(k:Kn):ab→ab
 | .A l r=>.A l (r.qb (cD k))
 | .B o=>.B (cD k o)
 | .C=>.C
noncomputable def Tm.qf(k:Kn):Tm→Tm
 | .C o s d=>.C (cD k o) s d
 | .D o b=>.D (cD k o) b
 | .A=>.A
 | .B=>.B
 | .F b=>.F b
noncomputable def cV(k:Kn)(l:QN):Kn:=k.filter λp=> !Rc (p.1=l)&& !Rc (p.2=l)
def cU(σ:af)(q:QN)(k:Kn):Prop:=σ[q]?=QG (.B (bl nV k))
section
variable{C:QN→QI PV→M PV}{κ:ay}{σ:af}{Q:PV→af→Prop}
theorem FZ{q l:QN}{α:Type}{f:α→PV}{k:QI (QN×α)}(h:σ[q]?=QG (.B (bl f k))):eC .B (.A l) (.B q) σ=QG ((aM k l).isSome,σ):=by
 rw[xf h,FJ]
theorem rI{q l:QN}{α:Type}{f:α→PV}{k:QI (QN×α)}(h:σ[q]?=QG (.B (bl f k))):eC .D (.A l) (.B q) σ=QG (!(aM k l).isSome,σ):=by
 show QX (eC .B (.A l) (.B q) σ) _=_;rw[FZ h]
 rfl
theorem aa.qr{e:PE}(h:aa (ak C e κ) σ λv σ'=>aa (fV v) σ' λl a=>l.length≤aR∧Q (.F l) a):aa (ak C (.F (.D 99) [e]) κ) σ Q:=
 .u QJ (.d (h.g λv σ' q=>.j (by
  exact .h (q.g λl Z q=>.z q.1 q.2))))
theorem aa.qq{q:QN}{α:Type}{f:α→PV}{k:QI (QN×α)}{Q:aG×QN→af→Prop}(h:σ[q]?=QG (.B (bl f k)))(g:Q (.C q,k.length) σ):aa (dh (.B q)) σ Q:=by
 refine .mk ?_ g;show QX (M.f q σ) _=_;rw[fc h,←QP λp=>((p.1:Int),f p.2)]
 rfl
end
theorem oZ(d:QN){σ:af}{q:QN}{k:Kn}(h:cU σ q k)(o:ae):aa (aB (d+1) 241 [o.v,.B q]) σ λv σ'=>v=(cD k o).v∧σ'=σ:=by
 induction o using ae.casesOn with
 |B b v=>exact .mk (a:=(ae.B b v).v) (σ':=σ) (by kernel_rfl) ⟨QJ,QJ⟩
 |C l i=>exact .mk (a:=(ae.C l i).v) (σ':=σ) (by kernel_rfl) ⟨QJ,QJ⟩
 |A l=>
  refine bx (pf:=sM) (κ:=[(134,(ae.A l).v),(87,.B q)]) (by kernel_rfl) (by kernel_rfl) λK c=>.j (.j (x:=QR) (by kernel_rfl) QJ (.j (x:=QR) (by kernel_rfl) QJ (Ev.d (Ev.h (x:=.A l) (y:=.B q) (by kernel_rfl) (by kernel_rfl) (rI h)) ?_)))
  induction e:aM k l using QQ with
  |none=>exact .u QJ (.f (Ev.a (v:=(ae.A l).v) (by kernel_rfl) (c _ _ _ ⟨by rw[zv,e];rfl,QJ⟩)))
  |some s=>exact .t QJ (.a (.a (.f (.I (.d (Ev.a (v:=.C 48) (by kernel_rfl) (.d (.I (.d (Ev.a (Ev.m (by kernel_rfl) (k:=l) (by kernel_rfl) h (by rw[gB,e];rfl)) (.d (Ev.a (v:=.F []) (by kernel_rfl) (.j (.z (lB QJ)
    (.j (.z (lB QJ) (c _ _ _ ⟨by rw[zv,e];rfl,QJ⟩)))))))))))))))))
theorem Kg(d:QN){σ:af}{q r:QN}{k:Kn}{os:QI ae}(h:cU σ q k)(u:σ[r]?=QG (.A (os.map ae.v)))(o:os.length≤100):aa (aB (d+2) 246 [.B r,.B q]) σ λv σ'=>v=.F ((os.map (cD k)).map ae.v)∧Le σ σ':=by
 refine bx QJ QJ λK w=>.f (.qr (.W ae.v os QJ u (bT o) (λs c σ'=>σ'=σ∧c++(s.map (cD k)).map ae.v=(os.map (cD k)).map ae.v) ⟨QJ,QJ⟩ (λZ Z Z g=>g.1▸Le.b _)
  (λx s c σ' g=>.i ?_) λc σ' p t g n=> ?_))
 ·(revert g;refine oA λl e=> ?_;subst l)
  refine .k QJ (.d (Ev.a QJ (.d (Ev.a QJ (.j ((oZ d h x).g λv y g=>⟨g.2,?_⟩))))));rw[g.1,Rq];exact e
 ·(revert g;refine oA λm e=> ?_;subst m)
  rw[Vm,Vm,RD] at e;refine .p n.2.2 ⟨?_,w _ _ _ ⟨by rw[e];rfl,n.1⟩⟩;rw[e,QP,QP];exact bT o
theorem Ki(d:QN){σ:af}{q:QN}{k:Kn}(h:cU σ q k)(r:Rv):aa (aB (d+3) 253 [r.v,.B q]) σ λv σ'=>v=(r.qb (cD k)).v∧Le σ σ':=
 bx (pf:=sN) (κ:=[(121,r.v),(87,.B q)]) (by kernel_rfl) (by kernel_rfl) λK c=>.f (.k (a:=110) (by kernel_rfl) (.d (Ev.a (v:=r.v) (by kernel_rfl) (.d (.k (a:=246) (by kernel_rfl) (.d (.k (a:=103) (by kernel_rfl) (.d (Ev.a (v:=r.v) (by kernel_rfl) (.j ((oC (d+1) σ r).g λv i g=>by
  (revert g;refine ag λp e n=> ?_;subst e)
  refine .d (Ev.a (v:=.B q) (by kernel_rfl) (.j ((Kg d (n.1 _ _ h) n.2.2 (QK (rY r) (by decide))).g λv l g=> ?_)))
  (revert g;refine oA λb m=> ?_;subst b)
  exact .j (.q (Mu (d+1) (cD k) r) (c _ _ _ ⟨QJ,n.1.a m⟩)))))))))))))
theorem Kj(d:QN){σ:af}{q:QN}{k:Kn}(h:cU σ q k)(s:ab):aa (aB (d+4) 260 [s.v,.B q]) σ λv σ'=>v=(s.qf k).v∧Le σ σ':=by
 induction s using ab.casesOn with
 |C=>exact .mk (a:=ab.C.v) (σ':=σ) (by kernel_rfl) ⟨QJ,Le.b _⟩
 |B o=>
  refine bx (pf:=oM) (κ:=[(152,(ab.B o).v),(87,.B q)]) (by kernel_rfl) (by kernel_rfl) λK n=>.g (b:=QR) (by kernel_rfl) QJ (.h (b:=QO) (by kernel_rfl) QJ (.f (.I (.d (Ev.a (v:=.C 95) (by kernel_rfl) (.d (.k (a:=241) (by kernel_rfl) (.d (Ev.a (v:=o.v) (by kernel_rfl) (.d (Ev.a (v:=.B q) (by kernel_rfl) (.j ((oZ (d+2) h o).g λv p g=> ?_)))))))))))))
  (revert g;refine oA λe c=> ?_;subst e;revert c;intro i;subst i)
  exact .j (.z (lB QJ) (n _ _ _ ⟨QJ,Le.b _⟩))
 |A l r=>
  refine bx (pf:=oM) (κ:=[(152,(ab.A l r).v),(87,.B q)]) (by kernel_rfl) (by kernel_rfl) λK n=>.h (b:=QO) (by kernel_rfl) QJ (.f (.I (.d (Ev.a (v:=.C 105) (by kernel_rfl) (.d (Ev.a (v:=dg l) (by kernel_rfl) (.d (.k (a:=253) (by kernel_rfl) (.d (Ev.a (v:=r.v) (by kernel_rfl) (.d (Ev.a (v:=.B q) (by kernel_rfl) (.j ((Ki d h r).g λv p g=> ?_))))))))))))))
  (revert g;refine oA λm t=> ?_;subst m)
  exact .j (.z (lB QJ) (n _ _ _ ⟨QJ,t⟩))
theorem Kk(d:QN){σ:af}{q:QN}{k:Kn}(h:cU σ q k)(t:Tm):aa (aB (d+2) 267 [t.v,.B q]) σ λv σ'=>v=(t.qf k).v∧Le σ σ':=by
 induction t using Tm.casesOn with
 |A=>exact .mk (a:=Tm.A.v) (σ':=σ) (by kernel_rfl) ⟨QJ,Le.b _⟩
 |B=>exact .mk (a:=Tm.B.v) (σ':=σ) (by kernel_rfl) ⟨QJ,Le.b _⟩
 |F b=>exact .mk (a:=(Tm.F b).v) (σ':=σ) (by kernel_rfl) ⟨QJ,Le.b _⟩
 |C o s b=>
  refine bx (pf:=oN) (κ:=[(163,(Tm.C o s b).v),(87,.B q)]) (by kernel_rfl) (by kernel_rfl) λK p=>.h (b:=QO) (by kernel_rfl) QJ (.f (.t (.I (.d (Ev.a (v:=.C 125) (by kernel_rfl) (.d (.k (a:=241) (by kernel_rfl) (.d (Ev.a (v:=o.v) (by kernel_rfl) (.d (Ev.a (v:=.B q) (by kernel_rfl) (.j ((oZ d h o).g λv c g=> ?_)))))))))))))
  (revert g;refine oA λe r=> ?_;subst e;revert r;intro i;subst i)
  exact .j (.z (lB QJ) (Ev.a (v:=.F [.F (s.map ia),.A b]) (by kernel_rfl) (.mk (a:=(Tm.C (cD k o) s b).v) (σ':=c) (by kernel_rfl) (p _ _ _ ⟨QJ,Le.b _⟩))))
 |D o b=>
  refine bx (pf:=oN) (κ:=[(163,(Tm.D o b).v),(87,.B q)]) (by kernel_rfl) (by kernel_rfl) λK p=>.h (b:=QO) (by kernel_rfl) QJ (.f (.t (.I (.d (Ev.a (v:=.C 104) (by kernel_rfl) (.d (.k (a:=241) (by kernel_rfl) (.d (Ev.a (v:=o.v) (by kernel_rfl) (.d (Ev.a (v:=.B q) (by kernel_rfl) (.j ((oZ d h o).g λv c g=> ?_)))))))))))))
  (revert g;refine oA λl m=> ?_;subst l;revert m;intro n;subst n)
  exact .j (.z (lB QJ) (Ev.a (v:=.F [.D QR,.C 151,.A b]) (by kernel_rfl) (.mk (a:=(Tm.D (cD k o) b).v) (σ':=c) (by kernel_rfl) (p _ _ _ ⟨QJ,Le.b _⟩))))
section
variable{α:Type}
theorem Dz{l:QI (QN×α)}{k:QN}(h:aM l k=RM):dH l k=l:=by
 refine YM.mpr λp a=> ?_;have:(l.any λp=>Rc (p.1=k))=false:=by rw[lN,h];rfl
 have:=Zx.mp this p a;rw[Bool.not_eq_true] at this;rw[this]
 rfl
theorem Fy(l:QI (QN×α)){k j:QN}(h:j≠k):aM (dH l k) j=aM l j:=by
 rw[aM,dH,List.find?_filter,aM]
 congr 2
 funext p
 by_cases e:p.1=j
 ·rw[Ry e,RJ λq=>h (e.symm.trans q)]
  rfl
 ·rw[RJ e]
  exact RJ λq=>aD q.2
theorem DZ(ks:QI QN):∀l:QI (QN×α),ks.foldl dH l=l.filter λp=> !Rc (p.1∈ks):=by
 induction ks with
 |nil=>exact λl=>(YM.mpr λp Z=>QJ).symm
 |cons k ks ih=>
  intro l;rw[qdu,ih,dH,qcf];refine qcB λp Z=> ?_
  by_cases e:p.1=k
  ·rw[Ry e,Ry (show p.1∈k::ks by rw[e];exact QM ..)]
   simp
  ·rw[RJ e,qdG,YR]
   congr 1
   refine WB.mpr ⟨QV _,λh=>(mC h).resolve_left e⟩
end
theorem Ml{α:Type}{l:QI (QN×α)}(h:cg l)(k:QN):cg (dH l k):=pE h _
theorem Eg{k:Kn}(u:cg k)(l:QN):(((dH k l).filter λp=>Rc (p.2=l)).map (·.1)).foldl dH (dH k l)=cV k l:=by
 rw[DZ,dH,qcf,cV];refine qcB λp c=> ?_;rw[Bool.and_comm]
 induction f:Rc (p.1=l) using QL with
 |true=>rfl
 |false=>
  congr 2
  refine WB.mpr ⟨λh=> ?_,λh=> ?_⟩
  ·refine ag (λq g e=> ?_) (mM h)
   refine oA (λa b=> ?_) (Uc.mp g);have d:=ji u (Uc.mp a).1;have i:=ji u c;have e:q.1=p.1:=e;rw[e,i] at d;rw[QS d];exact Rl b
  ·refine VZ.mpr (ai p (Uc.mpr ⟨Uc.mpr ⟨c,?_⟩,Ry h⟩) QJ)
   rw[f]
   rfl
section
variable{C:QN→QI PV→M PV}{κ:ay}{σ:af}{Q:PV→af→Prop}
theorem aa.qv{o e:PE}{n l:QN}{k:Kn}(g:Ev C o κ σ (.B n))(f:cU σ n k)(m:Ev C e κ σ (.A l))(q:∀v σ',Ch n σ σ'→cU σ' n (dH k l)→Q v σ'):aa (ak C (.L o .C [e,.B .G]) κ) σ Q:=by
 refine .S g f (.d (m.a (.d (Ev.a QJ (.j (bz _ f QJ ?_))))))
 show aa (M.a (cw (.A l)) λi=>match bG (bl nV k) i with
   |some v=>.c QO ((M.i n (.B (ib (bl nV k) i))).a λZ=>.b v)
   |none=>fh [.G]) σ Q
 refine .h (.i ?_);rw[gB,vA]
 induction h:aM k l using QQ with
 |none=>exact .i (q _ _ (λZ Z Z e=>e) (by rw[Dz h];exact f))
 |some s=>exact .l QJ (.h (.L f λσ' c e=>.i (q _ _ c e)))
theorem aa.qw{o e:PE}{n l:QN}{k:Kn}(m:Ev C o κ σ (.B n))(f:cU σ n k)(p:Ev C e κ σ (.A l))(g:(aM k l).isSome=QO)(q:∀v σ',Ch n σ σ'→cU σ' n (dH k l)→Q v σ'):aa (ak C (.L o .C [e]) κ) σ Q:=by
 refine .S m f (.d (p.a (.j (bz _ f QJ ?_))))
 show aa (M.a (cw (.A l)) λi=>match bG (bl nV k) i with
   |some v=>.c QO ((M.i n (.B (ib (bl nV k) i))).a λZ=>.b v)
   |none=>fh []) σ Q
 refine .h (.i ?_);rw[gB,vA]
 induction h:aM k l using QQ with
 |none=>rw[h] at g;exact aD g
 |some s=>exact .l QJ (.h (.L f λσ' c e=>.i (q _ _ c e)))
end
theorem Ef(d:QN){σ:af}{q l:QN}{k:Kn}(h:cU σ q k)(hu:cg k)(hl:k.length≤1000):aa (aB (d+1) 272 [.B q,.A l]) σ λv σ'=>v=.G∧Ch q σ σ'∧cU σ' q (cV k l):=by
 refine bx (pf:=sG) (κ:=[(87,.B q),(89,.A l)]) QJ QJ λK hK=>.k (.qv (l:=l) QJ h QJ λZ Y c1 S=>.i ?_);have u:=Ml hu l;have O:(dH k l).length≤aR:=QK (QK (Uv _ _) hl) (lB QJ)
 refine .K (Ev.a QJ (.qq S ⟨.inr QJ,aa.T (λp=>.A p.1) (dH k l) (λo r σ'=>σ'=Y∧(∀p∈o,p∈dH k l)∧r++aS ((o.filter λp=>Rc (p.2=l)).map (·.1))=aS (((dH k l).filter λp=>Rc (p.2=l)).map (·.1))) O (aL QJ (λZ h=>h) QJ)
  (λZ Z Z g=>(ai _ (g.1▸S) (by rw[bl,UM];rfl))) (λx o r σ' g=>.i ?_) λr σ' hn g=> ?_⟩))
 ·(revert g;refine oA λt w=> ?_;subst t;revert w;refine oA λj e=> ?_)
  have hx:=ji u (j x (QM ..));refine Ev.d (b:=Rc (x.2=l)) (Ev.h (y:=.A l) (Ev.m QJ QJ S (by rw[gB,hx];rfl)) QJ ?_) ?_
  ·show QG ((x.2:RW)==l,σ')=_
   rw[show((x.2:RW)==l)=Rc (x.2=l) from iG _ _]
  ·rw[TU] at e
   induction hd:Rc (x.2=l) using QL with
   |true=>
    rw[hd] at e;rw[WC];exact Ev.a QJ (aL QJ (λp hp=>j p (QV _ hp)) (by rw[Rq];exact e))
   |false=>
    rw[hd] at e;exact(aL QJ (λp hp=>j p (QV _ hp)) e)
 ·(revert g;refine oA λD E=> ?_;subst D;revert E;refine oA λa0 e=> ?_)
  rw[Yk,Vm,show aS []=[] from QJ,RD] at e;subst e;refine .n (QK hn O) λp a5 P=> ?_;generalize F:((dH k l).filter λp=>Rc (p.2=l)).map (·.1)=U at P;have a1:U.Nodup:=F▸(pE u λp=>Rc (p.2=l))
  have a2:∀y∈U,(aM (dH k l) y).isSome=true:=λy j=>by
   rw[←F] at j
   (refine ag (λz hz H=> ?_) (mM j);subst H)
   rw[ji u (Uc.mp hz).1]
   rfl
  refine .s P.2.2 (RF.a _ U (λ(Z:UE)=>[(87,.B q)]) (λo Z f=>(Ch q σ f∧f[p]?=QG (.A (aS U)))∧∃N:Kn,cU f q N∧(∀y∈o,(aM N y).isSome=QO)∧o.Nodup∧o.foldl dH N=cV k l) () QJ (.c QJ .d)
   (gE ⟨c1.b P.1,P.2.2⟩ _ (P.1 _ _ S) a2 a1 (F▸Eg hu l)) (λZ Z Z g=>g.1.2) (λx o Z f g J hJ Z=>.i ?_) λZ f g=> ?_)
  ·(revert g;refine jY λI N V g4 W R=> ?_;revert I;refine oA λg1 X=> ?_)
   have W:=SO.mp W;refine .k (.qw QJ V QJ (g4 x (QM ..)) λZ a6 c4 h4=>.a (hJ () _ _ (.c QJ .d) (gE ⟨g1.a c4,c4 _ _ (λe=> ?_) X⟩ _ h4 (λy j=> ?_) W.2 R)))
   ·rw[e,V] at X
    exact nA X QJ
   ·rw[Fy _ λe:y=x=>W.1 (e▸j)]
    exact g4 y (QV _ j)
  ·(revert g;refine jY λL N V a3 a4 R=> ?_;revert L;refine oA λg1 X=> ?_)
   have R:N=_:=R;exact .a (hK _ _ _ (aL QJ g1 (R▸V)))
theorem rG(d:QN){σ:af}{r:QN}{v:PV}{os:QI ae}(h:σ[r]?=QG (.A (os.map ae.v))):aa (aB (d+1) 279 [.B r,v]) σ λv σ'=>v=.G∧σ'=σ:=
 bx QJ QJ λK b=>.i (Ev.a QJ (.s h (RF.a ae.v os (λ(Z:UE)=>[]) (λZ Z σ'=>σ'=σ) () QJ .d QJ (λZ Z Z g=>g▸h) (λx y Z σ' g J c Z=>.i (by
  refine .g ?_ QJ (.a (c () _ _ .d g))
  induction x using ae.casesOn<;>kernel_rfl)) λZ σ' g=>.a (b _ _ _ ⟨QJ,g⟩))))
end Mine
end
section
set_option genSizeOf false
set_option genSizeOfSpec false
set_option genInjectivity false
set_option genSizeOf false
set_option genSizeOfSpec false
namespace Mine
inductive Ty where
 |A
 |B
 |C
noncomputable def Ty.v:Ty→PV
 | .A=>dk
 | .B=>dQ
 | .C=>oD
noncomputable def cu(t:Ty):PV:=.F [t.v,.D QO,.G]
noncomputable def Ty.qa:Ty→RG
 | .C=>QO
 |_=>QR
noncomputable def dS(ts:QI Ty)(l:QN):Bool:=(ts[l]?).any Ty.qa
theorem zi(ts:QI Ty):iY (ts.map cu):=λx h=>by
 (refine ag (λt z e=> ?_) (mM h);subst e)
 refine(ai t.v QJ ?_)
 induction t using Ty.casesOn with
 |A=>exact JT
 |B=>exact JS
 |C=>exact JU
noncomputable def tV(_:UE):PV:=.D QO
def gy(σ:af)(q:QN)(ts:QI Ty):Prop:=∃k:QI (QN×UE),σ[q]?=QG (.B (bl tV k))∧∀l,(aM k l).isSome=dS ts l
theorem JH(d:QN){σ:af}{r A:QN}{ts:QI Ty}{bs:QI aE}(hb:aZ σ r A (ts.map cu) bs)(h9:ts.length≤9):aa (aB (d+1) 234 [.B r]) σ λv σ'=>Le σ σ'∧∃q,v=.B q∧gy σ' q ts:=by
 (revert hb;refine gP λnm rl rb rs h1 h2 z_389 ps h4 h5 z_390=> ?_)
 have hl:ts.length≤1000:=QK h9 (by decide);refine bx (pf:=sH) (κ:=[(43,.B r)]) QJ QJ λK hK=>.d (.x λq σ1 n=>.i ?_)
 have e1:Ev (aB d) (.F (.D 33) [.K (.A 43) 115]) [(85,.B q),(43,.B r)] σ1 (.A ts.length):=by
  have:=Ev.j (C:=aB d) (κ:=[(85,.B q),(43,.B r)]) (Ev.f (o:=.A 43) (a:=115) QJ (n.1 _ _ h1) QJ) (n.1 _ _ h2);rwa[QP] at this
 refine .N e1 (⟨RN (by decide) (Rx _),Sz.mpr (QK hl (by decide))⟩) (.q (gV hl) ?_)
 refine RF.a _ (RE ts.length) (λ(Z:UE)=>[(85,.B q),(43,.B r)]) (λys Z σ'=>Le σ σ'∧∃zs,zs++ys=RE ts.length∧∃ok:QI (QN×UE),σ'[q]?=QG (.B (bl tV ok))∧ok.length≤zs.length∧∀l,(aM ok l).isSome=(Rc (l<zs.length)&&dS ts l)) () QJ (.r QJ)
  (jk n.1 ([]) QJ ([]) n.2.2 (Sd _) λZ=>QJ) (λZ Z Z Z=>QJ) (λx ys Z σ2 g J hJ Z=>.i ?_) λZ σ2 g=> ?_
 ·(revert g;refine jZ λg1 zs hz ok g2 g3 g4=> ?_)
  (refine oA (λe_391 hx=> ?_) (jB hz);subst e_391)
  have ht:=Rk hx;generalize ts[zs.length]=t at ht;have hv:(ts.map cu)[zs.length]?=QG (cu t):=by rw[Rn,ht];rfl
  have hn:∀ok':QI (QN×UE),(∀l,(aM ok' l).isSome=if l=zs.length then t.qa else(aM ok l).isSome)→∀l,(aM ok' l).isSome=(Rc (l<(zs++[zs.length]).length)&&dS ts l):=λok' h l=>by
   rw[h l,QW,TF]
   by_cases e:l=zs.length
   ·rw[SH e,e,Ry (TB _),dS,ht]
    rfl
   ·rw[SK e,g4 l]
    congr 1
    exact WB.mpr ⟨λh=>VA h,λh=>Zm (SM h) e⟩
  have hc:Ev (aB d) (.H .D (.C (.C (.C (.K (.A 43) 115) (.A 89)) (.B (.A 0))) (.B (.A 0))) (.qb 170)) [(89,.A zs.length),(85,.B q),(43,.B r)] σ2 (.D t.qa):=by
   have hi:=Ev.g (C:=aB d) (κ:=[(89,.A zs.length),(85,.B q),(43,.B r)]) (i:=.A 89) (Ev.f (o:=.A 43) (a:=115) QJ (g1 _ _ h1) QJ) QJ (g1 _ _ h2) (dG _) hv
   induction t using Ty.casesOn with
   |A=>exact Ev.h (x:=.C 32) (Ev.k (Ev.k hi QJ QJ) QJ QJ) QJ QJ
   |B=>exact Ev.h (Ev.k (Ev.k hi QJ QJ) QJ QJ) QJ QJ
   |C=>exact Ev.h (Ev.k (Ev.k hi QJ QJ) QJ QJ) QJ QJ
  refine .j (hc.d ?_);have hz':=(Rq zs [zs.length] ys).trans hz
  induction ho:t.qa using QL with
  |false=>
   refine .a (.b (hJ () _ _ (.r QJ) (jk g1 _ hz' ok g2 (by rw[QW];exact Sw g3) (hn ok λl=> ?_))));split
   ·rename_i e
    rw[g4 l,e,ho,RJ (Ts _)]
    rfl
   ·rfl
  |true=>
   refine .q (Ev.a QJ (Ev.a QJ (Ev.a QJ (.V g2 ?_ λσ3 c3 e3=>.a (.b (hJ () _ _ (.r QJ) (jk (g1.c n.2.1 c3) _ hz' (bJ ok zs.length ()) (e3.trans (RH (λk=>QG (AO.B k)) (lq tV ok zs.length ()))) ?_ (hn _ λl=> ?_))))))))
   ·rw[bl,QP]
    exact Rp (QK g3 (Sm (Rj hx h9))) (lB QJ)
   ·rw[QW]
    exact QK (oT _ _ _) (Tg g3)
   ·rw[gf,ho]
    split<;>rfl
 ·(revert g;refine jZ λg1 zs hz ok g2 g3 g4=> ?_)
  rw[RD] at hz;refine .x [(85,.B q)] (.c QJ .d) (λZ Z=>.c QJ .d) (λZ=>.c QJ .d) (Ev.f QJ (g1 _ _ h1) QJ) (g1 _ _ h4) (λp hp=>(h5 p hp).a g1) xw (.f (Ev.a QJ (hK _ _ _ ⟨g1,q,QJ,ok,g2,λl=> ?_⟩)));rw[g4 l,hz,RC]
  by_cases e:l<ts.length
  ·rw[Ry e]
   rfl
  ·rw[RJ e,dS,TZ (qdr e)]
   rfl
noncomputable def rV(z:QN×Kn):PV:=.B z.1
def cS(σ:af)(c r t g:QN)(ts:QI Ty):Prop:=σ[c]?=QG (.C 322 [(43,.B r),(91,.B t),(107,.B g)])∧gy σ t ts∧t≠g
abbrev Bg:=QI (QN×(QN×Kn))
def cG(σ:af)(g:QN)(B:Bg):Prop:=σ[g]?=QG (.B (bl rV B))∧∀p∈B,cU σ p.2.1 p.2.2∧p.2.1≠g
theorem Dm(d:QN){σ:af}{r A:QN}{ts:QI Ty}{L:QI aE}(N:aZ σ r A (ts.map cu) L)(O:ts.length≤9){Q:PV→af→Prop}
  (q:∀c t m z σ',Le σ σ'→cS σ' c r t m ts→σ[m]?=RM→cG σ' m [(0,(z,[]))]→Q (.B c) σ'):aa (jc (aB (d+2)) (.J (.B 322)) [.B r]) σ Q:=by
 refine .qa (a:=293) (by kernel_rfl) λc P o=>bx (pf:=sh) (κ:=[(71,.B c),(43,.B r)]) (by kernel_rfl) (by kernel_rfl) λK R=> ?_;refine .n (Ev.a (v:=.B r) (by kernel_rfl) (Ev.a (v:=.B c) (by kernel_rfl) (.B (fs':=[(43,.B r)]) o.2.2 (by kernel_rfl) (by kernel_rfl) λS T F=> ?_)));have G:=o.1.c o.2.1 T;refine .n (.k (a:=234) (by kernel_rfl) (.d (Ev.a (v:=.B r) (by kernel_rfl) (.j ((JH d (N.a G) O).g λv U g=> ?_)))))
 (revert g;refine cc λy t i l=> ?_;subst i;revert l;refine ag λV C W=> ?_)
 refine Ev.a (v:=.B c) (by kernel_rfl) (.B (fs':=[(43,.B r),(91,.B t)]) (y _ _ F) (by kernel_rfl) (by kernel_rfl) λD H s=> ?_);have u:=H _ _ (λe=>by rw[e,y _ _ F] at C;exact nA C QJ) C;refine .n ?_;show aa (M.a (M.j (.B [])) λv=>M.j (.B [(0,v)])) D _;refine .h (.x λz X b=>.x λm Y f=>Ev.a (v:=.B c) (by kernel_rfl) (.B (fs':=[(43,.B r),(91,.B t),(107,.B m)]) (f.1 _ _ (b.1 _ _ s)) (by kernel_rfl) (by kernel_rfl) λE w Z=>.a (R _ _ _ ⟨QJ,?_⟩)));have g6:=f.1 _ _ (b.1 _ _ s);have I:=(G.a y).c o.2.1 H;refine q c t m z E (((I.a b.1).a f.1).c o.2.1 w) (aL Z (ai V (w _ _ (λe=> ?_) (f.1 _ _ (b.1 _ _ u))) W) (bU (b.1 _ _ u) f.2.1)) ((I.a b.1).d f.2.1) ⟨w _ _ (λe=> ?_) f.2.2,λp hp=> ?_⟩
 ·rw[e,s] at u
  exact nA u QJ
 ·have:=f.2.2
  rw[e,g6] at this;exact nA this QJ
 ·obtain rfl:=m1 hp
  refine⟨w _ _ (λe=> ?_) (f.1 _ _ b.2.2),bU b.2.2 f.2.1⟩;have:=b.2.2;rw[show z=c from e,b.1 _ _ s] at this;exact nA this QJ
end Mine
end
section
namespace Mine
noncomputable def fD(k:Kn):Rv→Rz QN
 | .A (.A y)=>QG ((aM k y).getD y)
 |_=>RM
noncomputable def gk(ts:QI Ty)(k:Kn)(l:QN):Rz QN→Kn
 |none=>k
 |some s=>Sr (!Rc (s=l)&&(!dS ts l&& !dS ts s)) (bJ k l s) k
noncomputable def jF(ts:QI Ty)(k:Kn):ab→Kn
 | .A l r=>gk ts (cV k l) l (fD k r)
 |_=>k
theorem pw{ts:QI Ty}{k:Kn}(h:cg k)(s:ab):cg (jF ts k s):=by
 induction s using ab.casesOn with
 |A l r=>
  show cg (gk ts (cV k l) l (fD k r));have f:cg (cV k l):=pE h _
  induction fD k r using QQ with
  |none=>exact f
  |some s=>
   show cg (Sr _ _ _)
   induction !Rc (s=l)&&(!dS ts l&& !dS ts s) using QL with
   |true=>exact Ao f l s
   |false=>exact f
 |B o=>exact h
 |C=>exact h
theorem tv(ts:QI Ty)(k:Kn)(s:ab):(jF ts k s).length≤k.length+1:=by
 induction s using ab.casesOn with
 |A l r=>
  show(gk ts (cV k l) l (fD k r)).length≤_;have f:(cV k l).length≤k.length:=Uv _ _
  induction fD k r using QQ with
  |none=>exact Sw f
  |some s=>
   show(Sr _ _ _:Kn).length≤_
   induction !Rc (s=l)&&(!dS ts l&& !dS ts s) using QL with
   |true=>exact QK (oT _ _ _) (Tg f)
   |false=>exact Sw f
 |B o=>exact Uk _
 |C=>exact Uk _
theorem gy.a{σ σ':af}{q p:QN}{ts:QI Ty}(h:gy σ q ts)(c:Ch p σ σ')(n:q≠p):gy σ' q ts:=h.elim λk h=>(ai k (c _ _ n h.1) h.2)
theorem gy.b{σ σ':af}{q:QN}{ts:QI Ty}(h:gy σ q ts)(c:Le σ σ'):gy σ' q ts:=h.elim λk h=>(ai k (c _ _ h.1) h.2)
theorem cS.a{σ σ':af}{c r t g:QN}{ts:QI Ty}(h:cS σ c r t g ts)(l:Le σ σ'):cS σ' c r t g ts:=(aL (l _ _ h.1) (h.2.1.b l) h.2.2)
theorem cS.b{σ σ':af}{c r t g q:QN}{ts:QI Ty}(h:cS σ c r t g ts){k:QI (RW×PV)}(d:σ[q]?=QG (.B k))(l:Ch q σ σ')(o:t≠q):cS σ' c r t g ts:=
 (aL (l _ _ (λe=>by have:=h.1;rw[e,d] at this;exact nA this QJ) h.1) (h.2.1.a l o) h.2.2)
theorem xV{C:QN→QI PV→M PV}{κ:ay}{σ:af}{c r t g l:QN}{ts:QI Ty}{e:PE}(h:cS σ c r t g ts)(d:Ev C e κ σ (.A l))(s:Ev C (.A 71) κ σ (.B c)):Ev C (.H .D e (.K (.A 71) 91)) κ σ (.D (!dS ts l)):=by
 (revert h;refine bk λi z b=> ?_;revert z;refine ag λo j k=> ?_)
 have:=Ev.h d (Ev.f (a:=91) s i QJ) (rI j);rwa[k] at this
theorem Lu(d:QN){σ:af}{c r x H q l:QN}{ts:QI Ty}{k:Kn}{so:Rz QN}{w:PV}{K:Fl→ay→af→Prop}(y:w=(so.map nV).getD .G)(I:cS σ c r x H ts)(C:cU σ q k)(J:cg k)(D:k.length≤500)(L:x≠q)
  (o:∀E κ σ',E.qb=.G→Ch q σ σ'→cU σ' q (gk ts (cV k l) l so)→K E κ σ'):RS (aB (d+1)) (lk.Qu.drop 7) [(124,w),(94,dg l),(87,.B q),(71,.B c)] σ K:=by
 refine .k (.k QJ (.d (Ev.a QJ (.d (Ev.a QJ (.j ((Ef d C J (QK D (by decide))).g λv p g=> ?_)))))))
 (revert g;refine bk λz i t=> ?_)
 have h:=I.b C i L
 induction so using QQ with
 |none=>
  subst y;exact .j (.l QJ QJ (.a (.a (.a (o _ _ _ QJ i t)))))
 |some s=>
  obtain rfl:w=.A s:=y;have n:gk ts (cV k l) l (QG s)=cV k l→RS (aB (d+1)) [] [(124,.A s),(94,dg l),(87,.B q),(71,.B c)] p (aV (aB (d+1)) [] K):=λe=>.a (.a (.a (o _ _ _ QJ i (by rw[e];exact t))));refine .j (.g QJ QJ (.f (Ev.d (b:= !((s:RW)==(l:RW))) QJ ?_)));rw[show((s:RW)==(l:RW))=Rc (s=l) from iG s l]
  induction m:Rc (s=l) using QL with
  |true=>exact n (by rw[gk,m];rfl)
  |false=>
   refine RB.f (Ev.d (xV h QJ QJ) ?_)
   induction u:dS ts l using QL with
   |true=>exact n (by rw[gk,u,m];rfl)
   |false=>
    refine Ev.d (xV h QJ QJ) ?_
    induction F:dS ts s using QL with
    |true=>exact n (by rw[gk,F,u,m];rfl)
    |false=>
     refine .q (Ev.a QJ (Ev.a QJ (Ev.a QJ (.V t ?_ λM N O=>.a (.a (.a (o _ _ _ QJ (i.a N) ?_)))))))
     ·rw[bl,QP]
      exact Rp (QK (Uv _ _) D) (lB QJ)
     ·rw[gk,F,u,m]
      exact O.trans (RH (λk=>QG (AO.B k)) (lq nV (cV k l) l s))
theorem zV(d:QN){σ:af}{c r Q R q:QN}{ts:QI Ty}{k:Kn}(T:cS σ c r Q R ts)(N:cU σ q k)(U:cg k)(V:k.length≤500)(W:Q≠q)(s:ab):
  aa (aB (d+2) 300 [.B c,s.v,.B q]) σ λv σ'=>v=.G∧Ch q σ σ'∧cU σ' q (jF ts k s):=by
 induction s using ab.casesOn with
 |C=>exact .mk (a:=.G) (σ':=σ) (by kernel_rfl) (aL QJ (λZ Z Z e=>e) N)
 |B o=>
  refine bx (pf:=lk) (κ:=[(71,.B c),(152,(ab.B o).v),(87,.B q)]) (by kernel_rfl) (by kernel_rfl) λK O=>.g (b:=QR) (by kernel_rfl) QJ (.h (b:=QO) (by kernel_rfl) QJ (.k (.k (a:=279) (by kernel_rfl) (.d ((aJ.a (l:=[o.v]) (by kernel_rfl)).g λv t g=> ?_)))))
  (revert g;refine ag λp x n=> ?_;subst x)
  refine .d (Ev.a (v:=.B q) (by kernel_rfl) (.j ((rG d (os:=[o]) n.2.2).g λv P g=>.a (.a (.h (b:=QO) (by kernel_rfl) QJ (.f (Ev.a (v:=.G) (by kernel_rfl) (O _ _ _ ⟨QJ,?_⟩))))))));rw[g.2];exact⟨n.1.toCh,n.1 _ _ N⟩
 |A l m=>
  refine bx (pf:=lk) (κ:=[(71,.B c),(152,(ab.A l m).v),(87,.B q)]) (by kernel_rfl) (by kernel_rfl) λK O=>.g (b:=QR) (by kernel_rfl) QJ (.g (b:=QR) (by kernel_rfl) QJ (.g (b:=QR) (by kernel_rfl) QJ
   (.l (Ev.a (v:=.F [dg l,m.v]) (by kernel_rfl) (.mk (a:=[dg l,m.v]) (σ':=σ) (by kernel_rfl) ⟨QJ,.k (.k (a:=279) (by kernel_rfl) (.d (.k (a:=103) (by kernel_rfl) (.d (Ev.a (v:=m.v) (by kernel_rfl) (.j ((oC d σ m).g λv t g=> ?_)))))))⟩)))))
  (revert g;refine ag λp z n=> ?_;subst z)
  refine .d (Ev.a (v:=.B q) (by kernel_rfl) (.j ((rG d n.2.2).g λv P g=>.d (Ev.a (v:=.G) (by kernel_rfl) ?_))));rw[g.2];have E:=n.1 _ _ N
  have u:∀{κ so w},w=(QY nV so).getD .G→so=fD k m→ar [(124,w),(94,dg l),(87,.B q),(71,.B c)] κ→RS (aB (d+1)) (lk.Qu.drop 7) κ t K:=λ{κ so w} X Y hs=>
   .p hs (Lu d X (T.a n.1) E U V W λfl a0 σ' e3 c1 k1=>O _ _ _ (aL e3 (n.1.f c1) (by show cU σ' q (gk ts (cV k l) l (fD k m));rw[←Y];exact k1)))
  have I:fD k m=RM→Ev (aB (d+1)) (.M (.H .A (.C (.A 94) (.B (.A 1))) (.G [])) (.M (.H .A (.C (.A 121) (.B (.A 0))) (.B (.C 38))) (.M (.H .A (.C (.C (.A 121) (.B (.A 1))) (.B (.A 0))) (.B (.C 48))) (.H .A (.C (.C (.C (.A 121) (.B (.A 1))) (.B (.A 1))) (.B (.A 1))) (.G [])))))
    [(124,.G),(121,m.v),(94,dg l),(71,.B c),(152,(ab.A l m).v),(87,.B q)] t (.D QR):=λe=>by
   induction m using Rv.casesOn with
   |A o=>induction o using ae.casesOn with
    |A y=>exact bV e
    |B b v=>kernel_rfl
    |C y i=>kernel_rfl
   |F a b=>kernel_rfl
   |B L a b=>kernel_rfl
   |D L a b=>kernel_rfl
   |G L a=>kernel_rfl
   |C a=>kernel_rfl
  induction e:fD k m using QQ with
  |none=>exact .g (b:=QR) (I e) QJ (u (so:=RM) QJ e.symm (.r QJ))
  |some s=>
   (refine oE (λy J=> ?_) ((by
    cases m with
    |A o=>cases o with
     |A y=>exact⟨y,QJ⟩
     |B b v=>exact aI e
     |C y i=>exact aI e
    |F a b=>exact aI e
    |B L a b=>exact aI e
    |D L a b=>exact aI e
    |G L a=>exact aI e
    |C a=>exact aI e:∃y,m=.A (ae.A y)));subst J)
   have e:(aM k y).getD y=s:=QS e;refine .h (b:=QO) (by kernel_rfl) QJ (.d (Ev.a (v:=.A y) (by kernel_rfl) (.d (.S (n:=q) (by kernel_rfl) E (.d (Ev.a (v:=.A y) (by kernel_rfl) (.d (Ev.a (v:=.A y) (by kernel_rfl) (.j (bz _ E QJ ?_))))))))));show aa (M.a (M.b (.A y)) λd=>M.a (M.b (y:RW)) λk'=>.b ((bG (bl nV k) k').getD d)) t _;refine .h (.i (.h (.i (.i ?_))));rw[gB,show((aM k y).map nV).getD (.A y)=.A s by rw[←e];induction aM k y using QQ<;>rfl];exact .a (.a (u (so:=QG s) QJ (by rw[fD,e]) (.r QJ)))
noncomputable def cQ(ts:QI Ty)(k:Kn)(ss:QI ab):Kn:=ss.foldl (jF ts) k
theorem Bo{ts:QI Ty}{k:Kn}(h:cg k)(ss:QI ab):cg (cQ ts k ss):=by
 induction ss generalizing k with
 |nil=>exact h
 |cons s ss i=>exact i (pw h s)
theorem Bn(ts:QI Ty)(k:Kn)(ss:QI ab):(cQ ts k ss).length≤k.length+ss.length:=by
 induction ss generalizing k with
 |nil=>exact Sd _
 |cons s ss h=>exact QK (h (jF ts k s)) (by have:=tv ts k s;rw[Se];lia)
theorem cG.a{σ:af}{b n z:QN}{B:Bg}{k:Kn}(h:cG σ b B)(g:aM B n=QG (z,k)):cU σ z k∧z≠b:=h.2 _ (gg g)
theorem cG.b{σ σ':af}{g:QN}{B:Bg}(h:cG σ g B)(l:Le σ σ'):cG σ' g B:=⟨l _ _ h.1,λp a=>⟨l _ _ (h.2 p a).1,(h.2 p a).2⟩⟩
theorem Ev.n{C:QN→QI PV→M PV}{κ:ay}{σ:af}{c r t g n z:QN}{ts:QI Ty}{B:Bg}{k:Kn}{o e:PE}(h:cS σ c r t g ts)(a:cG σ g B)(b:aM B n=QG (z,k))(s:Ev C o κ σ (.B c))(d:Ev C e κ σ (.A n)):Ev C (.C (.K o 107) e) κ σ (.B z):=
 Ev.m (Ev.f s h.1 QJ) d a.1 (by rw[gB,b];rfl)
theorem Bq(d:QN){σ:af}{c r ot bg A n z:QN}{ts:QI Ty}{bs:QI aE}{b:aE}{B:Bg}{k:Kn}(hb:aZ σ r A (ts.map cu) bs)(M:cS σ c r ot bg ts)(hB:cG σ bg B)(hg:aM B n=QG (z,k))(hn:bs[n]?=QG b)(hu:cg k)(hl:k.length≤400)(S:b.1.length≤30):
  aa (aB (d+3) 307 [.B c,.A n]) σ λv σ'=>∃q,v=.B q∧Le σ σ'∧σ[q]?=RM∧cU σ' q (cQ ts k b.1):=by
 refine dw (λrb vs hv T a1 N=> ?_) (hb.b);refine cm (λi j U V hj=> ?_) (N hn);refine bx (pf:=oF) (κ:=[(71,.B c),(117,.A n)]) (by kernel_rfl) (by kernel_rfl) λK hK=>.d (.qb (Ev.n M hB hg (by kernel_rfl) (by kernel_rfl)) (hB.a hg).1 (by rw[bl,QP];exact QK hl (lB QJ)) λq a2 y=> ?_);have W:=M.a y.1;have X:ot≠q:=M.2.1.elim λok h=>bU h.1 y.2.1;refine .l (Ev.a (v:=.B i) (Ev.g (x:=.A n) (hv y.1 (Ev.f (n:=c) (by kernel_rfl) W.1 (by kernel_rfl))) (by kernel_rfl) (y.1 _ _ T) (dG n) U) (.p (y.1 _ _ V) ⟨QJ,.i (Ev.a (v:=.B j) (by kernel_rfl) ?_)⟩))
 refine .s (y.1 _ _ hj) (RF.a ab.v b.1 (λ(Z:UE)=>[(163,b.2.v),(87,.B q),(71,.B c)]) (λR Z σ'=>Le σ σ'∧∃E,cU σ' q E∧cg E∧E.length+R.length≤430∧cQ ts E R=cQ ts k b.1) () QJ (.r QJ)
  (gE y.1 k y.2.2 hu (SR hl S) QJ) (λZ Z Z g=>g.1 _ _ hj) (λs R Z m g J hJ Z=>.i ?_) λZ m g=> ?_)
 ·(revert g;refine jY λO E Y g3 P Q=> ?_)
  have P:E.length+1+R.length≤430:=by rw[Se] at P;exact QK (Sx (RO _ _ _)) P
  refine .k (.F (n:=c) (a:=300) (by kernel_rfl) (M.a O).1 (by kernel_rfl) (by kernel_rfl) (.d (Ev.a (v:=s.v) (by kernel_rfl) (.d (Ev.a (v:=.B q) (by kernel_rfl) (.j ((zV d (M.a O) Y g3 (by lia) X s).g λv t h=>.a (hJ () _ _ (.r QJ) (gE (O.c y.2.1 h.2.1) _ h.2.2 (pw g3 s) ?_ Q)))))))));exact QK (RR (tv ts E s) _) P
 ·(revert g;refine jY λO E Y g3 P Q=> ?_)
  have Q:E=cQ ts k b.1:=Q;refine bq (λw l hw a0=> ?_) (tK b.2);have I:∀{κ t},Le m t→ar [(87,.B q)] κ→RS (aB (d+2)) [.B (.A 87)] κ t K:=λ{κ t} l3 hs=>.p hs (.f (Ev.a (v:=.B q) (by kernel_rfl) (hK _ _ _ (fO q QJ (O.a l3) y.2.1 (Q▸l3 _ _ Y)))));refine .g (b:=w==46) (by rw[hw];kernel_rfl) a0 ?_
  have e:∀{o:ae},Ev (aB (d+2)) (.C (.A 163) (.B (.A 1))) [(163,b.2.v),(87,.B q),(71,.B c)] m o.v→Ev (aB (d+2)) (.H .B (.C (.A 163) (.B (.A 0))) (.G [(.B (.C 125)),(.B (.C 104))])) [(163,b.2.v),(87,.B q),(71,.B c)] m (.D QO)→
    RS (aB (d+2)) (oF.Qu.drop 4) [(163,b.2.v),(87,.B q),(71,.B c)] m K:=λ{o} ho U=>.h (b:=QO) U QJ (.k (.k (a:=279) (by kernel_rfl) (.d ((aJ.h (vs:=[o.v]) (cz.a ho .d) (lB QJ)).g λv t g=>by
     (revert g;refine ag λp L n3=> ?_;subst L)
     exact .d (Ev.a (v:=.B q) (by kernel_rfl) (.j ((rG (d+1) (os:=[o]) n3.2.2).g λv a3 g=>.a (.a (I (g.2▸n3.1) (.c QJ .d))))))))))
  induction u:b.2 using Tm.casesOn with
  |A=>rw[u] at*;exact .g (b:=QR) (by kernel_rfl) QJ (I (Le.b _) (.c QJ .d))
  |B=>rw[u] at*;exact .g (b:=QR) (by kernel_rfl) QJ (I (Le.b _) (.c QJ .d))
  |F x=>rw[u] at*;exact .g (b:=QR) (by kernel_rfl) QJ (I (Le.b _) (.c QJ .d))
  |C o cs x=>rw[u] at e;exact e (o:=o) (by kernel_rfl) (by kernel_rfl)
  |D o x=>rw[u] at e;exact e (o:=o) (by kernel_rfl) (by kernel_rfl)
theorem Ev.l{C:QN→QI PV→M PV}{κ:ay}{σ:af}{e:PE}{x:PV}(h:aa (ak C e κ) σ λv σ'=>v=x∧σ'=σ):Ev C e κ σ x:=by
 (revert h;refine II λv σ' h a b=> ?_)
 have a:v=x:=a;have b:σ'=σ:=b;rw[a,b] at h;exact h
theorem Ev.q{C:QN→QI PV→M PV}{κ:ay}{σ:af}{o e:PE}{n:QN}{i:RW}{k:QI (RW×PV)}(b:Ev C o κ σ (.B n))(h:σ[n]?=QG (.B k))(c:Ev C e κ σ (.A i)):Ev C (.L o .A [e]) κ σ ((bG k i).getD .G):=
 .l (.S b h (.d (c.a (.j (bz _ h QJ (.mk QJ ⟨QJ,QJ⟩))))))
theorem Ev.o{C:QN→QI PV→M PV}{κ:ay}{σ:af}{e:PE}{n:QN}{k:QI (RW×PV)}(h:Ev C e κ σ (.B n))(b:σ[n]?=QG (.B k)):Ev C (.F (.D 33) [e]) κ σ (.A k.length):=
 .l (.u QJ (.d (h.a (.j (.mk (by
  show QX (QX (M.f n σ) _) _=_;rw[fc b]
  rfl) ⟨QJ,QJ⟩)))))
noncomputable def fS(d:Rz Kn)(k:Kn):Kn×Bool:=match d with
 |none=>(k,QO)
 |some h=>(h.filter (λp=>Rc (aM k p.1=QG p.2)),Rc ((h.filter (λp=>Rc (aM k p.1=QG p.2))).length<h.length))
theorem cG.d{σ σ':af}{f g z:QN}{B:Bg}{k:Kn}(h:cG σ f B)(c:Ch f σ σ')(e:σ'[f]?=QG (.B (eD (bl rV B) g (.B z))))(j:cU σ' z k)(n:z≠f):cG σ' f (bJ B g (z,k)):=by
 refine⟨e.trans (RH (λk=>QG (AO.B k)) (lq rV B g (z,k))),λp a=> ?_⟩;unfold bJ at a
 induction l:B.any λp=>Rc (p.1=g) using QL with
 |true=>
  rw[l] at a
  (refine ag (λq i b=> ?_) (mM (show p∈B.map _ from a));subst b)
  induction Rc (q.1=g) using QL with
  |true=>exact⟨j,n⟩
  |false=>exact⟨c _ _ (h.2 q i).2 (h.2 q i).1,(h.2 q i).2⟩
 |false=>
  rw[l] at a
  (refine oO (λa=> ?_) (λa=> ?_) (mA (show p∈B++[_] from a)))
  ·exact⟨c _ _ (h.2 p a).2 (h.2 p a).1,(h.2 p a).2⟩
  ·obtain rfl:=m1 a
   exact⟨j,n⟩
theorem zp{α:Type}{l:QI (QN×α)}{k:QN}{v:α}(h:aM l k=RM):bJ l k v=l++[(k,v)]:=by
 rw[bJ,lN,h]
 rfl
theorem Hz(d:QN){σ:af}{c r ot u g q:QN}{ts:QI Ty}{B:Bg}{k:Kn}(hc:cS σ c r ot u ts)(w:cG σ u B)(a4:B.length≤100)(hu:∀p∈B,cg p.2.2∧p.2.2.length≤400)(hk:cU σ q k)(a5:k.length≤400):
  aa (aB (d+1) 312 [.B c,.A g,.B q]) σ λv σ'=>v=.D (fS ((aM B g).map (·.2)) k).2∧Ch u σ σ'∧∃z,cG σ' u (bJ B g (z,(fS ((aM B g).map (·.2)) k).1)):=by
 have a2:(bl rV B).length<aR:=by rw[bl,QP];exact Rp a4 (lB QJ)
 refine bx (pf:=sj) (κ:=[(71,.B c),(117,.A g),(87,.B q)]) (by kernel_rfl) (by kernel_rfl) λK hK=>.j (Ev.d (b:= !(aM B g).isSome) (Ev.h (x:=.A g) (y:=.B u) (by kernel_rfl) (Ev.f (n:=c) (by kernel_rfl) hc.1 (by kernel_rfl)) (rI w.1)) ?_)
 induction M:aM B g using QQ with
 |none=>
  refine .q (.qb (n:=q) (by kernel_rfl) hk (by rw[bl,QP];exact QK a5 (lB QJ)) λz a6 l=>Ev.a (v:=.B u) (Ev.f (n:=c) (by kernel_rfl) (l.1 _ _ hc.1) (by kernel_rfl)) (Ev.a (v:=.A g) (by kernel_rfl) (.V (l.1 _ _ w.1) a2 λN F e2=> ?_)));have O:z≠u:=(bU w.1 l.2.1).symm;exact .f (Ev.a (v:=.D QO) (by kernel_rfl) (hK _ _ _ ⟨by rw[M];rfl,l.1.f F,z,by rw[M];exact(w.b l.1).d F e2 (F _ _ O l.2.2) O⟩))
 |some zh=>
  obtain⟨z,h⟩:=zh;refine oA (λO a7=> ?_) (w.a M);have hh:=hu _ (gg M)
  refine .a (.a (.d (Ev.a (Ev.n hc w M (by kernel_rfl) (by kernel_rfl)) (.d (.qe (λp=>.A p.1) h (λys P σ'=>σ'=σ∧∃a Q:Kn,P=bl nV a∧Q++ys=h∧(∀y∈ys,aM a y.1=RM)∧a.length≤Q.length∧a++ys.filter (λp=>Rc (aM k p.1=QG p.2))=h.filter (λp=>Rc (aM k p.1=QG p.2)))
   (Ev.a (v:=.B z) (by kernel_rfl) (.qq (f:=nV) O ⟨QJ,.inr QJ,λZ Z Z g=>(ai _ (g.1▸O) (by rw[bl,UM];rfl)),QJ,[],[],QJ,QJ,λZ Z=>QJ,Sd _,QJ⟩)) (λx ys P σ' g=>.i ?_) λP σ' z' a6 g l=> ?_)))))
  ·(revert g;refine oA λR S=> ?_;subst R;revert S;refine bq λa Q T U=> ?_;subst T;revert U;refine cY λt ha E H=> ?_)
   have hx:=ji hh.1 (show x∈h by rw[←t];exact SF _ (QM ..))
   have a8:∀y∈ys,y.1≠x.1:=λy hy e=>by
    have:=hh.1;rw[cg,←t,Sg] at this;have:=(SO.mp (VY.mp this).2.1).1;exact this (VZ.mpr (ai y hy e))
   have I:∀{W:ay},Ev (aB d) (.A 55) W σ' (.B z)→Ev (aB d) (.A 89) W σ' (.A x.1)→Ev (aB d) (.C (.A 55) (.A 89)) W σ' (.A x.2):=λh1 h2=>Ev.m (k:=x.1) h1 h2 O (by rw[gB,hx];rfl)
   have a9:Ev (aB d) (.L (.A 87) .A [.A 89]) [(89,.A x.1),(55,.B z),(71,.B c),(117,.A g),(87,.B q)] σ' (((aM k x.1).map nV).getD .G):=by
    rw[←gB];exact Ev.q (by kernel_rfl) hk (by kernel_rfl)
   refine Ev.d (b:=Rc (aM k x.1=QG x.2)) (Ev.h a9 (I (by kernel_rfl) (by kernel_rfl)) ?_) ⟨λe=>Ev.a (v:=.A x.1) (by kernel_rfl) (ai x.1 QJ (Ev.a (I (by kernel_rfl) (by kernel_rfl)) ⟨?_,QJ,bJ a x.1 x.2,Q++[x],lq nV a x.1 x.2,(Rq ..).trans t,λy hy=> ?_,?_,?_⟩)),λe=>⟨QJ,a,Q++[x],QJ,(Rq ..).trans t,λy hy=>ha y (QV _ hy),by rw[QW];exact Sw E,?_⟩⟩
   ·induction aM k x.1 using QQ with
    |none=>rfl
    |some s=>
     show QG ((s:RW)==(x.2:RW),σ')=_;rw[show((s:RW)==(x.2:RW))=Rc (s=x.2) from iG s x.2];simp
   ·rw[bl,QP]
    have:Q.length≤h.length:=by rw[←t,QW];exact Sh _ _
    exact Rp (QK E (QK this hh.2)) (lB QJ)
   ·rw[gf,SK (a8 y hy)]
    exact ha y (QV _ hy)
   ·rw[QW]
    exact QK (oT _ _ _) (Tg E)
   ·rw[TU,SH e] at H
    rw[zp (ha x (QM ..)),Rq];exact H
   ·rw[TU,SK (by rw[e];decide)] at H
    exact H
  ·(revert g;refine oA λX Y=> ?_;subst X;revert Y;refine bq λa Q a0 a1=> ?_;subst a0;revert a1;refine cY λt ha E H=> ?_)
   rw[Yk,RD] at H;have b0:=l.1 _ _ O;have J:z'≠u:=(bU w.1 l.2.1).symm;refine .q (Ev.a (v:=.B z') (by kernel_rfl) (Ev.a (v:=.B u) (Ev.f (n:=c) (by kernel_rfl) (l.1 _ _ hc.1) (by kernel_rfl)) (Ev.a (v:=.A g) (by kernel_rfl) (.V (l.1 _ _ w.1) a2 λN F e2=> ?_))));have a3:=F _ _ J l.2.2;refine .f (Ev.a (v:=.D (Rc (a.length<h.length))) (Ev.h (Ev.o (by kernel_rfl) a3) (Ev.o (by kernel_rfl) (F _ _ a7 b0)) ?_) (hK _ _ _ ⟨?_,l.1.f F,z',?_⟩))
   ·show QG (Rc ((((bl nV a).length:QN):RW)<((bl nV h).length:QN)),N)=_
    rw[bl,bl,QP,QP,WB.mpr Ug]
   ·rw[M,H]
    rfl
   ·rw[M]
    show cG N u (bJ B g (z',h.filter _));rw[←H];exact(w.b l.1).d F e2 a3 J
noncomputable def bH(B:Bg)(n:QN):Rz Kn:=(aM B n).map (·.2)
def iX(b k:Kn):Prop:=∀a s,aM b a=QG s→aM k a=QG s
noncomputable def fW(f:QN→QN):QN→QN
 |0=>0
 |n+1=>fW f n+f n
set_option autoImplicit true in
theorem pG:fW f (n+1)=fW f n+f n:=QJ
theorem Aq{f:QN→QN}{c:QN}(h:∀n,f n≤c):∀n,fW f n≤n*c
 |0=>RQ _
 |n+1=>by rw[Nat.succ_mul];exact SR (Aq h n) (h n)
theorem Au{f g:QN→QN}:∀n,(∀j,j<n→f j=g j)→fW f n=fW g n
 |0,Z=>QJ
 |n+1,h=>by rw[pG,pG,Au n λj a=>h j (VA a),h n (TB n)]
theorem Ar{f g:QN→QN}{x:QN}(h:∀j,j≠x→g j=f j):∀n,x<n→fW g n+f x=fW f n+g x
 |0,a=>Ro a (VS _)
 |n+1,a=>by
  rw[pG,pG]
  (refine oO (λa=> ?_) (λe=> ?_) (qba.mp a)<;>try subst e)
  ·have:=Ar h n a
   rw[h n (UC a),RO,this,RO]
  ·rw[Au x λj b=>h j (Tj b)]
   (simp+arith)
noncomputable def ew(B:Bg)(n:QN):Nat:=match bH B n with
 |none=>302
 |some k=>k.length
theorem Gs(B:Bg)(g z:QN)(x:Kn)(j:QN):bH (bJ B g (z,x)) j=if j=g then QG x else bH B j:=by
 rw[bH,gf,bH];split<;>rfl
section
variable(bs:QI aE)(ts:QI Ty)
def ey(B:Bg):Prop:=cg B∧(∀p∈B,p.1<bs.length∧cg p.2.2∧p.2.2.length≤30*p.1)∧bH B 0=QG []∧∀p∈B,∀q∈p.2.2,q.2<ts.length
def ue(B:Bg)(n:QN):Prop:=∀k,bH B n=QG k→∀b:aE,bs[n]?=QG b→∀g∈b.2.qa,∃a,bH B g=QG a∧iX a (cQ ts k b.1)
def ft(H:QI QN)(B:Bg)(x:QN):Prop:=ey bs ts B∧(∀n∈H,(bH B n).isSome=QO)∧∀n,n∉H→n≠x→ue bs ts B n
end
variable{bs:QI aE}{ts:QI Ty}
theorem ey.b{B:Bg}(h:ey bs ts B):B.length≤bs.length:=by
 have:=YN h.1 λx a=>by
  (refine ag (λp c e=> ?_) (mM a);subst e)
  exact Vh.mpr (h.2.1 p c).1
 rwa[QP,RC] at this
theorem ey.a{B:Bg}(h:ey bs ts B){n:QN}{k:Kn}(e:bH B n=QG k):∃z,aM B n=QG (z,k)∧n<bs.length∧cg k∧k.length≤30*n:=by
 (refine bQ (λz k c b=> ?_) (mS e);subst b)
 exact(ai z c (h.2.1 _ (gg c)))
theorem DS{k:Kn}(u:cg k)(f:QN×QN→RG):iX (k.filter f) k:=λZ Z h=>
 ji u (Uc.mp (gg h)).1
theorem zW{ts:QI Ty}{k:Kn}{n:QN}{s:ab}(h:∀q∈k,q.2<n)(w:s.qa n):∀q∈jF ts k s,q.2<n:=by
 induction s using ab.casesOn with
 |B o=>exact h
 |C=>exact h
 |A l r=>
  refine have f:∀q∈cV k l,q.2<n:=λq c=>h q (Uc.mp c).1;?_;show∀q∈gk ts (cV k l) l (fD k r),q.2<n
  induction e:fD k r using QQ with
  |none=>exact f
  |some x=>
   have g:x<n:=by
    induction r using Rv.casesOn with
    |A o=>induction o using ae.casesOn with
     |A y=>
      obtain rfl:(aM k y).getD y=x:=QS e
      induction E:aM k y using QQ with
      |none=>exact w.2 y (QM ..)
      |some z=>exact h _ (gg E)
     |B b v=>exact aI e
     |C y i=>exact aI e
    |F a b=>exact aI e
    |B j a b=>exact aI e
    |D j a b=>exact aI e
    |G j a=>exact aI e
    |C a=>exact aI e
   intro q c;refine have c:q∈Sr (!Rc (x=l)&&(!dS ts l&& !dS ts x)) (bJ (cV k l) l x) (cV k l):=c;?_
   induction m: !Rc (x=l)&&(!dS ts l&& !dS ts x) using QL with
   |false=>rw[m] at c;exact f q c
   |true=>
    rw[m] at c;refine have c:q∈bJ (cV k l) l x:=c;?_;unfold bJ at c
    induction t:(cV k l).any λp=>Rc (p.1=l) using QL with
    |true=>
     rw[t] at c
     (refine ag (λu H d=> ?_) (mM (show q∈(cV k l).map _ from c));subst d)
     induction Rc (u.1=l) using QL with
     |true=>exact g
     |false=>exact f u H
    |false=>
     rw[t] at c
     (refine oO (λc=> ?_) (λc=> ?_) (mA (show q∈cV k l++[_] from c)))
     ·exact f q c
     ·obtain rfl:=m1 c
      exact g
theorem qa{ts:QI Ty}{n:QN}:∀{ss:QI ab} {k:Kn},(∀q∈k,q.2<n)→(∀s∈ss,s.qa n)→∀q∈cQ ts k ss,q.2<n
 |[],Z,h,U=>h
 |s::ss,k,h,a=>qa (ss:=ss) (zW h (a s (QM ..))) λx b=>a x (QV _ b)
theorem ey.c{B:Bg}(h:ey bs ts B){n:QN}{k:Kn}(e:bH B n=QG k):∀q∈k,q.2<ts.length:=by
 (refine bQ (λz k b a=> ?_) (mS e);subst a)
 exact h.2.2.2 _ (gg b)
theorem HA{GH:QI QN}{B:Bg}{x g z:QN}{kb:Kn}(h:ft bs ts GH B x)(hg:x<g)(hgl:g<bs.length)(hN:bs.length≤10)(hu:cg kb)(hl:kb.length≤30*g)(hvk:∀q∈kb,q.2<ts.length):
  ft bs ts (Sr (fS (bH B g) kb).2 (GH++[g]) GH) (bJ B g (z,(fS (bH B g) kb).1)) x∧
  (∀j,j≠g→bH (bJ B g (z,(fS (bH B g) kb).1)) j=bH B j)∧(∃k',bH (bJ B g (z,(fS (bH B g) kb).1)) g=QG k'∧iX k' kb)∧
  (Sr (fS (bH B g) kb).2 (GH++[g]) GH).length+fW (ew (bJ B g (z,(fS (bH B g) kb).1))) bs.length≤GH.length+fW (ew B) bs.length:=by
 (revert h;refine bk λz_415 h4 h5=> ?_;revert z_415;refine cY λh1 h2 h3 hvl=> ?_)
 generalize hm:fS (bH B g) kb=m;obtain⟨y,ch⟩:=m;have hput:=Gs B g z y;have hj:∀j,j≠g→bH (bJ B g (z,y)) j=bH B j:=λj e=>by rw[hput,SK e]
 have hgg:bH (bJ B g (z,y)) g=QG y:=by rw[hput,SH QJ]
 have facts:cg y∧y.length≤30*g∧iX y kb∧(∀k',bH B g=QG k'→iX y k')∧(ch=QR→bH B g=QG y)∧(ch=QO→y.length<ew B g)∧∀q∈y,q.2<ts.length:=by
  induction e:bH B g using QQ with
  |none=>
   rw[e] at hm
   (refine oA (λe_416 r_417=> ?_) (Tw hm);subst e_416;revert r_417;intro e_418;subst e_418)
   exact⟨hu,hl,λZ Z h=>h,nofun,nofun,λZ=>by rw[ew,e];exact Rp hl (Rp (Td 30 (Sm (Rj hgl hN))) (by decide:30*10<302)),hvk⟩
  |some k0=>
   rw[e] at hm
   (refine oA (λe_419 r_420=> ?_) (Tw hm);subst e_419;revert r_420;intro e_421;subst e_421)
   (refine jv (λz0 hz0 z_422 hu0 hl0=> ?_) (ey.a (cq h1 h2 h3 hvl) e))
   refine⟨pE hu0 _,QK (Uv _ _) hl0,λa s h=>Rl (Uc.mp (gg h)).2,λk' e'=> ?_,λe'=> ?_,λe'=> ?_,λq hq=>hvl _ (gg hz0) q (Uc.mp hq).1⟩
   ·rw[←QS e']
    exact DS hu0 _
   ·have:=Vb e'
    have:=List.length_filter_eq_length_iff.mp (qdD (Uv _ _) (TO.mp this));exact RH QG (YM.mpr this).symm
   ·rw[ew,e]
    exact Rl e'
 (revert facts;refine rN λf1 f2 f3 f4 f5 f6 f7=> ?_)
 have hw:∀j,j≠g→ew (bJ B g (z,y)) j=ew B j:=λj e=>by rw[ew,ew,hj j e]
 have hwg:ew (bJ B g (z,y)) g=y.length:=by rw[ew,hgg]
 have hs:=Ar hw bs.length hgl;rw[hwg] at hs
 have bi:ey bs ts (bJ B g (z,y)):=by
  refine(cq (Ao h1 _ _) (λp hp=> ?_) (by rw[hj 0 (Tj (Rp (RQ _) hg))];exact h3) λp hp q hq=> ?_)
  ·unfold bJ at hp
   induction ha:B.any λp=>Rc (p.1=g) using QL with
   |true=>
    rw[ha] at hp
    (refine ag (λq hq e_423=> ?_) (mM (show p∈B.map _ from hp));subst e_423)
    induction e:Rc (q.1=g) using QL with
    |true=>
     have e:=Rl e;exact(aL ((h2 q hq).1) f1 (by rw[e];exact f2))
    |false=>exact h2 q hq
   |false=>
    rw[ha] at hp
    (refine oO (λhp=> ?_) (λhp=> ?_) (mA (show p∈B++[_] from hp)))
    ·exact h2 p hp
    ·obtain rfl:=m1 hp
     exact(aL hgl f1 f2)
  ·unfold bJ at hp
   induction ha:B.any λp=>Rc (p.1=g) using QL with
   |true=>
    rw[ha] at hp
    (refine ag (λr hr e_424=> ?_) (mM (show p∈B.map _ from hp));subst e_424)
    induction e:Rc (r.1=g) using QL with
    |true=>rw[e] at hq;exact f7 q hq
    |false=>rw[e] at hq;exact hvl r hr q hq
   |false=>
    rw[ha] at hp
    (refine oO (λhp=> ?_) (λhp=> ?_) (mA (show p∈B++[_] from hp)))
    ·exact hvl p hp q hq
    ·obtain rfl:=m1 hp
     exact f7 q hq
 refine(cq (aL bi ?_ ?_) hj (ai y hgg f3) ?_)
 ·intro n hn
  rw[hput];split
  ·rfl
  ·rename_i e
   induction ch using QL with
   |true=>exact h4 n ((mA hn).resolve_right λq=>e (m1 q))
   |false=>exact h4 n hn
 ·intro n hn hx k hk b hb g' hg'
  have step:n≠g→∃k',bH (bJ B g (z,y)) g'=QG k'∧iX k' (cQ ts k b.1):=λe=>by
   have hnl:n∉GH:=by
    induction ch using QL with
    |true=>exact λq=>hn (TM _ q)
    |false=>exact hn
   rw[hj n e] at hk;refine ag (λk' e1 e2=> ?_) (h5 n hnl hx k hk b hb g' hg');rw[hput];split
   ·rename_i e'
    exact(ai y QJ λa s q=>e2 a s (f4 k' (e'▸e1) a s q))
   ·exact(ai k' e1 e2)
  by_cases e:n=g
  ·induction ch using QL with
   |true=>exact Ro (e▸SF GH (Ti.mpr QJ)) hn
   |false=>
    have hs:∀j,bH (bJ B g (z,y)) j=bH B j:=λj=>by
     by_cases q:j=g
     ·rw[q,hgg,f5 QJ]
     ·exact hj j q
    rw[hs] at hk;rw[hs];exact h5 n hn hx k hk b hb g' hg'
  ·exact step e
 ·induction ch using QL with
  |true=>
   have:=f6 QJ;show(GH++[g]).length+fW (ew (bJ B g (z,y))) bs.length≤_;rw[QW,TF,RO];exact Vf (Nat.lt_of_add_lt_add_right (n:=y.length) (hs▸Vf this _)) _
  |false=>
   have:ew B g=y.length:=by rw[ew,f5 QJ]
   simp_all
section
variable{C:QN→QI PV→M PV}{κ:ay}{σ:af}{Q:PV→af→Prop}
theorem RB.m{a:PE}{n:QN}{l:QI QN}{Q:RG→af→Prop}(h:Ev C a κ σ (.B n))(f:σ[n]?=QG (.A (aS l)))(q:∀σ',Le σ σ'→Q (!l.isEmpty) σ'):RB C (.H .C a (.I [])) κ σ Q:=
 .a (h.a ((aJ.a QJ).g λy d g=>by
  (revert g;refine ag λj e m=> ?_;subst e)
  show aa (M.a (eQ (.B n) (.B j)) λr=>.b (!r)) d Q
  exact .h (.mk (nB (m.1 _ _ f) m.2.2) (.i (q _ m.1)))))
theorem aa.qx{o:PE}{n:QN}{l:QI PV}{v:PV}(f:Ev C o κ σ (.B n))(d:σ[n]?=QG (.A (l++[v])))(q:∀σ',Ch n σ σ'→σ'[n]?=QG (.A l)→Q v σ'):aa (ak C (.L o .C []) κ) σ Q:=by
 refine .S f d (.j (bz _ d QJ ?_));show aa (M.a (M.h (l++[v]).getLast?) λg=>M.a (M.i n (.A (l++[v]).dropLast)) λZ=>.b g) σ Q;rw[List.getLast?_concat,List.dropLast_concat];exact .h (.i (.h (.L d λσ' c e=>.i (q σ' c e))))
end
theorem cS.d{σ σ':af}{c r ot bg q:QN}{ts:QI Ty}{l:QI PV}(h:cS σ c r ot bg ts)(b:σ[q]?=QG (.A l))(g:Ch q σ σ'):cS σ' c r ot bg ts:=
 (aL (g _ _ (λe=>by have:=h.1;rw[e,b] at this;exact nA this QJ) h.1) (h.2.1.a g (λe=>h.2.1.elim λk h=>by have:=h.1;rw[e,b] at this;exact nA this QJ)) h.2.2)
theorem cG.f{σ σ':af}{bg q:QN}{B:Bg}{l:QI PV}(h:cG σ bg B)(b:σ[q]?=QG (.A l))(g:Ch q σ σ'):cG σ' bg B:=
 ⟨g _ _ (λe=>by have:=h.1;rw[e,b] at this;exact nA this QJ) h.1,λp a=>⟨g _ _ (λe=>by have:=(h.2 p a).1;rw[e] at this;exact nA (b.symm.trans this) QJ) (h.2 p a).1,(h.2 p a).2⟩⟩
def cM(σ0 σ:af)(c r ot bg:QN)(ts:QI Ty)(B:Bg):Prop:=Le σ0 σ∧cS σ c r ot bg ts∧cG σ bg B
theorem cM.a{σ0 σ σ':af}{c r ot bg:QN}{ts:QI Ty}{B:Bg}(h:cM σ0 σ c r ot bg ts B)(l:Le σ σ'):cM σ0 σ' c r ot bg ts B:=(aL (h.1.a l) (h.2.1.a l) (h.2.2.b l))
theorem cM.b{σ0 σ σ':af}{c r ot bg q:QN}{ts:QI Ty}{B:Bg}{l:QI PV}(h:cM σ0 σ c r ot bg ts B)(e:σ0[q]?=RM)(a:σ[q]?=QG (.A l))(g:Ch q σ σ'):cM σ0 σ' c r ot bg ts B:=
 (aL (h.1.c e g) (h.2.1.d a g) (h.2.2.f a g))
section
variable{σ0:af}{c r ot bg A:QN}{ts:QI Ty}{bs:QI aE}
theorem vE{GH:QI QN}{B:Bg}(h:ft bs ts GH B bs.length)(n:QN)(hn:n∉GH):ue bs ts B n:=by
 by_cases e:n=bs.length
 ·intro k Z b hb
  rw[e,TZ (Sd _)] at hb;exact aI hb
 ·exact h.2.2 n hn e
theorem Dl(d:QN)(hb:aZ σ0 r A (ts.map cu) bs)(hf:dO bs)(h1:0<bs.length)(hfit:dy ts.length bs)(hbg:σ0[bg]?=RM){σ:af}{z:QN}(hG:cM σ0 σ c r ot bg ts [(0,(z,[]))]):
  aa (aB (d+4) 319 [.B c]) σ λv σ'=>v=.G∧∃B,cM σ0 σ' c r ot bg ts B∧ft bs ts [] B bs.length:=by
 refine dw (λrb vs hv hvs hlen hblk=> ?_) (hb.b);refine bx (pf:=si) (κ:=[(71,.B c)]) QJ QJ λK hK=>.d ((aJ.a (l:=[.A 0]) QJ).g λv σ1 g=> ?_)
 (revert g;refine ag λlf e_426 n1=> ?_;subst e_426)
 have flf:σ0[lf]?=none:=hG.1.d n1.2.1;have hk0:bH [(0,(z,[]))] 0=QG []:=QJ
 refine .w (I:=λm κ σ=>ar [(58,.B lf),(71,.B c)] κ∧∃GH B,σ[lf]?=QG (.A (aS GH))∧cM σ0 σ c r ot bg ts B∧ft bs ts GH B bs.length∧GH.length+fW (ew B) bs.length≤m∧m≤3021) (1+bs.length*302) ?_
  ⟨ar.g _,[0],_,n1.2.2,hG.a n1.1,(aL (cq (SO.mpr ⟨Rb,UD⟩) (λp hp=> ?_) hk0 λp hp q hq=> ?_) (λn hn=>by rw[m1 hn];rfl) λn hn Z k hk=> ?_),Si (Aq (λn=> ?_) _) 1,Si (VD 302 hf.1) 1⟩ λm κ σ2 I J hJ Z=> ?_
 ·have:=VD 302 hf.1
  exact Rp (Si this 1) (lB QJ)
 ·obtain rfl:=m1 hp
  exact(aL h1 UD (Sd _))
 ·obtain rfl:=m1 hp
  exact Ro hq Rb
 ·have:bH [(0,(z,([]:Kn)))] n=none:=by
   rw[bH,aM,TP,RJ λe:0=n=>hn (Ti.mpr e.symm)]
   rfl
  rw[this] at hk;exact aI hk
 ·show ew [(0,(z,([]:Kn)))] n≤302
  unfold ew;rw[bH,aM,TP]
  induction Rc (0=n) using QL with
  |true=>exact RQ _
  |false=>exact Sd _
 ·(revert I;refine yi λhs GH B hlf hG2 hI hm hm9=> ?_)
  refine aa.D (RB.m QJ hlf λσ3 h3=>⟨λe=>.p hs ?_,λe=>.p hs ?_⟩) hs
  ·(refine jx (λleft0 n e_427=> ?_) ((by
    rcases List.eq_nil_or_concat GH with rfl|⟨l,n,h⟩
    ·exact aD e
    ·exact(kU l n (by rw[h,List.concat_eq_append])):∃l n,GH=l++[n]));subst e_427)
   have hlf3:=h3 _ _ hlf;rw[gH] at hlf3;refine .d (.qx QJ hlf3 λσ4 c4 e4=> ?_);have hG4:=(hG2.a h3).b flf hlf3 c4;refine oE (λk hk=> ?_) (Tx.mp (hI.2.1 n (SF _ (Ti.mpr QJ))));refine jv (λzn hz hn huk hlk=> ?_) (hI.1.a hk);refine oE (λb hbn=> ?_) ((⟨_,Rk hn⟩:∃b,bs[n]?=QG b));have h30:=hf.2 b (Rg hbn);have hn9:n≤9:=SM (Rj hn hf.1);have h270:k.length≤270:=QK hlk (Td 30 hn9);refine .d (.F QJ hG4.2.1.1 QJ QJ (.d (Ev.a QJ (.j ((Bq d (hb.a hG4.1) hG4.2.1 hG4.2.2 hz hbn huk (QK h270 (by decide)) h30).g λv σ5 g=> ?_)))))
   (revert g;refine ag λq e_429 r_430=> ?_;subst e_429;revert r_430;refine bk λh5 fq hq=> ?_)
   have hG5:=hG4.a h5
   (refine cm (λi j hi hij z_431=> ?_) (hblk hbn))
   have hkl:(cQ ts k b.1).length≤30*n+30:=QK (Bn ts k b.1) (SR hlk h30);have hqbg:q≠bg:=(bU hG4.2.2.1 fq).symm;refine .i (.k QJ (.d (Ev.a (Ev.g (k:=1) (x:=.A 1) (Ev.g (hv hG5.1 (Ev.f QJ hG5.2.1.1 QJ)) QJ (hG5.1 _ _ hvs) (dG n) hi) QJ (hG5.1 _ _ hij) QJ QJ) (.j ((Ac (d+2) σ5 b.2 (hfit n b hbn).2.1).g λv σ6 g=> ?_)))))
   (revert g;refine yl λks hks z_432 p e_433 n6=> ?_;subst e_433)
   have hlp:lf≠p:=bU (h5 _ _ e4) n6.2.1
   refine .s n6.2.2 (RF.a _ ks (λ(Z:UE)=>[(58,.B lf),(87,.B q),(71,.B c)]) (λys Z σ'=>σ'[p]?=QG (.A (aS ks))∧cU σ' q (cQ ts k b.1)∧(∀y∈ys,y∈b.2.qa)∧∃GH B,σ'[lf]?=QG (.A (aS GH))∧cM σ0 σ' c r ot bg ts B∧ft bs ts GH B n∧bH B n=QG k∧
     (∀g∈b.2.qa,g∈ys∨∃k',bH B g=QG k'∧iX k' (cQ ts k b.1))∧GH.length+fW (ew B) bs.length<m) () QJ (.r QJ)
    ⟨n6.2.2,n6.1 _ _ hq,λy hy=>(hks y).mp hy,left0,B,n6.1 _ _ (h5 _ _ e4),hG5.a n6.1,(aL hI.1 (λx hx=>hI.2.1 x (TM _ hx)) λx hx hxn=>vE hI x (λq=>(mA q).elim hx λq=>hxn (m1 q))),hk,λg hg=>.inl ((hks g).mpr hg),?_⟩ (λZ Z Z g=>g.1) (λx ys Z σ7 g J' hJ' Z=>.i ?_) λZ σ7 g=> ?_)
   ·rw[QW,TF] at hm
    (have e:=hm;simp+arith at e;exact e)
   ·(revert g;refine ya λg1 g2 g3 lft B' g4 g5 g6 g7 g8 g9=> ?_)
    have hg:=(hfit n b hbn).2.2.2 x (g3 x (QM ..));have hkx:(cQ ts k b.1).length≤30*x:=QK hkl (by have:=hg.1;exact Td _ this);have hx9:x≤9:=SM (Rj hg.2 hf.1);have h400:∀p∈B',cg p.2.2∧p.2.2.length≤400:=λp hp=>⟨(g6.1.2.1 p hp).2.1,QK (g6.1.2.1 p hp).2.2 (by have:=(g6.1.2.1 p hp).1;have:=hf.1;lia)⟩;have step:=λz=>HA (z:=z) g6 hg.1 hg.2 hf.1 (Bo huk b.1) hkx (qa (hI.1.c hk) (hfit n b hbn).1);refine .j (aa.F QJ g5.2.1.1 QJ QJ (.d (Ev.a QJ (.d (Ev.a QJ (.j ((Hz (d+2) g5.2.1 g5.2.2 (QK g6.1.b (QK hf.1 (by decide))) h400 g2 (QK hkx (QK (Td _ hx9) (by decide)))).g λv σ8 g=>(ai _ g.1 ?_))))))))
    (revert g;refine yb λz_434 c8 z8 b8=> ?_)
    refine cY (λt1 t2 t3 t4=> ?_) (step z8);have hlfb:lf≠bg:=λe=>by rw[e,g5.2.2.1] at g4;exact nA g4 QJ
    have hpb:p≠bg:=λe=>by rw[e,g5.2.2.1] at g1;exact nA g1 QJ
    have hG8:cM σ0 σ8 c r ot bg ts (bJ B' x (z8,(fS (bH B' x) (cQ ts k b.1)).1)):=(aL (g5.1.c hbg c8) (g5.2.1.b g5.2.2.1 c8 g5.2.1.2.2) b8)
    have g88:∀g∈b.2.qa,g∈ys∨∃k',bH (bJ B' x (z8,(fS (bH B' x) (cQ ts k b.1)).1)) g=QG k'∧iX k' (cQ ts k b.1):=λg hg=>by
     by_cases e:g=x
     ·rw[e]
      exact .inr t3
     ·rw[t2 g e]
      exact(g8 g hg).imp_left λh=>(mC h).resolve_left e
    have hkn:=(t2 n (Tj hg.1)).trans g7;have lt8:=Rp t4 g9;have e4:=c8 _ _ hlfb g4;have ys8:=λy hy=>g3 y (QV x hy);show RS _ (Sr (fS (bH B' x) (cQ ts k b.1)).2 _ _) _ σ8 _;generalize fS (bH B' x) (cQ ts k b.1)=mv at*;obtain⟨y,ch⟩:=mv
    induction ch using QL with
    |false=>exact .a (.b (hJ' () _ _ (.r QJ) ⟨c8 _ _ hpb g1,c8 _ _ hqbg g2,ys8,lft,_,e4,hG8,t1,hkn,g88,lt8⟩))
    |true=>
     refine .k (.J QJ e4 (Ev.a QJ (bz _ e4 ?_ λσ9 c9 e9=>.a (.b (hJ' () _ _ (.r QJ) ⟨c9 _ _ hlp.symm (c8 _ _ hpb g1),c9 _ _ (λe=> ?_) (c8 _ _ hqbg g2),ys8,lft++[x],_,?_,hG8.b flf e4 c9,t1,hkn,g88,lt8⟩)))))
     ·rw[eY]
      have:lft.length≤3021:=QK (QK (Sh _ _) (Sm g9)) hm9;exact Rp this (lB QJ)
     ·rw[e] at g2
      exact nA (g2.symm.trans g4) QJ
     ·rw[e9,gH]
      rfl
   ·(revert g;refine ya λg1 g2 g3 lft B' g4 g5 g6 g7 g8 g9=> ?_)
    refine .a (hJ _ _ _ g9 ⟨.r QJ,lft,B',g4,g5,(aL g6.1 g6.2.1 λx hx Z=> ?_),Sd _,QK (Sm g9) hm9⟩)
    by_cases e:x=n
    ·intro k' hk' b' hb' g hg
     rw[e,g7] at hk';rw[e,hbn] at hb';rw[←QS hk',←QS hb'];rw[←QS hb'] at hg;exact(g8 g hg).resolve_left Rb
    ·exact g6.2.2 x hx e
  ·have:GH=[]:=by
    induction GH using Rm with
    |nil=>rfl
    |cons a l=>exact fT e
   subst this;exact .a (hK _ _ _ (cE QJ B (hG2.a h3) hI))
end
noncomputable def gK(ts:QI Ty)(k:Kn):QI ab→QI ab
 |[]=>[]
 |s::r=>s.qf k::gK ts (jF ts k s) r
noncomputable def gd(ts:QI Ty)(B:Bg)(n:QN)(b:aE):aE:=match bH B n with
 |none=>b
 |some k=>(gK ts k b.1,b.2.qf (cQ ts k b.1))
noncomputable def eP(ts:QI Ty)(B:Bg)(s:QI aE):QI aE:=s.mapIdx λi b=>gd ts B i b
theorem wW(x:QN):∀l:QI QN,∃m:QI QN,iK x (l.map λ(n:QN)=>(n:RW))=m.map (λ(n:QN)=>(n:RW))∧m.length=l.length+1∧∀y,y∈m↔y=x∨y∈l
 |[]=>(bz ([x]) QJ QJ λy=>by simp)
 |a::l=>by
  show∃m:QI QN,Sr (Rc ((x:RW)≤a)) ((x:RW)::(a:RW)::_) ((a:RW)::iK x _)=_∧_
  induction Rc ((x:RW)≤a) using QL with
  |true=>exact(bz (x::a::l) QJ QJ λy=>by simp)
  |false=>
   refine du (λm h b c=> ?_) (wW x l);refine(bz (a::m) (RH ((a:RW)::·) h) (RH (·+1) b) λy=> ?_);rw[SI,SI,c y];exact or_left_comm
theorem zS:∀l:QI QN,∃m:QI QN,jD (l.map λ(n:QN)=>(n:RW))=m.map (λ(n:QN)=>(n:RW))∧m.length=l.length∧∀y,y∈m↔y∈l
 |[]=>(bz ([]) QJ QJ λZ=>Iff.rfl)
 |a::l=>by
  refine du (λm h b c=> ?_) (zS l);refine du (λd g e f=> ?_) (wW a m);refine(bz d ((RH (iK a) h).trans g) (by rw[e,b];rfl) λy=> ?_);rw[f,c,SI]
theorem aa.qy{C:QN→QI PV→M PV}{κ:ay}{σ:af}{Q:PV→af→Prop}{e:PE}{n:QN}{α:Type}{f:α→PV}{l:QI (QN×α)}(b:Ev C e κ σ (.B n))(p:σ[n]?=QG (.B (bl f l)))(t:l.length≤40)
  (q:∀m r σ',(∀y,y∈m↔y∈l.map (·.1))→m.length=l.length→fH σ r (.A (aS m)) σ'→Q (.B r) σ'):aa (ak C (.F (.D 123) [e]) κ) σ Q:=by
 refine .u (g:=.I) QJ (.d (b.a (.j ?_)));show aa (M.a (eA (.B n)) λn=>M.a (M.f n) λo=>M.a (iC o) λs=>.c (Um s.length 40) (.j (.A ((jD (s.map (·.1))).map .A)))) σ Q;refine du (λm v z E=> ?_) (zS (l.map (·.1)));refine .h (.i (.h (.w p (.h (.i (.l (Wv.mpr (by rw[bl,QP];exact t)) (.x λr σ' k=>q m r σ' E (by rw[z,QP]) ?_)))))))
 have G:(bl f l).map (·.1)=(l.map (·.1)).map λ(n:QN)=>(n:RW):=by
  rw[bl,UM,UM]
  rfl
 rw[G,v,UM] at k;exact k
theorem Ld(ps:QI Bp)(n:QN)(p:Bp):(ps.map bN).set n (.B p.1)=(ps.set n p).map bN:=WL.symm
theorem qj(d:QN){σ:af}{r A:QN}{ts:QI Ty}{bs:QI aE}(hb:aZ σ r A (ts.map cu) bs)(hf:dO bs)(h1:0<bs.length)(h9:ts.length≤9)(hfit:dy ts.length bs):
  aa (aB (d+5) 333 [.B r]) σ λv σ'=>Le σ σ'∧∃q B,v=.B q∧ft bs ts [] B bs.length∧aZ σ' q A (ts.map cu) (eP ts B bs):=by
 refine bx QJ QJ λK hK=>.d (.u QJ (.d (Ev.a QJ (.j (Dm (d+2) hb h9 λc ot bg z σ1 l1 hc fbg hB=> ?_)))));refine .k (.F QJ hc.1 QJ QJ (.j ((Dl d hb hf h1 hfit fbg (aL l1 hc hB)).g λv σ2 g=> ?_)))
 (revert g;refine cc λz_435 B hG hI=> ?_)
 have ht:(ts.map cu).length≤aR:=bT (by rw[QP];exact QK h9 (Sq _ _));refine .d (.k QJ (.d (Ev.a QJ (.j (vn (d+2) (hb.a hG.1) hf ht λq nm rl rb rs ps σ3 l3 fq frb g1 g2 g3 g4 g5 g6 g7=> ?_)))));have hG3:=hG.a l3;have hBl:B.length≤10:=QK hI.1.b hf.1;refine .i (.qy (Ev.f QJ hG3.2.1.1 QJ) hG3.2.2.1 (QK hBl (by decide)) λm p σ4 hm hml n4=>.s n4.2.2 ?_);refine dw (λrb0 vs hv hvs hlen hblk=> ?_) (hb.b);have hlp:ps.length=bs.length:=by rw[←g6,QP]
 have frb2:σ2[rb]?=none:=frb
 refine RF.a _ m (λ(Z:UE)=>[(85,.B q),(112,.B c),(43,.B r)]) (λys Z σ'=>Ch rb σ4 σ'∧(∀y∈ys,y∈m)∧∃ps:QI Bp,σ'[rb]?=QG (.A (ps.map bN))∧ps.length=bs.length∧(∀p∈ps,cB σ' p∧p.1≠rb∧p.2.1≠rb)∧∀(i:QN) (p:Bp) (b:aE),ps[i]?=QG p→bs[i]?=QG b→i∉ys→p.2.2=gd ts B i b) () QJ (.r QJ)
  ⟨λZ Z Z e=>e,λZ h=>h,ps,n4.1 _ _ g4,hlp,λp hp=>⟨(g5 p hp).1.a n4.1,(g5 p hp).2⟩,λi p b hp hb hi=> ?_⟩ (λZ Z σ' g=>g.1 _ _ (bU g4 n4.2.1).symm n4.2.2) (λx ys Z σ5 g J hJ Z=>.i ?_) λZ σ5 g=> ?_
 ·have:bH B i=none:=by
   induction e:bH B i using QQ with
   |none=>rfl
   |some k=>
    (refine ag (λz hz z_436=> ?_) (hI.1.a e))
    exact Ro ((hm i).mpr (Up (gg hz))) hi
  rw[gd,this];have:=RH (·[i]?) g6;simp only[Rn,hp,qcu,hb,qaR] at this;exact this
 ·(revert g;refine yc λk1 k2 qs k3 k4 k5 k6=> ?_)
  obtain⟨⟨x',z,k⟩,hxB,hx'⟩:=mM ((hm x).mp (k2 x (QM ..)));have hx':x'=x:=hx';subst hx';have hz:=ji hI.1.1 hxB;have hk:bH B x'=QG k:=by rw[bH,hz];rfl
  obtain⟨-,-,hn,huk,hlk⟩:=hI.1.a hk;refine oE (λb hbn=> ?_) ((⟨_,Rk hn⟩:∃b,bs[x']?=QG b));have h30:=hf.2 b (Rg hbn);have h270:k.length≤270:=QK hlk (Td 30 (SM (Rj hn hf.1)));have hG4:=hG3.a n4.1;have hG5:cM σ σ5 c r ot bg ts B:=hG4.b (hG.1.d frb) (n4.1 _ _ g4) k1;refine cm (λi j hi hij hj=> ?_) (hblk hbn);refine .l (.I (.d (.qb (Ev.n hG5.2.1 hG5.2.2 hz QJ QJ) (hG5.2.2.a hz).1 (by rw[bl,QP];exact QK h270 (lB QJ)) λkq σ6 n6=>.d ((aJ.a QJ).g λv σ7 g=> ?_))))
  (revert g;refine ag λmk e_437 n7=> ?_;subst e_437)
  have hG7:=(hG5.a n6.1).a n7.1;refine .j (.z (lB QJ) (.mk QJ ⟨QJ,.l (Ev.a (Ev.g (hv hG7.1 QJ) QJ (hG7.1 _ _ hvs) (dG x') hi) (.p (hG7.1 _ _ hij) ⟨QJ,.i (Ev.a QJ ?_)⟩))⟩));have h57:=n6.1.a n7.1;have fmk:=n6.1.d n7.2.1;have hkm:kq≠mk:=bU n6.2.2 n7.2.1;have hoq:ot≠kq:=hG5.2.1.2.1.elim λok h=>bU h.1 n6.2.1
  refine .s (hG7.1 _ _ hj) (RF.a ab.v b.1 (λ(Z:UE)=>[(163,b.2.v),(62,.B mk),(87,.B kq),(117,.A x'),(85,.B q),(112,.B c),(43,.B r)]) (λys Z σ'=>Le σ5 σ'∧∃k' dn,cU σ' kq k'∧σ'[mk]?=QG (.A (Yz ab.v dn))∧cg k'∧k'.length+ys.length≤300∧cQ ts k' ys=cQ ts k b.1∧dn++gK ts k' ys=gK ts k b.1∧dn.length+ys.length≤30) () QJ (.r QJ)
   ⟨h57,k,[],n7.1 _ _ n6.2.2,n7.2.2,huk,SR h270 h30,QJ,QJ,by rw[UJ,SG];exact h30⟩ (λZ Z Z g=>(hG5.a g.1).1 _ _ hj) (λs ys' Z σ8 g J' hJ' Z=>.i ?_) λZ σ8 g=> ?_)
  ·(revert g;refine yj λm1 k' dn m2 m3 m4 m5 m6 m7 m8=> ?_)
   have m8:dn.length+1+ys'.length≤30:=by rw[Se] at m8;exact QK (Sx (RO _ _ _)) m8
   have m5:k'.length+1+ys'.length≤300:=by rw[Se] at m5;exact QK (Sx (RO _ _ _)) m5
   refine .k (.J QJ m3 (.k QJ (.d (Ev.a QJ (.d (Ev.a QJ (.j ((Kj d m2 s).g λv σ9 g=> ?_))))))))
   (revert g;refine oA λe_438 m9=> ?_;subst e_438)
   refine(bz _ (m9 _ _ m3) (by rw[QP];exact Rp (show dn.length≤30 by lia) (lB QJ)) λσ10 c10 e10=> ?_);have hG10:=hG5.a ((m1.a m9).c fmk c10);refine .k (.F QJ hG10.2.1.1 QJ QJ (.d (Ev.a QJ (.d (Ev.a QJ (.j ((zV (d+2) hG10.2.1 (c10 _ _ hkm (m9 _ _ m2)) m4 (by lia) hoq s).g λv σ11 g=> ?_)))))))
   (revert g;refine bk λz_439 c11 k11=> ?_)
   refine .a (hJ' () _ _ (.r QJ) ⟨((m1.a m9).c fmk c10).c n6.2.1 c11,_,dn++[s.qf k'],k11,?_,pw m4 s,QK (RR (tv ts k' s) _) m5,m6,?_,by rw[QW];exact m8⟩)
   ·rw[c11 _ _ hkm.symm e10,Sg]
    rfl
   ·rw[Rq]
    exact m7
  ·(revert g;refine yj λm1 k' dn m2 m3 m4 m5 m6 m7 m8=> ?_)
   obtain rfl:dn=gK ts k b.1:=(RD dn).symm.trans m7;obtain rfl:k'=cQ ts k b.1:=m6;refine .q (.y (.d (Ev.a QJ (.d (.k QJ (.d (Ev.a QJ (.d (Ev.a QJ (.j ((Kk (d+2) m2 b.2).g λv σ9 g=> ?_)))))))))))
   (revert g;refine oA λe_440 m9=> ?_;subst e_440)
   refine .j (.n (lB QJ) λa σ10 n10=> ?_);have h510:=(m1.a m9).a n10.1;have eq4:=k1 _ _ (λe=>by rw[e,g4] at g1;exact nA g1 QJ) (n4.1 _ _ g1);refine Ev.a (Ev.f QJ (h510 _ _ eq4) QJ) (Ev.a QJ (.Y (h510 _ _ k3) (by rw[QP,k4];exact hn) λσ11 c11 e11=> ?_));have hmk:mk≠rb:=(bU k3 fmk).symm;have ha:a≠rb:=(bU (m9 _ _ (m1 _ _ k3)) n10.2.1).symm;rw[Ld qs x' (a,mk,(gK ts k b.1,b.2.qf (cQ ts k b.1)))] at e11;refine .a (hJ () _ _ (.r QJ) ⟨k1.a (h510.f c11),λy hy=>k2 y (QV _ hy),_,e11,by rw[Vc];exact k4,λp hp=> ?_,λi' p b' hp hb' hi'=> ?_⟩)
   ·(refine oO (λhp=> ?_) (λe_441=> ?_) (Va hp)<;>try subst e_441)
    ·have:=k5 p hp
     exact⟨⟨c11 _ _ this.2.1 (h510 _ _ this.1.1),c11 _ _ this.2.2 (h510 _ _ this.1.2)⟩,this.2⟩
    ·exact(aL ⟨c11 _ _ ha n10.2.2,c11 _ _ hmk (n10.1 _ _ (m9 _ _ m3))⟩ ha hmk)
   ·rw[Vx] at hp
    by_cases e:x'=i'
    ·subst e
     rw[SH QJ,SH (k4▸hn)] at hp;rw[hbn] at hb';rw[←QS hp,←QS hb',gd,hk]
    ·rw[SK e] at hp
     exact k6 i' p b' hp hb' λh=>(mC h).elim (λq=>e q.symm) hi'
 ·(revert g;refine yc λk1 k2 qs k3 k4 k5 k6=> ?_)
  have l4:=hG.1.a (l3.a n4.1);refine .f (Ev.a QJ (hK _ _ _ ⟨l4.c (hG.1.d frb) k1,q,B,QJ,hI,nm,rl,rb,rs,k1 _ _ (λe=>by rw[e,g4] at g1;exact nA g1 QJ) (n4.1 _ _ g1),k1 _ _ g7 (n4.1 _ _ g2),k1 _ _ (λe=>by rw[e,g4] at g3;exact nA g3 QJ) (n4.1 _ _ g3),qs,k3,λp hp=>(k5 p hp).1,?_⟩));apply qcC;intro i;rw[Rn,eP,Vd]
  induction hb:bs[i]? using QQ with
  |none=>rw[TZ (by rw[k4];exact List.getElem?_eq_none_iff.mp hb)];rfl
  |some b=>
   (refine oE (λhl z_442=> ?_) (Te.mp hb))
   have hp:=Rk (k4.symm▸hl:i<qs.length);rw[hp];exact RH QG (k6 i _ b hp hb Rb)
def bX(σ:af)(s:QN):Prop:=∃(x y:RW) (z:QN),σ[s]?=QG (.A [.A x,.A y,.B z])∧σ[z]?=QG (.A [])∧0≤x∧0≤y∧y<2147483647∧z=0
def Dr(s:QN)(σ σ':af):Prop:=Ch s σ σ'∧bX σ' s
theorem bX.a{σ σ':af}{s:QN}(h:bX σ s)(l:Le σ σ'):bX σ' s:=by
 (revert h;refine gO λx y z b c d=> ?_)
 exact(jm x y z (l _ _ b) (l _ _ c) d)
theorem Dr.d{σ σ' a:af}{s:QN}(l:Le σ σ')(h:Dr s σ' a):Dr s σ a:=⟨l.f h.1,h.2⟩
theorem Dr.a{σ σ' b:af}{s:QN}(h:Dr s σ σ')(g:Dr s σ' b):Dr s σ b:=⟨h.1.a g.1,g.2⟩
theorem Dr.b{σ σ' c:af}{s:QN}(h:Dr s σ σ')(g:Le σ' c):Dr s σ c:=⟨h.1.b g,h.2.a g⟩
theorem Dr.c{s m:QN}{b σ' a:af}(h:Dr s b σ')(n:bX b s)(g:b[m]?=RM)(c:Ch m σ' a):Dr s b a:=by
 (refine kZ (λx y z p q r t u d=> ?_) (h.2);subst d)
 (revert n;refine kZ λB C D v w i k l f=> ?_;subst f)
 exact⟨λj o A e=>c j o (bU e g) (h.1 j o A e),x,y,0,c _ _ (bU v g) p,c _ _ (bU w g) q,r,t,u,QJ⟩
theorem ti{i:RW}(h:0≤i∧i<2147483648):dY i=true:=Ry ⟨RN (by decide) h.1,Yl h.2 (by decide)⟩
theorem HK{i:RW}(h:0≤i):∃n:QN,i=n:=⟨i.toNat,(qch h).symm⟩
theorem rF(i:RW){t:QN}(b:0<t):∃n:QN,i.fmod t=n∧n<t:=by
 have h:(0:RW)<t:=Int.natCast_pos.mpr b;refine oE (λn a=> ?_) (HK (Ym i h));exact(ai n a (Ug.mp (a▸Zp i h)))
theorem iH{σ:af}{i j:RW}(h:j≠0):gb .C (.A i) (.A j) σ=QG (.A (i.fmod j),σ):=by
 show M.c (Rc (j≠0)) (.b (PV.A (i.fmod j))) σ=_;rw[Ry h]
 rfl
theorem vN{σ:af}{i j:RW}(h:j≠0)(s:dY j=QO):gb .G (.A i) (.A j) σ=QG (.A (i.fdiv j),σ):=by
 show M.c (Rc (j≠0)&&dY j) (.b (PV.A (i.fdiv j))) σ=_;rw[Ry h,s]
 rfl
theorem rH{σ:af}{i j:RW}(s:dY j=QO):gb .F (.A i) (.A j) σ=QG (.A (i*j),σ):=by
 show M.c (dY i||dY j) (.b (PV.A (i*j))) σ=_;rw[s,Zy]
 rfl
theorem tH(d:QN){σ:af}{s bK:QN}(T:bX σ s)(J:0<bK)(U:bK≤1000):aa (aB (d+1) 347 [.B s,.A bK]) σ λv σ'=>Dr s σ σ'∧∃t:QN,v=.A t∧t<bK:=by
 (revert T;refine kZ λx y z L E R V M F=> ?_)
 have N:(bK:RW)≠0:=λe=>UC J (Vk e);have G:z≠s:=λe=>by rw[e,L] at E;exact nomatch E
 refine bx (pf:=sC) (κ:=[(124,.B s),(37,.A bK)]) QJ QJ λK S=>.j (.m (l:=[]) (Ev.g (k:=2) (x:=.A 2) QJ QJ L QJ QJ) E λW H=>.a (.a ?_))
 have O:∀{κ σ':_} {v w u},σ'[s]?=QG (.A [v,w,u])→κ.lookup 124=QG (.B s)→Ev (aB d) (.C (.A 124) (.B (.A 0))) κ σ' v:=λ{κ σ' v w u} e h=>
  Ev.g (k:=0) (by show(κ.lookup 124).map _=_;rw[h];rfl) (by rfl) e QJ QJ
 have P:∀{κ σ':_} {v w u},σ'[s]?=QG (.A [v,w,u])→κ.lookup 124=QG (.B s)→Ev (aB d) (.C (.A 124) (.B (.A 1))) κ σ' w:=λ{κ σ' v w u} e h=>
  Ev.g (k:=1) (by show(κ.lookup 124).map _=_;rw[h];rfl) (by rfl) e QJ QJ
 have D:=H _ _ L;refine .j (Ev.d (b:=Rc (x>0)) (Ev.h (O D QJ) (y:=.A 0) QJ QJ) ?_)
 induction Rc (x>0) using QL with
 |true=>
  refine ag (λt n o=> ?_) (rF x J);refine .d (Ev.a (Ev.i (O D QJ) QJ (by rw[iH N,n])) (.q (Ev.a (Ev.i (O D QJ) QJ (vN N (ko ⟨RN (by decide) (Rx _),Sz.mpr U⟩))) (Ev.a QJ (Ev.a (v:=.A (0:QN)) QJ (.Y D (lB QJ) λQ I c=> ?_))))));exact .f (Ev.a QJ (S _ _ _ (cE ⟨H.f I,_,_,z,c,I _ _ G (H _ _ E),Int.fdiv_nonneg R (Rx _),V,M,F⟩ t QJ o)))
 |false=>
  have p:=Ym (y*39373+7) (b:=2147483647) (by decide);have r:=Zp (y*39373+7) (b:=2147483647) (by decide);refine .a (.a (.q (Ev.a (Ev.i (Ev.i (Ev.i (P D QJ) QJ (rH (ti (by decide)))) QJ QJ) QJ (iH (by decide))) (Ev.a QJ (Ev.a QJ (.Y D (lB QJ) λQ I c=> ?_))))));generalize (y*39373+7).fmod 2147483647=w at p r c;refine ag (λt n o=> ?_) (rF (((w*w).fmod 2147483629).fdiv 32) J);refine .f (Ev.a (Ev.i (Ev.i (Ev.i (Ev.i (P c QJ) (P c QJ) (rH (ti ⟨p,Yl r (by decide)⟩))) QJ (iH (by decide))) QJ (vN (by decide) (ti (by decide)))) QJ (by rw[iH N,n])) (S _ _ _ (cE ⟨H.f I,x,w,z,c,I _ _ G (H _ _ E),R,p,r,F⟩ t QJ o)))
theorem yC(d:QN){σ:af}{s r:QN}{l:QI PV}(o:bX σ s)(i:σ[r]?=QG (.A l))(p:r≠s)(q:0<l.length)(u:l.length≤1000):aa (aB (d+2) 354 [.B s,.B r]) σ λv σ'=>Dr s σ σ'∧v∈l:=by
 refine bx QJ QJ λK w=>.f ?_;refine .h (Ev.a QJ (.h (.k QJ (.d (Ev.a QJ (.d (Ev.a (Ev.j QJ i) (.j ((tH d o q u).g λv c g=> ?_)))))))))
 (revert g;refine cc λm t b n=> ?_;subst b)
 have e:=Rk n;exact .mk ((wG (fc (m.1 _ _ p i))).trans (by show(M.h l[t]?) c=_;exact kh e)) (w _ _ _ ⟨m,UP n⟩)
theorem aa.U{d s:QN}{κ:ay}{σ:af}{Q:PV→af→Prop}{f:QI PE}{vs:QI PV}(m:Ev (aB (d+2)) (.A 124) κ σ (.B s))(i:bX σ s)(h:∀σ,cz (aB (d+2)) f κ σ vs)(o:0<vs.length)(l:vs.length≤100)(q:∀v σ',Dr s σ σ'→v∈vs→Q v σ'):aa (ak (aB (d+2)) (.F (.D 136) [.A 124,.I f]) κ) σ Q:=
 .k QJ (.d (m.a (.d ((aJ.h (h σ) (bT l)).g λv p g=>by
  (revert g;refine ag λr b n=> ?_;subst b)
  have t:r≠s:=by(revert i;refine bc λx y z e c=> ?_);exact(bU e n.2.1).symm
  exact .j ((yC d (i.a n.1) n.2.2 t o (QK l (by decide))).g λv u g=>q _ _ (.d n.1 g.1) g.2)))))
theorem Jx(d:QN){σ:af}{s a n:QN}{b:RW}(w:bX σ s)(z:b=a+n)(C:0<n)(p:n≤1000):aa (aB (d+2) 354 [.B s,.I a b 1]) σ λv σ'=>Dr s σ σ'∧∃t:QN,v=.A (a+t:QN)∧t<n:=by
 have r:=zu z;refine bx (pf:=sy) (κ:=[(124,.B s),(126,.I a b 1)]) (by kernel_rfl) (by kernel_rfl) λK E=>.f ?_;show aa (M.a (ak _ _ _) λx=>M.a (ak _ _ _) λy=>ie x y) σ _
 have m:Ev (aB (d+1)) (.F (.D 33) [.A 126]) [(124,.B s),(126,.I a b 1)] σ (.A n):=by
  refine Ev.l (.u (g:=.D) (by kernel_rfl) (.d (Ev.a (v:=.I a b 1) (by kernel_rfl) (.j ?_))));show aa (M.a (M.c (Um (cF a b 1) aR&&QO) (.b ((cF a b 1:QN):RW))) λn=>.b (PV.A n)) σ _;rw[r.1,Wv.mpr (QK p (lB QJ))];exact .h (.i (.i ⟨QJ,QJ⟩))
 refine .h (Ev.a (v:=.I a b 1) (by kernel_rfl) (.h (.k (a:=347) (by kernel_rfl) (.d (Ev.a (v:=.B s) (by kernel_rfl) (.d (m.a (.j ((tH d w C p).g λv o g=> ?_)))))))))
 (revert g;refine cc λG t e q=> ?_;subst e)
 refine .mk (a:=.A (a+t:QN)) (σ':=o) ?_ (E _ _ _ (cE G t QJ q));show(M.h (gn a b 1)[t]?) o=_;refine kh ?_;rw[r.2,Rn,List.getElem?_range q]
 rfl
noncomputable def bf(A:QN):QI Ty:=SQ (A+4) .A++[.B,.B,.C]
theorem iv{A l:QN}(h:l<A+4):(bf A)[l]?=QG .A:=by
 rw[bf,Us (by rw[UX];exact h),List.getElem?_replicate,SH h]
theorem iu(A i:QN):(bf A)[A+4+i]?=[Ty.B,.B,.C][i]?:=by
 rw[bf,TN (by rw[UX];exact Sh _ _),UX,qbd]
theorem lx(A:QN):(bf A).length=A+7:=by
 rw[bf,QW,UX]
 rfl
def jy(t:Ty)(v:PV):Prop:=match t with
 | .A=>∃n:QN,v=.A n∧n<256
 | .B=>∃c,v=.D c
 | .C=>∃(n:QN) (c:RG),v=.F [.A n,.D c]∧n<256
noncomputable def Ty.qb:Ty→RG
 | .B=>QO
 |_=>QR
def cZ(ts:QI Ty)(t:Ty):ae→Prop
 | .B b v=>b=t.qb∧t≠.C∧jy t v
 | .A l=>ts[l]?=QG t
 | .C l i=>ts[l]?=QG .C∧((i=0∧t=.A)∨(i=1∧t=.B))
section
variable{C:QN→QI PV→M PV}{κ:ay}{σ:af}{Q:PV→af→Prop}
theorem aa.G{a b:PE}(h:aa (ak C a κ) σ λx σ'=>aa (ak C b κ) σ' λy c=>Q (.F [x,y]) c):aa (ak C (.G [a,b]) κ) σ Q:=
 .I (.d (h.g λZ Z q=>.d (q.g λZ Z q=>.j (.z (lB QJ) q))))
theorem aa.H{a b c:PE}(h:aa (ak C a κ) σ λx σ'=>aa (ak C b κ) σ' λy e=>aa (ak C c κ) e λz f=>Q (.F [x,y,z]) f):aa (ak C (.G [a,b,c]) κ) σ Q:=
 .I (.d (h.g λZ Z q=>.d (q.g λZ Z q=>.d (q.g λZ Z q=>.j (.z (lB QJ) q)))))
theorem aa.Z{a b c d:PE}(h:aa (ak C a κ) σ λx σ'=>aa (ak C b κ) σ' λy e=>aa (ak C c κ) e λz f=>aa (ak C d κ) f λw i=>Q (.F [x,y,z,w]) i):aa (ak C (.G [a,b,c,d]) κ) σ Q:=
 .I (.d (h.g λZ Z q=>.d (q.g λZ Z q=>.d (q.g λZ Z q=>.d (q.g λZ Z q=>.j (.z (lB QJ) q))))))
theorem aa.P{d s bK:QN}{κ:ay}{σ:af}{Q:PV→af→Prop}{e:PE}(h:Ev (aB (d+1)) (.A 124) κ σ (.B s))(c:Ev (aB (d+1)) e κ σ (.A bK))(f:bX σ s)(i:0<bK)(l:bK≤1000)(q:∀(t:QN) σ',Dr s σ σ'→t<bK→Q (.A t) σ'):aa (ak (aB (d+1)) (.F (.D 146) [.A 124,e]) κ) σ Q:=
 .k QJ (.d (h.a (.d (c.a (.j ((tH d f i l).g λv σ' g=>by
  (revert g;refine cc λm t b n=> ?_;subst b)
  exact q t σ' m n))))))
end
theorem Ba{w A:QN}(a:1≤w)(b:w<2+4+A)(h:w≠5+A):w-1<A+4:=
 Yh (show w-1+1<A+4+1 by rw[Xl a,TQ A,UN A];exact Zm (SM (Rj b (Sx (RO 5 1 A)))) h)
theorem AX{A w:RW}:A+1+w-2-A=w-1:=by rw[qdY,qcQ,qbw A,Zq,qbw 1 w,qcQ];rfl
theorem Jz(d:QN){σ:af}{s m A:QN}(x:bX σ s)(y:A≤2)(hm:m=0∨m=4):aa (aB (d+3) 373 [.B s,.A m,.A A]) σ λv σ'=>Dr s σ σ'∧∃o:ae,v=o.v∧cZ (bf A) .A o∧(m=0→∀l∈o.rd,0<l∧l≤A):=by
 refine bx QJ QJ λK k=>.d (Ev.a QJ (.d (.P (bK:=2+m+A) QJ ?_ x (Rj (by decide:0<2) (QK (Sh 2 m) (Sh _ A))) (QK (SR (Si (hm.elim (λe=>e▸by decide) (λe=>e▸Sd 4):m≤4) 2) y) (by decide)) λw g i q=> ?_)))
 ·show QG (PV.A ((2:RW)+m+A),σ)=_
  rw[show((2:RW)+m+A)=((2+m+A:QN):RW) by rfl]
 refine .j (Ev.d (b:=Rc ((w:RW)<2)) QJ ?_)
 induction n:Rc ((w:RW)<2) using QL with
 |true=>
  refine .f (.H (Ev.a QJ (Ev.a QJ (.U (vs:=[.A 0,.A 1,.A 2,.A 100,.A 200,.A 255]) QJ i.2 (λZ=>by kernel_rfl) (lB QJ) (lB QJ) λv z D u=>k _ _ _ (cW (i.a D) (.B QR v) QJ (aL QJ nofun ?_) λZ Z h=>Ro h Rb)))));simp only[SI,Rb,Ys] at u;rcases u with rfl|rfl|rfl|rfl|rfl|rfl
  ·exact(ai 0 QJ (by decide))
  ·exact(ai 1 QJ (by decide))
  ·exact(ai 2 QJ (by decide))
  ·exact(ai 100 QJ (by decide))
  ·exact(ai 200 QJ (by decide))
  ·exact(ai 255 QJ (by decide))
 |false=>
  have n:2≤w:=Sz.mp (Xm.mp (Vb n));have r:1≤w:=qcK n;refine .a (.a (.j (Ev.d (b:=Rc ((w:RW)<2+A)) QJ ?_)))
  induction c:Rc ((w:RW)<2+A) using QL with
  |true=>
   have c:w<2+A:=Ug.mp (Rl c);refine .f (Ev.a ?_ (k _ _ _ (cW i (.A (w-1)) QJ (iv (Rp (qbx.mpr (SM (Rj c (Sx (UN 2 A))))) (Tc (by decide:0<4)))) λZ l E=>by rw[m1 E];exact⟨ZH n,qbx.mpr (SM (Rj c (Sx (UN 2 A))))⟩)));show QG (PV.F [.C 48,.F [.A ((w:RW)-1),.F []]],g)=_;rw[show(w:RW)-1=((w-1:QN):RW) from(VQ r).symm]
   rfl
  |false=>
   have c:=Vb c;have t:m=4:=hm.resolve_left λe=>c (Ug.mpr (by rw[e] at q;exact q));subst t;refine .a (.a (.j (Ev.d (b:=(w:RW)==5+A) QJ ?_)))
   induction p:(w:RW)==5+A using QL with
   |true=>
    refine .f (Ev.a ?_ (k _ _ _ (cW i (.C (A+6) 0) QJ ⟨iu A 2,.inl ⟨QJ,QJ⟩⟩ nofun)))
    rfl
   |false=>
    have p:¬(w:RW)=5+A:=λe=>by rw[e,UY] at p;exact fT p
    refine .a (.a (.f (Ev.a ?_ (k _ _ _ (cW i (.A (w-1)) QJ (iv (Ba r q λe=>p (RH qbg e))) nofun)))));show QG (PV.F [.C 48,.F [.A ((A:RW)+1+w-2-A),.F []]],g)=_;rw[show(A:RW)+1+w-2-A=((w-1:QN):RW) from AX.trans (VQ r).symm]
    rfl
theorem aa.qc{d s A m:QN}{κ:ay}{σ:af}{Q:PV→af→Prop}{e:PE}(h:Ev (aB (d+3)) (.A 124) κ σ (.B s))(c:Ev (aB (d+3)) e κ σ (.A m))(f:∀σ,Ev (aB (d+3)) (.A 148) κ σ (.A A))(i:bX σ s)(n:A≤2)(hm:m=0∨m=4)
  (q:∀(o:ae) σ',Dr s σ σ'→cZ (bf A) .A o→(m=0→∀l∈o.rd,0<l∧l≤A)→Q o.v σ'):aa (ak (aB (d+3)) (.F (.D 172) [.A 124,e,.A 148]) κ) σ Q:=
 .k QJ (.d (h.a (.d (c.a (.d ((f σ).a (.j ((Jz d i n hm).g λv σ' g=>by
  (revert g;refine cc λp o b r=> ?_;subst b;revert r;refine oA λt u=> ?_)
  exact q o σ' p t u))))))))
theorem Me(d:QN){σ:af}{s A:QN}(w:bX σ s):aa (aB (d+3) 380 [.B s,.A A]) σ λv σ'=>Dr s σ σ'∧∃o:ae,v=o.v∧cZ (bf A) .B o:=by
 refine bx (pf:=sD) (κ:=[(124,.B s),(148,.A A)]) (by kernel_rfl) (by kernel_rfl) λK G=>.d (Ev.a (v:=.A ((A:RW)+1)) (by kernel_rfl) (.d ((aJ.a (l:=[(ae.A (A+4)).v,(ae.A (A+5)).v,(ae.C (A+6) 1).v]) (by kernel_rfl)).g λv H g=> ?_)))
 (revert g;refine ag λr b n=> ?_;subst b)
 refine .f (.k (a:=354) (by kernel_rfl) (.d (Ev.a (v:=.B s) (by kernel_rfl) (.d (aa.t (Ev.a (v:=.B r) (by kernel_rfl) ((aJ.a (l:=[(ae.B QO (.D QO)).v]) (by kernel_rfl)).g λv q g=> ?_)))))))
 (revert g;refine ag λI c m=> ?_;subst c)
 show aa (M.a (bZ (.B r)) λx=>M.a (bZ (.B I)) λy=>cR (x++y)) q _;refine .h (.p (m.1 _ _ n.2.2) (.h (.p m.2.2 (.n (lB QJ) λJ L u=>.j ?_))));have E:=(n.1.a m.1).a u.1;have N:J≠s:=by(revert w;refine bc λx y z e i=> ?_;clear i);exact(bU ((n.1.a m.1) _ _ e) u.2.1).symm
 refine(yC d (w.a E) u.2.2 N (lB QJ) (lB QJ)).g λv O g=>G _ _ _ ⟨.d E g.1,?_⟩;have F:v∈[(ae.A (A+4)).v,(ae.A (A+5)).v,(ae.C (A+6) 1).v,(ae.B QO (.D QO)).v]:=g.2;simp only[SI,Rb,Ys] at F;rcases F with rfl|rfl|rfl|rfl
 ·exact(ai (.A (A+4)) QJ (iu A 0))
 ·exact(ai (.A (A+5)) QJ (iu A 1))
 ·exact⟨.C (A+6) 1,QJ,iu A 2,.inr ⟨QJ,QJ⟩⟩
 ·exact⟨.B QO (.D QO),QJ,QJ,nofun,QO,QJ⟩
theorem aa.qd{d s A:QN}{κ:ay}{σ:af}{Q:PV→af→Prop}(h:Ev (aB (d+3)) (.A 124) κ σ (.B s))(b:Ev (aB (d+3)) (.A 148) κ σ (.A A))(c:bX σ s)
  (q:∀(o:ae) σ',Dr s σ σ'→cZ (bf A) .B o→Q o.v σ'):aa (ak (aB (d+3)) (.F (.D 157) [.A 124,.A 148]) κ) σ Q:=
 .k QJ (.d (h.a (.d (b.a (.j ((Me d c).g λv σ' g=>by
  (revert g;refine cc λf o e i=> ?_;subst e)
  exact q o σ' f i))))))
noncomputable def kE:QI Nat:=[7,8,6,5,20,12]
noncomputable def lU:QI Nat:=[23,21,9,22,11,24]
def oB(ts:QI Ty)(t:Ty):Rv→Prop
 | .A a=>cZ ts t a
 | .F a b=>t=.C∧cZ ts .A a∧cZ ts .B b
 | .B p a b=>(cZ ts .A a∧cZ ts .A b)∧((p∈kE∧t=.A)∨(p∈lU∧t=.B))
 | .D p a b=>(cZ ts .A a∧cZ ts .A b)∧p∈[7,8,6]∧t=.C
 | .G p a=>(cZ ts .B a∧p=4∧t=.B)∨(cZ ts .A a∧(p=4∨p=8)∧t=.A)
 | .C a=>cZ ts .B a∧t=.A
def eI(ts:QI Ty):ab→Prop
 | .A l r=>∃t,ts[l]?=QG t∧oB ts t r
 | .B o=>∃t,t≠.C∧cZ ts t o
 | .C=>YB
def gQ(ts:QI Ty)(N k:QN)(t:Tm):Prop:=t.qc=QO∧(∀g∈t.qa,k<g∧g<N)∧match t with
 | .C o s Z=>(cZ ts .B o∧∃b,s=[(.D QR,b)])∨(cZ ts .A o∧∃b c,s=[(.A 0,b),(.A 255,c)])
 | .D o Z=>cZ ts .B o
 |_=>YB
theorem Dr.f{s q:QN}{σ σ':af}(h:Dr s σ σ')(e:σ'[q]?=RM):σ[q]?=none:=by
 induction hq:σ[q]? using QQ with
 |none=>rfl
 |some o=>
  by_cases hs:q=s
  ·(refine bc (λx y z h1 z_720=> ?_) (h.2))
   rw[←hs,e] at h1;exact aI h1
  ·have:=h.1 q o hs hq
   rw[e] at this;exact aI this
theorem pB{v:PV}{l:QI QN}(h:v∈l.map PV.C):∃n,v=.C n∧n∈l:=by
 refine ag (λn a b=> ?_) (mM h);exact(ai n b.symm a)
theorem uF:∀{w:QN},w<8→w=0∨w=1∨w=2∨w=3∨w=4∨w=5∨w=6∨w=7
 |0,Z=>.inl QJ
 |1,Z=>.inr (.inl QJ)
 |2,Z=>.inr (.inr (.inl QJ))
 |3,Z=>.inr (.inr (.inr (.inl QJ)))
 |4,Z=>.inr (.inr (.inr (.inr (.inl QJ))))
 |5,Z=>.inr (.inr (.inr (.inr (.inr (.inl QJ)))))
 |6,Z=>.inr (.inr (.inr (.inr (.inr (.inr (.inl QJ))))))
 |7,Z=>.inr (.inr (.inr (.inr (.inr (.inr (.inr QJ))))))
 |n+8,h=>Ro h (TO.mpr (Sq 8 n))
def uf(s:QN)(σ:af)(v:PV)(σ':af)(n:QN)(P:QI ab→Prop):Prop:=Dr s σ σ'∧∃q a,v=.B q∧σ[q]?=RM∧σ'[q]?=QG (.A (a.map ab.v))∧a.length≤n∧P a
theorem Lx(d:QN){σ:af}{s A:QN}(hs:bX σ s)(hA:A≤2):aa (aB (d+4) 387 [.B s,.A A]) σ λv σ'=>uf s σ v σ' 2 λss=>∀x∈ss,eI (bf A) x:=by
 refine bx (pf:=sA) (κ:=[(124,.B s),(148,.A A)]) (by kernel_rfl) (by kernel_rfl) λK hK=>.l (.G (Ev.a (v:=.A ((A:RW)+1)) (by kernel_rfl) (.P (bK:=8) (by kernel_rfl) (by kernel_rfl) hs (by decide) (by decide) λw a0 h1 hw=>.mk (a:=[.A ((A:RW)+1),.A w]) (σ':=a0) (by kernel_rfl) ⟨QJ,?_⟩)));refine .l (.G (.qc (m:=4) (A:=A) (by kernel_rfl) (by kernel_rfl) (λZ=>by kernel_rfl) h1.2 hA (.inr QJ) λp a3 h2 L Z=>.qc (m:=4) (A:=A) (by kernel_rfl) (by kernel_rfl) (λZ=>by kernel_rfl) h2.2 hA (.inr QJ) λM a1 h3 k2 Z=>.mk (a:=[p.v,M.v]) (σ':=a1) (by kernel_rfl) ⟨QJ,?_⟩));refine .l (.G (.G (.t (Ev.a (v:=.A ((A:RW)+1)) (by kernel_rfl) (.P (bK:=3) (by kernel_rfl) (by kernel_rfl) h3.2 (by decide) (by decide) λi a2 h4 hi=>.mk (a:=.A ((A+1+i:QN):RW)) (σ':=a2) (by kernel_rfl) (Ev.a (v:=.F []) (by kernel_rfl) ?_))))));refine .G (.t (Ev.a (v:=.A ((A:RW)+1+3)) (by kernel_rfl) (.P (bK:=2) (by kernel_rfl) (by kernel_rfl) h4.2 (by decide) (by decide) λj X N hj=>.mk (a:=.A ((A+4+j:QN):RW)) (σ':=X) (by kernel_rfl) (Ev.a (v:=.F []) (by kernel_rfl) (.mk (a:=[dg (A+1+i),dg (A+4+j)]) (σ':=X) (by kernel_rfl) ⟨QJ,?_⟩)))));have I:=((((h1.a h2).a h3).a h4).a N);have hn:(bf A)[A+1+i]?=QG .A:=iv (by exact Vf hi _)
 have ht:(bf A)[A+4+j]?=QG .B:=by
  rw[iu];exact rC hj QJ QJ
 have h0:(bf A)[0]?=QG .A:=iv (by exact Th _)
 have c:∀{κ σ'} {ss:QI ab},Dr s σ σ'→ss.length≤2→(∀x∈ss,eI (bf A) x)→aa (cR (ss.map ab.v)) σ' λv J=>K (.B v) κ J:=λ{κ σ' ss} g1 g2 g3=>
  .n (bT (by rw[QP];exact QK g2 (by decide))) λq J n=>hK _ _ _ ⟨g1.b n.1,q,ss,QJ,g1.f n.2.1,n.2.2,g2,g3⟩
 have Y:∀{x:ab},eI (bf A) x→∀y∈[x],eI (bf A) y:=λh y hy=>m1 hy▸h
 have O:∀{x z:ab},eI (bf A) x→eI (bf A) z→∀y∈[x,z],eI (bf A) y:=λ{x z} h g y hy=>by
  rcases mC hy with rfl|hy
  ·exact h
  ·exact m1 hy▸g
 rcases uF hw with rfl|rfl|rfl|rfl|rfl|rfl|rfl|rfl
 ·exact .h (b:=QO) (by kernel_rfl) QJ (.f (.y (.d (Ev.a (v:=(ab.B p).v) (by kernel_rfl) (.j (c (ss:=[.B p]) I (lB QJ) (Y (ai .A nofun L))))))))
 ·exact .g (b:=QR) (by kernel_rfl) QJ (.h (b:=QO) (by kernel_rfl) QJ (.f (.y (.d (Ev.a (v:=(ab.A (A+1+i) (.A p)).v) (by kernel_rfl) (.j (c (ss:=[.A (A+1+i) (.A p)]) I (lB QJ) (Y (ai _ hn L)))))))))
 ·refine .g (b:=QR) (by kernel_rfl) QJ (.g (b:=QR) (by kernel_rfl) QJ (.h (b:=QO) (by kernel_rfl) QJ (.f (.y (.d (.H (Ev.a (v:=.C 105) (by kernel_rfl) (Ev.a (v:=dg (A+1+i)) (by kernel_rfl) (.Z (Ev.a (v:=.C 109) (by kernel_rfl) (.U (vs:=kE.map .C) (by kernel_rfl) N.2 (λZ=>by kernel_rfl) (by decide) (by decide) λv r u Q=> ?_)))))))))))
  (refine ag (λR S E=> ?_) (pB Q);subst S)
  exact Ev.a (v:=p.v) (by kernel_rfl) (Ev.a (v:=M.v) (by kernel_rfl) (.j (c (ss:=[.A (A+1+i) (.B R p M)]) (I.a u) (lB QJ) (Y (bz _ hn ⟨L,k2⟩ (.inl ⟨E,QJ⟩))))))
 ·refine .g (b:=QR) (by kernel_rfl) QJ (.g (b:=QR) (by kernel_rfl) QJ (.g (b:=QR) (by kernel_rfl) QJ (.h (b:=QO) (by kernel_rfl) QJ (.f (.y (.d (.H (Ev.a (v:=.C 105) (by kernel_rfl) (Ev.a (v:=dg (A+6)) (by kernel_rfl) (.Z (Ev.a (v:=.C 129) (by kernel_rfl) (.U (vs:=[7,8,6].map .C) (by kernel_rfl) N.2 (λZ=>by kernel_rfl) (by decide) (by decide) λv r u Q=> ?_))))))))))))
  (refine ag (λR T E=> ?_) (pB Q);subst T)
  exact Ev.a (v:=p.v) (by kernel_rfl) (Ev.a (v:=M.v) (by kernel_rfl) (.j (c (ss:=[.A (A+6) (.D R p M)]) (I.a u) (lB QJ) (Y (fO _ (iu A 2) ⟨L,k2⟩ E QJ)))))
 ·refine .g (b:=QR) (by kernel_rfl) QJ (.g (b:=QR) (by kernel_rfl) QJ (.g (b:=QR) (by kernel_rfl) QJ (.g (b:=QR) (by kernel_rfl) QJ (.h (b:=QO) (by kernel_rfl) QJ (.f (.y (.d (.H (Ev.a (v:=.C 105) (by kernel_rfl) (Ev.a (v:=dg (A+4+j)) (by kernel_rfl) (.Z (Ev.a (v:=.C 109) (by kernel_rfl) (.U (vs:=lU.map .C) (by kernel_rfl) N.2 (λZ=>by kernel_rfl) (by decide) (by decide) λv r u Q=> ?_)))))))))))))
  (refine ag (λR V E=> ?_) (pB Q);subst V)
  exact Ev.a (v:=p.v) (by kernel_rfl) (Ev.a (v:=M.v) (by kernel_rfl) (.j (c (ss:=[.A (A+4+j) (.B R p M)]) (I.a u) (lB QJ) (Y (bz _ ht ⟨L,k2⟩ (.inr ⟨E,QJ⟩))))))
 ·refine .g (b:=QR) (by kernel_rfl) QJ (.g (b:=QR) (by kernel_rfl) QJ (.g (b:=QR) (by kernel_rfl) QJ (.g (b:=QR) (by kernel_rfl) QJ (.g (b:=QR) (by kernel_rfl) QJ (.h (b:=QO) (by kernel_rfl) QJ (.f (.y (.d (.H (Ev.a (v:=.C 105) (by kernel_rfl) (Ev.a (v:=dg (A+1+i)) (by kernel_rfl) (.H (Ev.a (v:=.C 100) (by kernel_rfl) (.U (vs:=[4,8].map .C) (by kernel_rfl) N.2 (λZ=>by kernel_rfl) (by decide) (by decide) λv r u Q=> ?_))))))))))))))
  (refine ag (λR W E=> ?_) (pB Q);subst W)
  refine Ev.a (v:=p.v) (by kernel_rfl) (.d (Ev.a (v:=ab.C.v) (by kernel_rfl) (.j (c (ss:=[.A (A+1+i) (.G R p),.C]) (I.a u) (lB QJ) (O (ai _ hn (.inr (aL L ?_ QJ))) Tu)))))
  (refine oO (λe=> ?_) (λE=> ?_) (mC E))
  ·exact .inl e
  ·exact .inr (m1 E)
 ·exact .g (b:=QR) (by kernel_rfl) QJ (.g (b:=QR) (by kernel_rfl) QJ (.g (b:=QR) (by kernel_rfl) QJ (.g (b:=QR) (by kernel_rfl) QJ (.g (b:=QR) (by kernel_rfl) QJ (.g (b:=QR) (by kernel_rfl) QJ (.h (b:=QO) (by kernel_rfl) QJ (.f (.y (.d (.H (Ev.a (v:=.C 105) (by kernel_rfl) (Ev.a (v:=dg (A+4+j)) (by kernel_rfl) (.H (Ev.a (v:=.C 100) (by kernel_rfl) (Ev.a (v:=.C 4) (by kernel_rfl) (.qd (A:=A) (by kernel_rfl) (by kernel_rfl) N.2 λo r u k=>
   .d (Ev.a (v:=(ab.B (.A (A+4+j))).v) (by kernel_rfl) (.j (c (ss:=[.A (A+4+j) (.G 4 o),.B (.A (A+4+j))]) (I.a u) (lB QJ) (O (ai _ ht (.inl (aL k QJ QJ))) (ai .B nofun ht)))))))))))))))))))))
 ·exact .g (b:=QR) (by kernel_rfl) QJ (.g (b:=QR) (by kernel_rfl) QJ (.g (b:=QR) (by kernel_rfl) QJ (.g (b:=QR) (by kernel_rfl) QJ (.g (b:=QR) (by kernel_rfl) QJ (.g (b:=QR) (by kernel_rfl) QJ (.g (b:=QR) (by kernel_rfl) QJ (.d (.H (Ev.a (v:=.C 47) (by kernel_rfl) (.qd (A:=A) (by kernel_rfl) (by kernel_rfl) N.2 λo r u k=>Ev.a (v:=dk) (by kernel_rfl)
   (.f (.y (.d (Ev.a (v:=(ab.A (A+1+i) (.C o)).v) (by kernel_rfl) (.d (Ev.a (v:=(ab.A 0 (.A p)).v) (by kernel_rfl) (.j (c (ss:=[.A (A+1+i) (.C o),.A 0 (.A p)]) (I.a u) (lB QJ) (O (bz _ hn k QJ) (ai .A h0 L))))))))))))))))))))
theorem aa.ql{d s a n:QN}{b:RW}{κ:ay}{σ:af}{Q:PV→af→Prop}{e:PE}(h:Ev (aB (d+2)) (.A 124) κ σ (.B s))(f:Ev (aB (d+2)) e κ σ (.I a b 1))(i:bX σ s)(l:b=a+n)(m:0<n)(o:n≤1000)
  (q:∀(t:QN) σ',Dr s σ σ'→t<n→Q (.A (a+t:QN)) σ'):aa (ak (aB (d+2)) (.F (.D 136) [.A 124,e]) κ) σ Q:=
 .k QJ (.d (h.a (.d (f.a (.j ((Jx d i l m o).g λv σ' g=>by
  (revert g;refine cc λp t c r=> ?_;subst c)
  exact q t σ' p r))))))
theorem DE(d:QN){σ:af}{s A k N:QN}(V:bX σ s)(hA:A≤2)(M:k<N)(W:N≤4):aa (aB (d+4) 394 [.B s,.A A,.A k,.A N]) σ λv σ'=>Dr s σ σ'∧∃t:Tm,v=t.v∧gQ (bf A) N k t:=by
 refine bx (pf:=sr) (κ:=[(124,.B s),(148,.A A),(80,.A k),(63,.A N)]) (by kernel_rfl) (by kernel_rfl) λK y=>.j (Ev.d (b:=(k:RW)+1==N) (by kernel_rfl) ?_)
 cases O:(k:RW)+1==N with
 |true=>
  refine .f (.U (vs:=[Tm.A.v,Tm.A.v,Tm.B.v]) (by kernel_rfl) V (λZ=>by kernel_rfl) (lB QJ) (lB QJ) λv E Q X=>y _ _ _ ⟨Q,?_⟩);simp only[SI,Rb,Ys] at X;rcases X with rfl|rfl|rfl
  ·exact(fO .A QJ QJ (λZ h=>Ro h Rb) Tu)
  ·exact(fO .A QJ QJ (λZ h=>Ro h Rb) Tu)
  ·exact(fO .B QJ QJ (λZ h=>Ro h Rb) Tu)
 |false=>
  have O:¬(k:RW)+1=N:=λe=>by rw[e,UY] at O;exact fT O
  have H:(N:RW)=(k+1:QN)+(N-(k+1):QN):=by rw[←qdF,Uq M]
  have S:0<N-(k+1):=ZH (Zm M λe=>O (RH qbg e));have n:N-(k+1)≤1000:=QK (Zk _ _) (QK W (by decide));refine .a (.a (.l (.G (.qf (a:=((k+1:QN):RW)) (b:=N) (by kernel_rfl) (by kernel_rfl) (by exact⟨RN (by decide) (Rx _),by grind⟩) (by exact⟨RN (by decide) (Rx _),Sz.mpr (QK W (by decide))⟩) (.P (bK:=4) (by kernel_rfl) (by kernel_rfl) V (by decide) (by decide) λw E Q J=>.mk (a:=[.I (k+1:QN) N 1,.A w]) (σ':=E) (by kernel_rfl) ⟨QJ,?_⟩)))));refine .l (.G (.ql (by kernel_rfl) (by kernel_rfl) Q.2 H S n λi a0 Y hi=>.ql (by kernel_rfl) (by kernel_rfl) Y.2 H S n λj T h3 hj=>.mk (a:=[.A (k+1+i:QN),.A (k+1+j:QN)]) (σ':=T) (by kernel_rfl) ⟨QJ,?_⟩));have p:=(Q.a Y).a h3;have R:k<k+1+i∧k+1+i<N:=⟨Rj (TB k) (Sh _ _),qbz hi⟩;have gj:k<k+1+j∧k+1+j<N:=⟨Rj (TB k) (Sh _ _),qbz hj⟩;have gN:k<N-1∧N-1<N:=⟨Nat.lt_sub_of_add_lt (Nat.lt_of_sub_pos S),Nat.sub_lt (Rp (RQ k) M) (by decide)⟩
  have J:w=0∨w=1∨w=2∨w=3:=by
   rcases uF (Ue J (by decide)) with h|h|h|h|h|h|h|h
   ·exact .inl h
   ·exact .inr (.inl h)
   ·exact .inr (.inr (.inl h))
   ·exact .inr (.inr (.inr h))
   all_goals (rw[h] at J;exact Ro J (by decide))
  rcases J with rfl|rfl|rfl|rfl
  ·exact .h (b:=QO) (by kernel_rfl) QJ (.f (Ev.a (v:=(Tm.F (k+1+i)).v) (by kernel_rfl) (y _ _ _ (gE p (.F (k+1+i)) QJ QJ (λg c=>m1 c▸R) Tu))))
  ·refine .g (b:=QR) (by kernel_rfl) QJ (.h (b:=QO) (by kernel_rfl) QJ (.f (.Z (Ev.a (v:=.C 125) (by kernel_rfl) (.qd (A:=A) (by kernel_rfl) (by kernel_rfl) p.2 λo q n L=>Ev.a (v:=.F [ia (.D QR,k+1+i)]) (by kernel_rfl) (Ev.a (v:=.A (k+1+j:QN)) (by kernel_rfl) (y _ _ _ (gE (p.a n) (.C o [(.D QR,k+1+i)] (k+1+j)) QJ QJ (λg c=> ?_) (.inl ⟨L,_,QJ⟩)))))))))
   (refine oO (λr=> ?_) (λc=> ?_) (mC c)<;>try subst r)
   ·exact R
   ·exact m1 c▸gj
  ·refine .g (b:=QR) (by kernel_rfl) QJ (.g (b:=QR) (by kernel_rfl) QJ (.h (b:=QO) (by kernel_rfl) QJ (.f (.Z (Ev.a (v:=.C 125) (by kernel_rfl) (.qc (m:=4) (A:=A) (by kernel_rfl) (by kernel_rfl) (λZ=>by kernel_rfl) p.2 hA (.inr QJ) λo q n L Z=>Ev.a (v:=.F [ia (.A 0,k+1+i),ia (.A 255,k+1+j)]) (by kernel_rfl) (Ev.a (v:=.A (N-1:QN)) ?_ (y _ _ _ (gE (p.a n) (.C o [(.A 0,k+1+i),(.A 255,k+1+j)] (N-1)) QJ QJ (λg c=> ?_) (.inr ⟨L,_,_,QJ⟩))))))))))
   ·show QG (PV.A ((N:RW)-1),q)=_
    rw[show(N:RW)-1=((N-1:QN):RW) from(VQ (Rp (RQ k) M)).symm]
   ·(refine oO (λu=> ?_) (λc=> ?_) (mC c)<;>try subst u)
    ·exact R
    ·(refine oO (λx=> ?_) (λc=> ?_) (mC c)<;>try subst x)
     ·exact gj
     ·exact m1 c▸gN
  ·exact .g (b:=QR) (by kernel_rfl) QJ (.g (b:=QR) (by kernel_rfl) QJ (.g (b:=QR) (by kernel_rfl) QJ (.f (.I (.d (Ev.a (v:=.C 104) (by kernel_rfl) (.d (.qd (A:=A) (by kernel_rfl) (by kernel_rfl) p.2 λo q n L=>.d (Ev.a (v:=.D QR) (by kernel_rfl) (.d (Ev.a (v:=.C 151) (by kernel_rfl) (.d (Ev.a (v:=.A (k+1+i:QN)) (by kernel_rfl) (.j (.z (lB QJ)
    (y _ _ _ (gE (p.a n) (.D o (k+1+i)) QJ QJ (λg c=>m1 c▸R) L)))))))))))))))))
noncomputable def dj(A:QN)(os:QI ae)(s:QI RG):QI ab:=
 .A 0 (.A (.B QR (.A 7)))::(os.mapIdx (λi o=>.A (A+1+i) (.A o))++s.mapIdx (λi c=>.A (A+4+i) (.A (.B QO (.D c)))))
noncomputable def iD(A:QN):ab:=.A (A+6) (.F (.B QR (.A 3)) (.B QO (.D QR)))
def lg(A:QN)(o:ae):Prop:=cZ (bf A) .A o∧∀l∈o.rd,0<l∧l≤A
theorem tj{α B:Type}(f:QN→α→B)(l:QI α)(a:α):(l++[a]).mapIdx f=l.mapIdx f++[f l.length a]:=by
 rw[List.mapIdx_append];simp
theorem Bi(A:QN)(os:QI ae)(s:QI RG)(c:RG):(dj A os (s++[c])).map ab.v=(dj A os s).map ab.v++[(ab.A (A+4+s.length) (.A (.B QO (.D c)))).v]:=by
 rw[dj,dj,tj,←Rq,←XI,Sg]
 rfl
theorem Bk(A:QN)(os:QI ae)(o:ae):(dj A (os++[o]) []).map ab.v=(dj A os []).map ab.v++[(ab.A (A+1+os.length) (.A o)).v]:=by
 rw[dj,dj,tj,List.mapIdx_nil,RD,RD,←XI,Sg]
 rfl
theorem Bh(d:QN){σ:af}{s A:QN}(hs:bX σ s)(hA:A≤2):aa (aB (d+4) 366 [.B s,.A A]) σ λv σ'=>uf s σ v σ' 7 λss=>∃os D,ss=dj A os D++[iD A]∧os.length=3∧D.length=2∧∀o∈os,lg A o:=by
 refine bx (pf:=sm) (κ:=[(124,.B s),(148,.A A)]) (by kernel_rfl) (by kernel_rfl) λK hK=>.l (Ev.a (v:=.F [dk,dQ,.A ((A:RW)+1)]) (by kernel_rfl) (.mk (a:=[dk,dQ,.A ((A:RW)+1)]) (σ':=σ) (by kernel_rfl) ⟨QJ,.d ((aJ.a (l:=(dj A [] []).map ab.v) (by kernel_rfl)).g λv a1 g=> ?_)⟩))
 (revert g;refine ag λq R n=> ?_;subst R)
 have a0:s≠q:=by(revert hs;refine bc λx y z e S=> ?_;clear S);exact bU e n.2.1
 have D1:Dr s σ a1:=⟨n.1.toCh,hs.a n.1⟩;have s1:dh (.I ((A:RW)+1) ((A:RW)+1+3) 1)=M.b (.A ((RE 3).map λ(j:QN)=>.A (A+1+j:QN)),(RE 3).length):=tu (a:=A+1) (by rfl) (by exact Rp hA (by decide)) (by decide);have s2:dh (.I ((A:RW)+1+3) ((A:RW)+1+5) 1)=M.b (.A ((RE 2).map λ(j:QN)=>.A (A+4+j:QN)),(RE 2).length):=tu (a:=A+4) (by rfl) (by exact QK (RR hA _) (by decide)) (by decide);refine .i (.qf (a:=(A:RW)+1) (b:=(A:RW)+1+3) (by kernel_rfl) (by kernel_rfl) (by exact⟨RN (by decide) (Rx _),Ug.mpr (Rp hA (by decide))⟩) (by exact⟨RN (by decide) (Rx _),by lia⟩) (.q s1 ?_))
 refine RF.a _ (RE 3) (λ(Z:UE)=>[(62,.B q),(84,.A ((A:RW)+1)),(29,dQ),(45,dk),(124,.B s),(148,.A A)]) (λys Z σ'=>Dr s σ σ'∧∃u,u++ys=RE 3∧∃os,σ'[q]?=QG (.A ((dj A os []).map ab.v))∧os.length=u.length∧∀o∈os,lg A o) () QJ (.r QJ)
  (jk D1 ([]) QJ ([]) n.2.2 QJ λZ h=>Ro h Rb) (λZ Z Z Z=>QJ) (λx ys Z a2 g J hJ Z=>.i ?_) λZ a2 g=> ?_
 ·(revert g;refine jZ λg1 u E os g2 N g4=> ?_)
  (refine oA (λT hx=> ?_) (jB E);subst T)
  refine .k (.J (n:=q) (by kernel_rfl) g2 (.H (Ev.a (v:=.C 105) (by kernel_rfl) (Ev.a (v:=dg (A+1+u.length)) (by kernel_rfl) (.G (Ev.a (v:=.C 38) (by kernel_rfl) (.qc (m:=0) (A:=A) (by kernel_rfl) (by kernel_rfl) (λZ=>by kernel_rfl) g1.2 hA (.inl QJ) λo U h3 ho hr=>(bz _ (h3.1 _ _ a0.symm g2) ?_ λL c4 e4=>.a (hJ () _ _ (.r QJ) (jk ((g1.a h3).c hs n.2.1 c4) (u++[u.length]) ((Rq ..).trans E) (os++[o]) ?_ ?_ λo' a3=> ?_))))))))))
  ·rw[QP,dj,Se,QW,Uy,N]
   exact Rj (ZY hx) (lB QJ)
  ·rw[e4,Bk,N]
   rfl
  ·rw[QW,QW,N]
   rfl
  ·(refine oO (λh=> ?_) (λh=> ?_) (mA a3))
   ·exact g4 o' h
   ·exact m1 h▸⟨ho,hr QJ⟩
 ·(revert g;refine jZ λg1 u E os g2 N g4=> ?_)
  rw[RD] at E;rw[E,RC] at N;refine .i (.qf (a:=(A:RW)+1+3) (b:=(A:RW)+1+5) (by kernel_rfl) (by kernel_rfl) (by exact⟨RN (by decide) (Rx _),by lia⟩) (by exact⟨RN (by decide) (Rx _),by lia⟩) (.q s2 ?_))
  refine RF.a _ (RE 2) (λ(Z:UE)=>[(62,.B q),(84,.A ((A:RW)+1)),(29,dQ),(45,dk),(124,.B s),(148,.A A)]) (λys Z σ'=>Dr s σ σ'∧∃u,u++ys=RE 2∧∃D,σ'[q]?=QG (.A ((dj A os D).map ab.v))∧D.length=u.length) () QJ (.r QJ)
   ⟨g1,[],QJ,[],g2,QJ⟩ (λZ Z Z Z=>QJ) (λx ys Z U g J hJ Z=>.i ?_) λZ U g=> ?_
  ·(revert g;refine yf λk1 u E D k2 V=> ?_)
   (refine oA (λW hx=> ?_) (jB E);subst W)
   refine .k (.J (n:=q) (by kernel_rfl) k2 (.H (Ev.a (v:=.C 105) (by kernel_rfl) (Ev.a (v:=dg (A+4+u.length)) (by kernel_rfl) (.G (Ev.a (v:=.C 38) (by kernel_rfl) (.H (Ev.a (v:=.C 81) (by kernel_rfl) (Ev.a (v:=dQ) (by kernel_rfl) (aa.g (RB.a (Q:=λb σ'=>Dr s U σ') (.P (bK:=2) (by kernel_rfl) (by kernel_rfl) k1.2 (by decide) (by decide) λt L h4 ht=>Ev.a (v:=.A 0) (by kernel_rfl) (.mk (a:=(t:RW)==0) (σ':=L) QJ h4))) λv L h=> ?_))))))))))
   (revert h;refine ag λc X h4=> ?_;subst X)
   refine(bz _ (h4.1 _ _ a0.symm k2) ?_ λa4 c5 e5=>.a (hJ () _ _ (.r QJ) ⟨(k1.a h4).c hs n.2.1 c5,u++[u.length],(Rq ..).trans E,D++[c],?_,?_⟩))
   ·rw[QP,dj,Se,QW,Uy,Uy,N,V]
    exact Rj (ZY (Vf hx 3)) (lB QJ)
   ·rw[e5,Bi,V]
    rfl
   ·rw[QW,QW,V]
    rfl
  ·(revert g;refine yf λk1 u E D k2 V=> ?_)
   rw[RD] at E;rw[E,RC] at V;have O:(dj A os D).length=6:=by rw[dj,Se,QW,Uy,Uy,N,V]
   refine .f (.t (Ev.a (v:=.B q) (by kernel_rfl) ((aJ.a (l:=[(iD A).v]) (by kernel_rfl)).g λv L g=> ?_)))
   (revert g;refine ag λp Y m=> ?_;subst Y)
   show aa (M.a (bZ (.B q)) λx=>M.a (bZ (.B p)) λy=>cR (x++y)) L _;refine .h (.p (m.1 _ _ k2) (.h (.p m.2.2 (.n ?_ λw a4 m5=>hK _ _ _ ⟨(k1.b m.1).b m5.1,w,dj A os D++[iD A],QJ,(k1.b m.1).f m5.2.1,?_,?_,os,D,QJ,N,V,g4⟩))))
   ·rw[QW,QP,O]
    exact lB QJ
   ·rw[m5.2.2,Sg]
    rfl
   ·rw[QW,O]
    exact Sd _
theorem lu{σ:af}{s j:QN}{o:AO}(b:bX σ s)(h:σ[j]?=QG o)(c:∀x y z,o≠.A [.A x,.A y,.B z]):j≠s:=λe=>by
 (revert b;refine bc λx y z d a=> ?_)
 rw[e,d] at h;exact c x y z (QS h).symm
theorem jE{σ:af}{s j:QN}{l:QI PV}(a:bX σ s)(h:σ[j]?=QG (.A l))(o:∀x,l.head?≠QG (.A x)):j≠s:=
 lu a h λx y z e=>o x (by injection e with e;rw[e];rfl)
theorem aZ.c{σ σ':af}{s r A:QN}{ts:QI Ty}{d:QI aE}(h:aZ σ r A (ts.map cu) d)(b:bX σ s)(c:Ch s σ σ'):aZ σ' r A (ts.map cu) d:=by
 (revert h;refine gP λn o q t e f g i j u v=> ?_)
 refine⟨n,o,q,t,c _ _ (lu b e nofun) e,c _ _ (jE b f λx=>by induction ts using Rm<;>nofun) f,c _ _ (lu b g nofun) g,i,c _ _ (jE b j λx=>by induction i using Rm<;>nofun) j,λp w=> ?_,v⟩;refine oA (λk m=> ?_) (u p w);refine⟨c _ _ (jE b k nofun) k,c _ _ (jE b m λx=> ?_) m⟩
 induction p.2.2.1 using Rm with
 |nil=>nofun
 |cons a l=>induction a using ab.casesOn<;>nofun
def iW(A:QN)(a:QI aE):Prop:=(dO a∧0<a.length)∧(∀(k:QN) (b:aE),a[k]?=QG b→(∀s∈b.1,eI (bf A) s)∧gQ (bf A) a.length k b.2)∧
 ∃c d e t,a[0]?=QG (dj A c d++[iD A]++e,t)∧c.length=3∧d.length=2∧∀o∈c,lg A o
theorem Kl(n:QN)(v:PV):(SQ n [v]).flatten=SQ n v:=by
 induction n with
 |zero=>rfl
 |succ n h=>rw[qbR,qcA,h];rfl
theorem aa.qm{C:QN→QI PV→M PV}{κ:ay}{σ:af}{Q:PV→af→Prop}{e:PE}(h:aa (ak C e κ) σ λv σ'=>∃a:RW,v=.A a∧(-1000≤a∧a≤1000)∧Q (.I 0 a 1) σ'):aa (ak C (.F (.D 96) [e]) κ) σ Q:=
 .u QJ (.d (h.g λv σ' q=>by
  (revert q;refine ag λa b r=> ?_;subst b;revert r;refine oA λc q=> ?_)
  exact .j (.h (.i (.l (ko c) (.i q))))))
theorem Am(A:QN):(bf A).map Ty.v=SQ (A+4) dk++[dQ,dQ,oD]:=by
 rw[bf,Sg,List.map_replicate]
 rfl
theorem CT(d:QN){σ:af}{s A:QN}(z:A≤2){K:Fl→ay→af→Prop}
  (h:∀q U D w E σ',Le σ σ'→σ[q]?=RM→σ[w]?=RM→σ'[q]?=QG (jP U A D w E)→σ'[D]?=QG (.A ((bf A).map cu))→σ'[w]?=QG (.A [])→σ'[E]?=QG (.B [])→RS (aB (d+1)) (oH.Qu.drop 3) [(43,.B q),(124,.B s),(148,.A A)] σ' K):
  RS (aB (d+1)) oH.Qu [(124,.B s),(148,.A A)] σ K:=by
 refine .l (Ev.a (v:=.F [dk,dQ]) (by kernel_rfl) (.mk (a:=[dk,dQ]) (σ':=σ) (by kernel_rfl) ⟨QJ,.d (.t (.t ((aJ.a (l:=[dk]) (by kernel_rfl)).g λv H g=> ?_)))⟩))
 (revert g;refine ag λp f Q=> ?_;subst f)
 refine Ev.a (v:=.A ((1:RW)+A+3)) (by kernel_rfl) ?_;show aa (M.a (bZ (.B p)) λl=>M.a (M.b ((1:RW)+A+3)) λj=>.c (Rc (0≤j∧j≤100∧l.length=1)) (cR (SQ j.toNat l).flatten)) H _;refine .h (.p Q.2.2 (.h (.i (.l (Ry (aL (Rx _) (RN (Int.add_le_add_right (Int.add_le_add_left (Sz.mpr z) 1) 3) (by decide)) QJ)) ?_))));rw[show((1:RW)+A+3).toNat=A+4 from RH (·+3) (UN 1 A),Kl];refine .n (bT (by rw[UX];exact QK (RR z _) (by decide))) λV X R=>(aJ.a (l:=[dQ,dQ,oD]) (by kernel_rfl)).g λv I g=> ?_
 (revert g;refine ag λY k J=> ?_;subst k)
 show aa (M.a (bZ (.B V)) λx=>M.a (bZ (.B Y)) λy=>cR (x++y)) I _;refine .h (.p (J.1 _ _ R.2.2) (.h (.p J.2.2 (.n (bT (by rw[←Am,QP,lx];exact QK (RR z _) (by decide))) λr L N=> ?_))));rw[←Am] at N;have O:=((Q.1.a R.1).a J.1).a N.1;have S:(bf A).length≤aR:=bT (by rw[lx];exact QK (RR z _) (by decide))
 refine .d (.u (g:=.B 82) (by kernel_rfl) (.d (Ev.a (v:=.C 15) (by kernel_rfl) (.d (Ev.a (v:=.A A) (by kernel_rfl) (.d (.W Ty.v (bf A) (r:=r) (by kernel_rfl) N.2.2 S (λT m σ'=>σ'=L∧m++T.map cu=(bf A).map cu) ⟨QJ,QJ⟩ (λZ Z Z g=>g.1▸Le.b _)
  (λx T m σ' g=>.i (Ev.a (v:=cu x) (by kernel_rfl) ⟨g.1,(Rq ..).trans g.2⟩)) λm σ' rt a0 g G=> ?_)))))))
 (revert g;refine oA λo e=> ?_;subst o)
 rw[Vm,RD] at e;subst e;exact .j (uP d G.2.2 (by rw[QP];exact S) λq D w E P l6 fq fb e1 e2 e3 e4=>.p (.r QJ) (h q _ D w E P ((O.a G.1).a l6) ((O.a G.1).d fq) ((O.a G.1).d fb) e1 e2 e3 e4))
theorem HF(d:QN){b σ:af}{s A m k:QN}{ss:QI ab}(C:bX b s)(U:Dr s b σ)(V:b[m]?=RM)(hm:σ[m]?=QG (.A (ss.map ab.v)))(W:ss.length≤7)(hA:A≤2)(ho:∀x∈ss,eI (bf A) x){q N:QN}{r:QI PS}{K:Fl→ay→af→Prop}
  (h:∀σ' rest,Dr s b σ'→σ'[m]?=QG (.A ((ss++rest).map ab.v))→(ss++rest).length≤15→(∀x∈ss++rest,eI (bf A) x)→RS (aB (d+4)) r [(62,.B m),(80,.A k),(63,.A N),(43,.B q),(124,.B s),(148,.A A)] σ' K):
  RS (aB (d+4)) (.D [76] QR (.F (.D 96) [.F (.D 146) [.A 124,.B (.A 5)]]) [.F (.L (.A 62) .D [.F (.D 184) [.A 124,.A 148]])]::r) [(62,.B m),(80,.A k),(63,.A N),(43,.B q),(124,.B s),(148,.A A)] σ K:=by
 refine .i (.qm (.P (bK:=5) (by kernel_rfl) (by kernel_rfl) U.2 (by decide) (by decide) λt a0 X O=>(bz t QJ (⟨RN (by decide) (Rx _),Sz.mpr (QK (Sm O) (by decide))⟩) (.q (gV (n:=t) (QK (Sm O) (by decide))) ?_))));have E:m≠s:=by(revert C;refine bc λx y z e f=> ?_;clear f);exact(bU e V).symm
 refine RF.a _ (RE t) (λ(Z:UE)=>[(62,.B m),(80,.A k),(63,.A N),(43,.B q),(124,.B s),(148,.A A)]) (λG Z σ'=>Dr s b σ'∧G.length≤4∧∃rest,σ'[m]?=QG (.A ((ss++rest).map ab.v))∧rest.length+2*G.length≤8∧∀x∈ss++rest,eI (bf A) x) () QJ (ar.g _)
  ⟨U.a X,by rw[RC];exact Nat.le_of_succ_le_succ O,[],by rw[RD];exact X.1 _ _ E hm,by rw[RC,UJ,SG];exact Td 2 (SM O),by rw[RD];exact ho⟩ (λZ Z Z Z=>QJ) (λx G Z H g J hJ Z=>.i ?_) λZ H g=> ?_
 ·(revert g;refine rO λQ R rest I w S=> ?_)
  have R:G.length+1≤4:=R;have w:rest.length+2*(G.length+1)≤8:=w;refine .k (.qj (n:=m) (by kernel_rfl) I (.k (a:=387) (by kernel_rfl) (.d (Ev.a (v:=.B s) (by kernel_rfl) (.d (Ev.a (v:=.A A) (by kernel_rfl) (.j ((Lx d Q.2 hA).g λv a1 g=> ?_))))))))
  (revert g;refine iO λY p M l o=> ?_;subst l;revert o;refine cY λg7 g8 g9 T=> ?_)
  refine⟨p,_,_,QJ,bU I g7,Y.1 _ _ E I,g8,?_,λa2 c4 e4=>.a (hJ () _ _ (.r QJ) ⟨(Q.a Y).c C V c4,by exact Sm R,rest++M,?_,?_,λx hx=> ?_⟩)⟩
  ·rw[QP,QP,QW]
   exact bT (QK (SR (SR W (QK (Sh _ _) w)) g9) (by decide))
  ·rw[e4,←Sg,Rq]
  ·rw[QW]
   exact mT w g9 (Sd _)
  ·rw[←Rq] at hx
   exact(mA hx).elim (S x) (T x)
 ·(revert g;refine rO λQ u rest I w S=> ?_;clear u)
  exact h H rest Q I (by rw[QW];exact SR W w) S
def ud(A:QN)(ss:QI ab):Prop:=∃s c t,ss=dj A s c++[iD A]++t∧s.length=3∧c.length=2∧∀o∈s,lg A o
theorem mi{α B:Type}{f:QN→α→B}{l:QI α}{b:B}(h:b∈l.mapIdx f):∃(i:QN) (a:α),l[i]?=QG a∧b=f i a:=by
 refine oE (λi c=> ?_) (Uu.mp h);rw[Vd] at c
 (refine ag (λa d e=> ?_) (mS c);subst e)
 exact(fy i a d QJ)
theorem Bl{A:QN}{os:QI ae}{s:QI RG}(f:os.length=3)(g:s.length=2)(j:∀o∈os,lg A o):∀x∈dj A os s++[iD A],eI (bf A) x:=λx h=>by
 (refine oO (λh=> ?_) (λh=> ?_) (mA h))
 ·(refine oO (λe=> ?_) (λh=> ?_) (mC h)<;>try subst e)
  ·exact⟨.A,iv (Th _),QJ,nofun,7,QJ,by decide⟩
  ·(refine oO (λh=> ?_) (λh=> ?_) (mA h))
   ·(refine bq (λi o d a=> ?_) (mi h);subst a)
    have:=(gL d);exact(ai .A (iv (by rw[TQ];exact Vf (Vf (f▸this:i<3) 1) A)) ((j o (Rg d)).1))
   ·(refine bq (λi c d b=> ?_) (mi h);subst b)
    have l:=(gL d);rw[g] at l;refine⟨.B,?_,QJ,nofun,c,QJ⟩;rw[iu];exact rC l QJ QJ
 ·obtain rfl:=m1 h
  exact⟨.C,iu A 2,QJ,(jV QJ nofun 3 QJ (by decide)),QJ,nofun,QR,QJ⟩
theorem CU(d:QN){σ:af}{s A:QN}(hs:bX σ s)(hA:A≤2):aa (aB (d+5) 359 [.B s,.A A]) σ λv σ'=>Dr s σ σ'∧∃q bs,v=.B q∧aZ σ' q A ((bf A).map cu) bs∧iW A bs:=by
 refine bx QJ QJ λK hK=>CT (d+3) hA λq nm rl rb rs σ1 l1 fq fb e1 e2 e3 e4=> ?_;refine .d (.t (Ev.a QJ (.P QJ QJ (hs.a l1) (by decide) (by decide) λt σ2 h2 ht=>.mk (a:=.A (1+t:QN)) QJ ?_)));generalize hN:1+t=N;have hN4:0<N∧N≤4:=hN▸⟨Rj Nat.one_pos (Sh 1 t),UN 1 t▸ht⟩;have hs1:=hs.a l1;refine .i (.qm (Ev.a QJ (bz N QJ (⟨RN (by decide) (Rx _),Sz.mpr (QK hN4.2 (by decide))⟩) (.q (gV (QK hN4.2 (Sq _ _))) ?_))))
 refine RF.a _ (RE N) (λ(Z:UE)=>[(63,.A N),(43,.B q),(124,.B s),(148,.A A)]) (λys Z σ'=>Dr s σ σ'∧(σ'[q]?=QG (jP nm A rl rb rs)∧σ'[rl]?=QG (.A ((bf A).map cu))∧σ'[rs]?=QG (.B []))∧∃zs,zs++ys=RE N∧∃qs:QI Bp,σ'[rb]?=QG (.A (qs.map bN))∧qs.length=zs.length∧
   (∀p∈qs,cB σ' p∧p.1≠rb∧p.2.1≠rb)∧(∀(i:QN) (p:Bp),qs[i]?=QG p→((∀x∈p.2.2.1,eI (bf A) x)∧p.2.2.1.length≤15)∧gQ (bf A) N i p.2.2.2)∧(0<zs.length→∃p,qs[0]?=QG p∧ud A p.2.2.1)) () QJ (.r QJ)
  ⟨.d l1 h2,(aL (h2.1 _ _ (lu hs1 e1 nofun) e1) (h2.1 _ _ (jE hs1 e2 λx=>by induction A using Uo<;>nofun) e2) (h2.1 _ _ (lu hs1 e4 nofun) e4)),[],QJ,[],h2.1 _ _ (jE hs1 e3 nofun) e3,QJ,λZ h=>Ro h Rb,nofun,λh=>Ro h (Ts 0)⟩ (λZ Z Z Z=>QJ) (λx ys Z σ3 g J hJ Z=>.i ?_) λZ σ3 g=> ?_
 ·(revert g;refine ye λg1 z_749 zs hz qs g5 g6 g7 g8 g9=> ?_;revert z_749;refine bk λg2 g3 g4=> ?_)
  (refine oA (λe_750 hx=> ?_) (jB hz);subst e_750)
  have hs3:=g1.2
  have go:∀{m σ4} {ss:QI ab},Dr s σ3 σ4→σ3[m]?=RM→σ4[m]?=QG (.A (ss.map ab.v))→ss.length≤7→(∀x∈ss,eI (bf A) x)→(zs.length=0→∀rest,ud A (ss++rest))→
    RS (aB (d+4)) [.D [76] QR (.F (.D 96) [.F (.D 146) [.A 124,.B (.A 5)]]) [.F (.L (.A 62) .D [.F (.D 184) [.A 124,.A 148]])],.F (.L (.K (.A 43) 110) .B [.I [.A 62,.F (.D 135) [.A 124,.A 148,.A 80,.A 63]]])]
     [(62,.B m),(80,.A zs.length),(63,.A N),(43,.B q),(124,.B s),(148,.A A)] σ4 J:=λ{m σ4 ss} hD fm hm h7 ho hbg=>by
   refine HF d hs3 hD fm hm h7 hA ho λσ5 rest h5 m5 l5 o5=> ?_;have Gu:∀{σ':af} {j:QN} {o:AO},Dr s σ3 σ'→σ3[j]?=QG o→(∀x y z,o≠AO.A [.A x,.A y,.B z])→σ'[j]?=QG o:=λh e hn=>h.1 _ _ (lu hs3 e hn) e;have dK:∀{σ':af} {j:QN} {l:QI PV},Dr s σ3 σ'→σ3[j]?=QG (.A l)→(∀x,l.head?≠QG (.A x))→σ'[j]?=QG (.A l):=λh e hn=>h.1 _ _ (jE hs3 e hn) e;have hqs:∀x,(qs.map bN).head?≠QG (.A x):=λx=>by induction qs using Rm<;>nofun
   refine .k (.J (Ev.f QJ (Gu h5 g2 nofun) QJ) (dK h5 g5 hqs) (.y (.d (Ev.a QJ (.d (.k QJ (.d (Ev.a QJ (.d (Ev.a QJ (.d (Ev.a QJ (.d (Ev.a QJ (.j ((DE d h5.2 hA hx hN4.2).g λv σ6 g=> ?_))))))))))))))))
   (revert g;refine cc λh6 tm e_751 ot=> ?_;subst e_751)
   refine .j (.n (lB QJ) λa σ7 n7=> ?_);have h36:=h5.a h6;have h37:=h36.b n7.1;have hms:m≠s:=by(revert hs3;refine bc λx y z e z_752=> ?_);exact(bU e fm).symm
   have hmr:m≠rb:=(bU g5 fm).symm;have m7:=n7.1 _ _ (h6.1 _ _ hms m5);have har:a≠rb:=(bU (dK h36 g5 hqs) n7.2.1).symm;have hab:qs.length<aR:=Rp (QK (Sx g6) (QK (Sm hx) hN4.2):qs.length≤4) (lB QJ);refine(bz _ (dK h37 g5 hqs) (by rw[QP];exact hab) λσ8 c8 e8=>.a (hJ () _ _ (.r QJ) ⟨(g1.a h37).c hs fb c8,(aL (c8 _ _ (λe=>by rw[e,g5] at g2;exact nA g2 QJ) (Gu h37 g2 nofun)) (c8 _ _ (λe=> ?_) (dK h37 g3 ?_)) (c8 _ _ (λe=>by rw[e,g5] at g4;exact nA g4 QJ) (Gu h37 g4 nofun))),zs++[zs.length],(Rq ..).trans hz,qs++[(a,m,(ss++rest,tm))],?_,by rw[QW,QW,g6];rfl,λp hp=> ?_,λi p hp=> ?_,λZ=> ?_⟩))
   ·rw[e,g5] at g3
    have g3:qs.map bN=(bf A).map cu:=by injection g3 with g3;injection g3
    have g3:qs.map bN=cu .A::Yz cu (SQ (A+3) Ty.A++[Ty.B,.B,.C]):=g3
    induction qs using Rm with
    |nil=>exact(List.cons_ne_nil _ _ g3.symm).elim
    |cons p qs=>exact PV.noConfusion (VE g3).1
   ·exact λx=>nofun
   ·rw[e8,Sg]
    rfl
   ·(refine oO (λhp=> ?_) (λhp=> ?_) (mA hp))
    ·(refine bk (λz_753 b3 b4=> ?_) (g7 p hp);revert z_753;refine oA λb1 b2=> ?_)
     refine(aL ⟨c8 _ _ b3 (dK h37 b1 nofun),c8 _ _ b4 (dK h37 b2 λx=> ?_)⟩ b3 b4)
     induction p.2.2.1 using Rm with
     |nil=>nofun
     |cons a l=>induction a using ab.casesOn<;>nofun
    ·obtain rfl:=m1 hp
     exact(aL ⟨c8 _ _ har n7.2.2,c8 _ _ hmr m7⟩ har hmr)
   ·by_cases e:i<qs.length
    ·rw[Us e] at hp
     exact g8 i p hp
    ·rw[TN (TO.mp e)] at hp
     have ei:i-qs.length=0:=by
      (refine oO (λh=> ?_) (λh=> ?_) (Nat.eq_zero_or_pos (i-qs.length)))
      ·exact h
      ·rw[TZ (h)] at hp
       exact aI hp
     rw[ei] at hp;have ei:i=zs.length:=(qdD (Nat.le_of_sub_eq_zero ei) (TO.mp e)).trans g6;rw[←QS hp,ei];exact⟨⟨o5,l5⟩,ot⟩
   ·by_cases e:0<zs.length
    ·refine ag (λp hp hp'=> ?_) (g9 e)
     exact(ai p (by rw[Us (g6.symm▸e)];exact hp) hp')
    ·have e:zs.length=0:=Nat.eq_zero_of_not_pos e
     have:qs=[]:=TX (g6.trans e);rw[this];exact(ai _ QJ (hbg e rest))
  refine .d (.v (Ev.d (b:=Rc ((zs.length:RW)>0)) QJ ?_));have D0:Dr s σ3 σ3:=⟨λZ Z Z e=>e,hs3⟩
  induction e:Rc ((zs.length:RW)>0) using QL with
  |true=>
   have e:=Rl e;refine(aJ.a QJ).g λv σ4 g=> ?_
   (revert g;refine ag λm e_754 n=> ?_;subst e_754)
   exact go (ss:=[]) (D0.b n.1) n.2.1 n.2.2 (RQ _) (λZ h=>Ro h Rb) λe'=>by rw[e'] at e;exact Ro e (by decide)
  |false=>
   have e:=Vb e;refine .k QJ (.d (Ev.a QJ (.d (Ev.a QJ (.j ((Bh d hs3 hA).g λv σ4 g=> ?_))))))
   (revert g;refine iO λg10 m ss e_755 r_756=> ?_;subst e_755;revert r_756;refine Ig λfm gm l7 os cs e_757 r_758=> ?_;subst e_757;revert r_758;refine bk λh3 h2 ho=> ?_)
   exact go g10 fm gm l7 (Bl h3 h2 ho) λZ rest=>(er os cs rest QJ h3 h2 ho)
 ·(revert g;refine ye λg1 z_759 zs hz qs g5 g6 g7 g8 g9=> ?_;revert z_759;refine bk λg2 g3 g4=> ?_)
  rw[RD] at hz;rw[hz,RC] at g6 g9;have hlen:(qs.map (·.2.2)).length=N:=by rw[QP,g6]
  refine .f (Ev.a QJ (hK _ _ _ ⟨g1,q,qs.map (·.2.2),QJ,⟨nm,rl,rb,rs,g2,g3,g4,qs,g5,λp hp=>(g7 p hp).1,QJ⟩,⟨⟨hlen▸QK hN4.2 (by decide),λb hb=> ?_⟩,hlen▸hN4.1⟩,λk b hk=> ?_,?_⟩))
  ·(refine ag (λp hp e_760=> ?_) (mM hb);subst e_760)
   refine oE (λi hi=> ?_) (Uu.mp hp);exact QK (g8 i p hi).1.2 (by decide)
  ·rw[Rn] at hk
   (refine ag (λp hp e_761=> ?_) (mS hk);subst e_761)
   rw[hlen];exact⟨(g8 k p hp).1.1,(g8 k p hp).2⟩
  ·refine IA (λp hp os cs rest e h=> ?_) (g9 hN4.1)
   exact(fP os cs rest p.2.2.2 (by rw[Rn,hp,←e];rfl) h)
abbrev bE:=QI (QN×PV)
noncomputable def jo(v:PV):PV:=v
def iz(σ:af)(q:QN)(e:bE):Prop:=σ[q]?=QG (.B (bl jo e))
noncomputable def DW(v:PV)(i:QN):Rz PV:=match v with
 | .F s=>s[i]?
 |_=>RM
noncomputable def aW(e:bE):ae→Rz PV
 | .B Z v=>QG v
 | .A l=>aM e l
 | .C l i=>(aM e l).bind λv=>DW v i
section
variable{C:QN→QI PV→M PV}{κ:ay}{σ:af}{ts:QI QN}{b r:QI PS}{Q:Fl→ay→af→Prop}
theorem RF.c(h:RS C r κ σ Q):RF C ts b r (.A [],0) κ σ Q:=⟨QJ,λZ a=>.mk QJ (ai κ a h)⟩
theorem RF.d{x:PV}(h:aa (bL ts x κ) σ λκ' σ'=>RS C b κ' σ' (aV C r Q)):RF C ts b r (.A [x],1) κ σ Q:=⟨QJ,λR l=>by
 show aa (M.a (M.b x) λx=>M.a (M.a (bL ts x R) λc=>dm C b c) λt=>Sr (Fl.qa t) (.b t) (dA (.A [x]) 1 Fl.qa (λx t=>(bL ts x t.2).a λc=>dm C b c) 0 t)) σ _;refine .h (.i (.h (.h ((h.qs l).g λc σ'=>ag λκ' m q=>(q c m).g λp f=>ag λe k q=> ?_))));obtain⟨n,j⟩:=p
 induction n using Fl.casesOn with
 |A=>exact .mk QJ (ai e k q)
 |B v=>exact .i (ai e k q)⟩
end
theorem Kh(d:QN){σ:af}{q:QN}{e:bE}{o:ae}{v:PV}(h:iz σ q e)(j:aW e o=QG v):aa (aB (d+1) 401 [o.v,.B q]) σ λw σ'=>w=v∧σ'=σ:=by
 induction o using ae.casesOn with
 |B b w=>
  obtain rfl:w=v:=QS j;exact .mk (a:=w) (σ':=σ) (by kernel_rfl) ⟨QJ,QJ⟩
 |A l=>
  have n:bG (bl jo e) (l:RW)=QG v:=by rw[gB,show aM e l=QG v from j];rfl
  exact bx (pf:=oL) (κ:=[(134,(ae.A l).v),(127,.B q)]) (by kernel_rfl) (by kernel_rfl) λK p=>.g (b:=QR) (by kernel_rfl) QJ (.d (Ev.a (v:=v) (Ev.m (k:=l) (by kernel_rfl) (by kernel_rfl) h n)
   (.i (Ev.a (v:=.F []) (by kernel_rfl) (.mk (a:=(.A [],0)) (σ':=σ) QJ (.c (.f (Ev.a (v:=v) (by kernel_rfl) (p _ _ _ ⟨QJ,QJ⟩)))))))))
 |C l i=>
  refine ag (λw t j=> ?_) (bS j);have n:bG (bl jo e) (l:RW)=QG w:=by rw[gB,t];rfl
  induction w using PV.casesOn with
  |F s=>
   have u:ie (.F s) (.A i) σ=QG (v,σ):=kh j
   refine bx (pf:=oL) (κ:=[(134,(ae.C l i).v),(127,.B q)]) (by kernel_rfl) (by kernel_rfl) λK p=>.g (b:=QR) (by kernel_rfl) QJ (.d (Ev.a (v:=.F s) (Ev.m (k:=l) (by kernel_rfl) (by kernel_rfl) h n)
    (.i (Ev.a (v:=.F [.F [.C 83,.A i]]) (by kernel_rfl) ?_))))
   refine .mk (a:=(.A [.F [.C 83,.A i]],1)) (σ':=σ) QJ (RF.d (.mk (a:=[(159,.F [.C 83,.A i]),(101,.F s),(134,(ae.C l i).v),(127,.B q)]) (σ':=σ) QJ ?_));exact .d (Ev.a (v:=v) (Ev.k (x:=.F s) (y:=.A i) (by kernel_rfl) (by kernel_rfl) u) (.a (.a (.f (Ev.a (v:=v) (by kernel_rfl) (p _ _ _ ⟨QJ,QJ⟩))))))
  |_=>exact aI j
theorem aa.O{d q:QN}{κ:ay}{σ:af}{Q:PV→af→Prop}{e:PE}{o:ae}{v:PV}{E:bE}(c:Ev (aB (d+1)) e κ σ o.v)(f:Ev (aB (d+1)) (.A 127) κ σ (.B q))(h:iz σ q E)(i:aW E o=QG v)(g:Q v σ):aa (ak (aB (d+1)) (.F (.D 145) [e,.A 127]) κ) σ Q:=
 .k QJ (.d (c.a (.d (f.a (.j ((Kh d h i).g λw t k=>by rw[k.1,k.2];exact g))))))
noncomputable def js(op:QN):Bool:=22==op||(24==op||false)
noncomputable def qX(op:QN):Bool:=23==op||(21==op||(9==op||(22==op||(11==op||(24==op||false)))))
noncomputable def nt(op f:QN)(a b:RW):Bool:=
 Sr (f==9) (Rc (a<b)||(js op&&a==b)) (Sr (f==11) (Rc (a>b)||(js op&&a==b)) ((op==23)==(a==b)))
noncomputable def lO(a b:RW):QI PV:=[.A (a+b),.A (a-b),.A (a*b),.A (ZX a b),.A (qad a b),.A (ZW a b)]
noncomputable def jH(op:QN)(a b:RW):Rz PV:=Sr (qX op) ((kM op).map λf=>.D (nt op f a b)) (bG ([7,8,6,5,20,12].zip (lO a b)) op)
section
variable{C:QN→QI PV→M PV}{κ:ay}{σ:af}{Q:RG→af→Prop}
theorem RB.h{e:PE}{j:QI PE}{x:PV}{vs:QI PV}{d:D}{ds:QI D}(k:Ev C e κ σ x)(s:cz C j κ σ vs)(l:vs.length≤100)(m:∀σ,toD σ 16 x=QG d)(i:∀σ,cP (toD σ 16) vs=QG ds)(q:∀σ',Le σ σ'→Q (ds.any λy=>bY y d) σ'):RB C (.H .B e (.I j)) κ σ Q:=
 .a (k.a ((aJ.h s (bT l)).g λv σ' g=>by
  (revert g;refine ag λr c n=> ?_;subst c)
  refine .mk ?_ (q σ' n.1);show QX (M.f r σ') _=_;rw[fc n.2.2];show QX (toD σ' 16 x) (λd=>QY _ (cP (toD σ' 16) vs))=_;rw[m,i]
  rfl))
theorem RB.s{a b:PE}{x:RG}(h:Ev C a κ σ (.D x))(g:x=QR→RB C b κ σ λy σ'=>Q (x||y) σ')(g':x=QO→Q QO σ):RB C (.Q a b) κ σ Q:=.i (h.d (by
 induction x using QL with
 |true=>exact g' QJ
 |false=>exact g QJ))
end
theorem Mw(d:QN){σ:af}{op:QN}{a b:RW}{v:PV}(X: -1000≤b∧b≤1000)(o:jH op a b=QG v):aa (aB (d+1) 408 [.C op,.A a,.A b]) σ λw σ'=>w=v∧Le σ σ':=by
 refine bx (pf:=sE) (κ:=[(26,.C op),(13,.A a),(14,.A b)]) (by kernel_rfl) (by kernel_rfl) λK N=>.j (.h (x:=.C op) (vs:=[.C 23,.C 21,.C 9,.C 22,.C 11,.C 24]) (d:=.A op) (ds:=[.A 23,.A 21,.A 9,.A 22,.A 11,.A 24]) (by kernel_rfl) (by kernel_rfl) (by decide) (λZ=>QJ) (λZ=>QJ) λz T=> ?_);show RS _ (Sr (qX op) _ _) _ z _;unfold jH at o
 induction O:qX op using QL with
 |true=>
  rw[O] at o
  (refine ag (λf Y E=> ?_) (mS (show(kM op).map _=QG v from o));subst E)
  have t:∀{c:PE} {x:RG} {l:af} {Q:PV→af→Prop},Ev (aB d) c [(26,.C op),(13,.A a),(14,.A b)] l (.D x)→(∀σ',Le l σ'→Q (.D (x||(js op&&a==b))) σ')→
    aa (ak (aB d) (.Q c (.M (.H .B (.A 26) (.I [.B (.C 22),.B (.C 24)])) (.H .A (.A 13) (.A 14)))) [(26,.C op),(13,.A a),(14,.A b)]) l Q:=λ{c x l Q} O q=>by
   refine aa.g (RB.s (Q:=λy σ'=>y=(x||(js op&&a==b))∧Le l σ') O (λe=>RB.f (RB.h (x:=PV.C op) (vs:=[PV.C 22,PV.C 24]) (d:=D.A op) (ds:=[D.A 22,D.A 24]) (by kernel_rfl) (by kernel_rfl) (by decide) (λZ=>QJ) (λZ=>QJ) λR P=> ?_)) λe=>⟨by rw[e];rfl,Le.b _⟩) λv σ'=>ag λy e g=> ?_
   ·show Sr (js op) _ _
    induction js op using QL with
    |false=>exact⟨QJ,P⟩
    |true=>exact Ev.d (b:=a==b) (by kernel_rfl) ⟨QJ,P⟩
   ·rw[e,g.1]
    exact q σ' g.2
  refine .d (.y (.d (t (x:=Rc (a<b)) (by kernel_rfl) λl h2=>.d (Ev.a (v:=.D (a==b)) (by kernel_rfl) (.d (t (x:=Rc (a>b)) (by kernel_rfl) λR P=>.j (.n (lB QJ) λr m U=> ?_)))))));refine have F:=((T.a h2).a P).a U.1;?_
  have u:∀{κ},Ev (aB d) (.A 26) κ m (.C op)→Ev (aB d) (.C (.A 26) (.B (.A 0))) κ m (.C f):=λh=>Ev.k (y:=.A 0) h QJ (by
   show(M.h ((kM op).map PV.C)) m=_;rw[Y]
   rfl)
  refine have G:∀{k:QN} {v:PV},fw (.A (k:RW))=.b k→[PV.D (Rc (a<b)||(js op&&a==b)),.D (a==b),.D (Rc (a>b)||(js op&&a==b))][k]?=QG v→Ev (aB d) (.C (.A 75) (.B (.A k))) [(75,.B r),(26,.C op),(13,.A a),(14,.A b)] m v:=λ{k v} hk e=>Ev.g (x:=.A k) (by kernel_rfl) (by kernel_rfl) U.2.2 hk e;?_;refine .f (.v (Ev.d (b:=f==9) (Ev.h (x:=.C f) (y:=.C 9) (u (by kernel_rfl)) (by kernel_rfl) QJ) ?_))
  induction S:f==9 using QL with
  |true=>exact Ev.a (G (k:=0) QJ QJ) (N _ _ _ ⟨by rw[nt,S];rfl,F⟩)
  |false=>
   refine aa.v (Ev.d (b:=f==11) (Ev.h (x:=.C f) (y:=.C 11) (u (by kernel_rfl)) (by kernel_rfl) QJ) ?_)
   induction L:f==11 using QL with
   |true=>exact Ev.a (G (k:=2) QJ QJ) (N _ _ _ ⟨by rw[nt,S,L];rfl,F⟩)
   |false=>exact Ev.a (v:=.D ((op==23)==(a==b))) (Ev.h (x:=.D (op==23)) (y:=.D (a==b)) (by kernel_rfl) (G (k:=1) QJ QJ) QJ) (N _ _ _ ⟨by rw[nt,S,L];rfl,F⟩)
 |false=>
  rw[O] at o;refine have o:bG ([7,8,6,5,20,12].zip (lO a b)) op=QG v:=o;?_
  (refine oE (λi J=> ?_) ((by
   obtain⟨p,hp,rfl⟩:=mS o;refine have V:p.2∈lO a b:=(qag (VJ hp)).2;?_;simp only[lO,SI,Rb,Ys] at V
   rcases V with h|h|h|h|h|h<;>exact⟨_,h⟩:∃i,v=PV.A i));subst J)
  refine .a (.a (.d ?_));show aa (M.a (M.a (cK (aB d) _ _) λvs=>M.j (.D ([7,8,6,5,20,12].zip vs))) λx=>M.a (ak (aB d) (.A 26) _) λy=>ie x y) z _;refine .h (.h (.mk (a:=lO a b) (σ':=z) (cz.a (by kernel_rfl) (cz.a (by kernel_rfl) (cz.a (Ev.i (x:=.A a) (y:=.A b) (by kernel_rfl) (by kernel_rfl) (rH (ko X))) (cz.a (by kernel_rfl) (cz.a (by kernel_rfl) (cz.a (by kernel_rfl) .d)))))) (.x λn l W=>.h (Ev.a (v:=.C op) (by kernel_rfl) (.mk (a:=.A i) (σ':=l) ?_ ?_)))))
  ·show QX (M.f n l) _=_
   rw[fc W.2.2];exact kh o
  ·exact .f (.v (Ev.d (b:=QR) (by kernel_rfl) (Ev.a (v:=.A i) (by kernel_rfl) (N _ _ _ ⟨QJ,T.a W.1⟩))))
noncomputable def Mk(op:QN):PV→Rz PV
 | .D c=>QG (.D (!c))
 | .A n=>QG (.A (Sr (op==4) (255-n) ((-n).fmod 256)))
 |_=>RM
noncomputable def Dc:PV→Rz PV
 | .D c=>QG (.A ((jQ c).fmod 256))
 | .A n=>QG (.A (n.fmod 256))
 |_=>RM
noncomputable def lZ(chk:RG):PV→Rz PV
 | .D c=>QG (.D c)
 | .A w=>QG (Sr chk (.F [.A (w.fmod 256),.D (!(Rc (0≤w)&&Rc (w<256)))]) (.A (w.fmod 256)))
 |_=>RM
noncomputable def qW:PV→Rz RW
 | .A i=>QG i
 |_=>RM
noncomputable def kg(chk:RG)(op:QN)(x y:PV):Rz PV:=(qW x).bind λi=>(qW y).bind λj=>Sr (Rc (-1000≤j∧j≤1000)) ((jH op i j).bind (lZ chk)) RM
noncomputable def fB(e:bE):Rv→Rz PV
 | .A a=>aW e a
 | .F a b=>(aW e a).bind λx=>(aW e b).map λy=>.F [x,y]
 | .B p a b=>(aW e a).bind λx=>(aW e b).bind λy=>kg QR p x y
 | .D p a b=>(aW e a).bind λx=>(aW e b).bind λy=>kg QO p x y
 | .G p a=>(aW e a).bind (Mk p)
 | .C a=>(aW e a).bind Dc
theorem wY{v:PV}{i:RW}(h:qW v=QG i):v=.A i:=by
 induction v using PV.casesOn with
 |A j=>exact RH PV.A (QS h)
 |_=>exact aI h
theorem xF(d:QN){σ:af}{q op:QN}{e:bE}{chk:RG}{a b:ae}{x y v:PV}{t w:PV}{K:Fl→ay→af→Prop}(N:t=.F [w,.C op,a.v,b.v])(P:w=.C (Sr chk 129 109))(h:iz σ q e)(R:aW e a=QG x)(S:aW e b=QG y)(p:kg chk op x y=QG v)
  (I:∀κ σ',Le σ σ'→K (.B v) κ σ'):RS (aB (d+1)) (oK.Qu.drop 5) [(57,w),(121,t),(127,.B q)] σ K:=by
 subst N P;refine ag (λi T E=> ?_) (bS p);refine ag (λj U n=> ?_) (bS E);clear p E;obtain rfl:=wY T;obtain rfl:=wY U
 induction J:Rc (-1000≤j∧j≤1000) using QL with
 |false=>rw[J] at n;exact aI n
 |true=>
  rw[J] at n;refine ag (λu V p=> ?_) (bS (show(jH op i j).bind (lZ chk)=QG v from n));refine .d (.k (a:=408) (by kernel_rfl) (.d (Ev.a (v:=.C op) (by kernel_rfl) (.d (.O (o:=a) (by kernel_rfl) (by kernel_rfl) h R (.d (.O (o:=b) (by kernel_rfl) (by kernel_rfl) h S (.j ((Mw d (Rl J) V).g λW H g=> ?_)))))))))
  (revert g;refine oA λs L=> ?_;subst s)
  induction W using PV.casesOn with
  |D c=>
   obtain rfl:PV.D c=v:=QS p;exact .h (b:=QO) (by kernel_rfl) QJ (.f (Ev.a (v:=.D c) (by kernel_rfl) (I _ _ L)))
  |A m=>
   refine .g (b:=QR) (by kernel_rfl) QJ (.f ?_)
   induction chk using QL with
   |false=>
    obtain rfl:PV.A (m.fmod 256)=v:=QS p;exact .v (Ev.d (b:=QR) (by kernel_rfl) (Ev.a (v:=.A (m.fmod 256)) (Ev.i (x:=.A m) (y:=.A 256) (by kernel_rfl) (by kernel_rfl) (iH (by decide))) (I _ _ L)))
   |true=>
    obtain rfl:PV.F [.A (m.fmod 256),.D (!(Rc (0≤m)&&Rc (m<256)))]=v:=QS p;refine .v (Ev.d (b:=QO) (by kernel_rfl) (aa.G (Ev.a (v:=.A (m.fmod 256)) (Ev.i (x:=.A m) (y:=.A 256) (by kernel_rfl) (by kernel_rfl) (iH (by decide))) (Ev.a (v:=.D (!(Rc (0≤m)&&Rc (m<256)))) ?_ (I _ _ L)))));refine Ev.l ?_
    refine aa.g (RB.k (Q:=λb σ'=>b=(!(Rc (0≤m)&&Rc (m<256)))∧σ'=H) ?_) λv σ' g=>by
     (revert g;refine ag λb e g=> ?_)
     exact⟨by rw[e,g.1],g.2⟩
    show aa (M.a (M.b (PV.A 0)) λx=>M.a (M.b (PV.A m)) λy=>M.a (M.b (Rc (0≤m))) λr=>Sr r (M.a (M.b (PV.A 256)) λz=>M.a (M.b (Rc (m<256))) λX=>.b (PV.D X)) (.b (PV.D QR))) H _;refine .h (.i (.h (.i (.h (.i ?_)))))
    induction Rc (0≤m) using QL with
    |true=>
     rw[WC];exact .h (.i (.h (.i (.i (bz _ QJ QJ QJ)))))
    |false=>
     rw[ZQ];exact .i (bz _ QJ QJ QJ)
  |_=>exact aI p
theorem Ht(d:QN){σ:af}{q:QN}{e:bE}{r:Rv}{v:PV}(h:iz σ q e)(k:fB e r=QG v):aa (aB (d+2) 413 [r.v,.B q]) σ λw σ'=>w=v∧Le σ σ':=by
 refine bx (pf:=oK) (κ:=[(121,r.v),(127,.B q)]) (by kernel_rfl) (by kernel_rfl) λK m=> ?_
 induction r using Rv.casesOn with
 |A a=>exact .d (Ev.a (v:=.C 38) (by kernel_rfl) (.h (b:=QO) (by kernel_rfl) QJ (.f (.O (o:=a) (by kernel_rfl) (by kernel_rfl) h k (m _ _ _ ⟨QJ,Le.b _⟩)))))
 |F a b=>
  refine ag (λx l k=> ?_) (bS k)
  (refine ag (λy P s=> ?_) (mS k);subst s)
  refine .d (Ev.a (v:=.C 99) (by kernel_rfl) (.g (b:=QR) (by kernel_rfl) QJ (.h (b:=QO) (by kernel_rfl) QJ (.f (.qr (.K (Ev.a (v:=.F [a.v,b.v]) (by kernel_rfl) (.mk (a:=(.A [a.v,b.v],2)) (σ':=σ) QJ ⟨.inl QJ,?_⟩))))))));refine aa.qh ae.v [a,b] (λS z σ'=>σ'=σ∧(∀o∈S,(aW e o).isSome=QO)∧z++S.map (λo=>(aW e o).getD .G)=[x,y]) (lB QJ) (aL QJ (λo T=> ?_) (by rw[Tq,Tq,l,P];rfl)) (λZ Z Z Z=>QJ) (λo S z σ' g=>.mk (a:=[(134,o.v),(57,.C 99),(121,(Rv.F a b).v),(127,.B q)]) (σ':=σ') QJ ?_) λz σ' hl g=> ?_
  ·(refine oO (λE=> ?_) (λT=> ?_) (mC T)<;>try subst E)
   ·rw[l];rfl
   ·rw[m1 T,P];rfl
  ·(revert g;refine oA λI J=> ?_;subst I;revert J;refine oA λU Q=> ?_)
   refine oE (λu V=> ?_) (Tx.mp (U o (QM ..)));refine .O (o:=o) (by kernel_rfl) (by kernel_rfl) h V (aL QJ (λX Y=>U X (QV _ Y)) ?_);rw[Tq,V] at Q;rw[Rq];exact Q
  ·(revert g;refine oA λL M=> ?_;subst L;revert M;refine oA λN Q=> ?_;clear N)
   rw[Vm,RD] at Q;subst Q;exact .n (lB QJ) λp a0 n=>.p n.2.2 ⟨lB QJ,m _ _ _ ⟨QJ,n.1⟩⟩
 |G R a=>
  refine ag (λx l k=> ?_) (bS k);refine .d (Ev.a (v:=.C 100) (by kernel_rfl) (.g (b:=QR) (by kernel_rfl) QJ (.g (b:=QR) (by kernel_rfl) QJ (.h (b:=QO) (by kernel_rfl) QJ (.d (.O (o:=a) (by kernel_rfl) (by kernel_rfl) h l (.f ?_)))))))
  induction x using PV.casesOn with
  |D c=>
   obtain rfl:PV.D (!c)=v:=QS k;exact .v (Ev.d (b:=QO) (by kernel_rfl) (Ev.a (v:=.D (!c)) (by kernel_rfl) (m _ _ _ ⟨QJ,Le.b _⟩)))
  |A n=>
   obtain rfl:PV.A (Sr (R==4) (255-n) ((-n).fmod 256))=v:=QS k;refine .v (Ev.d (b:=QR) (by kernel_rfl) (aa.v (Ev.d (b:=R==4) (by kernel_rfl) ?_)))
   induction W:R==4 using QL with
   |true=>exact Ev.a (v:=.A (255-n)) (by kernel_rfl) (m _ _ _ ⟨by rw[W];rfl,Le.b _⟩)
   |false=>exact Ev.a (v:=.A ((-n).fmod 256)) (Ev.i (x:=.A (-n)) (y:=.A 256) (by kernel_rfl) (by kernel_rfl) (iH (by decide))) (m _ _ _ ⟨by rw[W];rfl,Le.b _⟩)
  |_=>exact aI k
 |C a=>
  refine ag (λx l k=> ?_) (bS k);refine .d (Ev.a (v:=.C 47) (by kernel_rfl) (.g (b:=QR) (by kernel_rfl) QJ (.g (b:=QR) (by kernel_rfl) QJ (.g (b:=QR) (by kernel_rfl) QJ (.h (b:=QO) (by kernel_rfl) QJ (.f (.t (.u (g:=.H) (by kernel_rfl) (.d (.O (o:=a) (by kernel_rfl) (by kernel_rfl) h l (.j ?_)))))))))))
  induction x using PV.casesOn with
  |D c=>
   obtain rfl:PV.A ((jQ c).fmod 256)=v:=QS k;exact .mk (a:=.A (jQ c)) (σ':=σ) QJ (Ev.a (v:=.A 256) (by kernel_rfl) (.mk (iH (by decide)) (m _ _ _ ⟨QJ,Le.b _⟩)))
  |A n=>
   obtain rfl:PV.A (n.fmod 256)=v:=QS k;exact .mk (a:=.A n) (σ':=σ) QJ (Ev.a (v:=.A 256) (by kernel_rfl) (.mk (iH (by decide)) (m _ _ _ ⟨QJ,Le.b _⟩)))
  |_=>exact aI k
 |B R a b=>
  refine ag (λx l k=> ?_) (bS k);refine ag (λy P k=> ?_) (bS k);exact .d (Ev.a (v:=.C 109) (by kernel_rfl) (.g (b:=QR) (by kernel_rfl) QJ (.g (b:=QR) (by kernel_rfl) QJ (.g (b:=QR) (by kernel_rfl) QJ (.g (b:=QR) (by kernel_rfl) QJ (xF d (a:=a) (b:=b) (chk:=QR) QJ QJ h l P k λZ Z g=>m _ _ _ ⟨QJ,g⟩))))))
 |D R a b=>
  refine ag (λx l k=> ?_) (bS k);refine ag (λy P k=> ?_) (bS k);exact .d (Ev.a (v:=.C 129) (by kernel_rfl) (.g (b:=QR) (by kernel_rfl) QJ (.g (b:=QR) (by kernel_rfl) QJ (.g (b:=QR) (by kernel_rfl) QJ (.g (b:=QR) (by kernel_rfl) QJ (xF d (a:=a) (b:=b) (chk:=QO) QJ QJ h l P k λZ Z g=>m _ _ _ ⟨QJ,g⟩))))))
noncomputable def dV:PV→Rz D
 | .A i=>QG (.C i)
 | .D b=>QG (.D b)
 |_=>RM
theorem jS{v:PV}{d:D}(h:dV v=QG d)(σ:af)(n:QN):toD σ (n+1) v=QG d:=by
 induction v using PV.casesOn with
 |A i=>exact h
 |D b=>exact h
 |_=>exact aI h
noncomputable def eK(e:bE):Tm→Rz (Rz QN)
 | .F b=>QG (QG b)
 | .D o b=>(aW e o).bind λv=>(dV v).map λa=>Sr (bY a (.D QR)) (QG b) RM
 | .C o s d=>(aW e o).bind λv=>(dV v).bind λa=>Sr (s.all λc=>(dV c.1).isSome) (QG (QG (((s.find? λc=>((dV c.1).map λf=>bY f a).getD QR).map (·.2)).getD d))) RM
 |_=>RM
noncomputable def JC:Rz QN→PV
 |none=>.G
 |some b=>.A b
theorem HO(d:QN){σ:af}{q:QN}{e:bE}{t:Tm}{x:Rz QN}(h:iz σ q e)(ht:t.qc=QO)(j:eK e t=QG x):aa (aB (d+2) 423 [t.v,.B q]) σ λw σ'=>w=JC x∧Le σ σ':=by
 refine bx (pf:=sx) (κ:=[(163,t.v),(127,.B q)]) (by kernel_rfl) (by kernel_rfl) λK N=> ?_
 induction t using Tm.casesOn with
 |A=>exact aI j
 |B=>exact aI j
 |F b=>
  obtain rfl:QG b=x:=QS j;exact .h (b:=QO) (by kernel_rfl) QJ (.f (Ev.a (v:=.A b) (by kernel_rfl) (N _ _ _ ⟨QJ,Le.b _⟩)))
 |D o b=>
  refine ag (λv V j=> ?_) (bS j)
  (refine ag (λr W z=> ?_) (mS j);subst z)
  refine .g (b:=QR) (by kernel_rfl) QJ (.d (.O (o:=o) (by kernel_rfl) (by kernel_rfl) h V (.h (b:=QO) (by kernel_rfl) QJ (.f (.v (Ev.d (b:=bY r (.D QR)) (Ev.h (x:=v) (y:=.D QR) (by kernel_rfl) (by kernel_rfl) ?_) ?_))))))
  ·show QX (toD σ 16 v) _=_
   rw[jS W]
   rfl
  ·induction P:bY r (.D QR) using QL with
   |true=>exact Ev.a (v:=.A b) (by kernel_rfl) (N _ _ _ ⟨by rw[P];rfl,Le.b _⟩)
   |false=>exact Ev.a (v:=.G) (by kernel_rfl) (N _ _ _ ⟨by rw[P];rfl,Le.b _⟩)
 |C o s b=>
  refine ag (λv V j=> ?_) (bS j);refine ag (λr W j=> ?_) (bS j)
  induction X:s.all λc=>(dV c.1).isSome using QL with
  |false=>rw[X] at j;exact aI j
  |true=>
   rw[X] at j;obtain rfl:=QS (show QG _=QG x from j)
   have Q:s.length≤100:=by
    have:(s.map (·.2)++[b]).length≤100:=lB ht;rw[QW,QP] at this;exact QK (Sh _ _) this
   refine .g (b:=QR) (by kernel_rfl) QJ (.d (.O (o:=o) (by kernel_rfl) (by kernel_rfl) h V (.g (b:=QR) (by kernel_rfl) QJ (.d (.K (Ev.a (v:=.F (s.map ia)) (by kernel_rfl) (.mk (a:=(.A (s.map ia),s.length)) (σ':=σ) (by rw[←QP (as:=s) ia];rfl) ⟨.inl QJ,?_⟩)))))))
   refine aa.T ia s (λY E σ'=>σ'=σ∧(Y.all λc=>(dV c.1).isSome)=QO∧E++aS ((Y.filter λc=>((dV c.1).map λi=>bY i r).getD QR).map (·.2))=aS ((s.filter λc=>((dV c.1).map λi=>bY i r).getD QR).map (·.2))) (bT Q) (aL QJ X QJ) (λZ Z Z Z=>QJ)
    (λc Y E σ' g=>.mk (a:=[(80,.A c.2),(75,c.1),(101,v),(163,(Tm.C o s b).v),(127,.B q)]) (σ':=σ') QJ ?_) λE σ' hl g=> ?_
   ·(revert g;refine oA λH I=> ?_;subst H;revert I;refine oA λS u=> ?_)
    rw[Ww,Tf] at S;refine oE (λi R=> ?_) (Tx.mp S.1);rw[TU,R] at u;refine Ev.d (b:=bY i r) (Ev.h (x:=c.1) (y:=v) (by kernel_rfl) (by kernel_rfl) ?_) ?_
    ·show QX (toD σ' 16 c.1) (λx=>QY _ (toD σ' 16 v))=_
     rw[jS R,jS W]
     rfl
    ·induction P:bY i r using QL with
     |true=>
      rw[WC];rw[show((QG i).map λi=>bY i r).getD QR=QO from P] at u;exact Ev.a (v:=.A c.2) (by kernel_rfl) (aL QJ S.2 (by rw[Rq];exact u))
     |false=>
      rw[show((QG i).map λi=>bY i r).getD QR=QR from P] at u;exact(aL QJ S.2 u)
   ·(revert g;refine oA λJ L=> ?_;subst J;revert L;refine oA λM u=> ?_;clear M)
    rw[Yk,Vm,show aS []=[] from QJ,RD] at u;subst u;refine .n (bT (QK hl Q)) λp a0 U=>.f (.v (.m (n:=p) (by kernel_rfl) U.2.2 λa1 l2=> ?_));have hh:(s.filter λc=>((dV c.1).map λi=>bY i r).getD QR).head?=s.find? λc=>((dV c.1).map λi=>bY i r).getD false:=List.head?_filter
    induction hf:s.filter λc=>((dV c.1).map λi=>bY i r).getD QR using Rm with
    |nil=>exact Ev.a (v:=.A b) (by kernel_rfl) (N _ _ _ ⟨by rw[←hh,hf];rfl,U.1.a l2⟩)
    |cons c l=>
     have e2:=l2 _ _ U.2.2;rw[hf] at e2;exact Ev.a (v:=.A c.2) (Ev.g (x:=.A 0) (k:=0) (n:=p) (by kernel_rfl) (by kernel_rfl) e2 QJ QJ) (N _ _ _ ⟨by rw[←hh,hf];rfl,U.1.a l2⟩)
noncomputable def eE(s:ab)(e:bE)(p:QI PV):Rz (bE×QI PV):=match s with
 | .A l r=>(fB e r).map λv=>(bJ e l v,p)
 | .B o=>(aW e o).bind λv=>(dV v).map λZ=>(e,p++[v])
 | .C=>QG (e,p)
noncomputable def dp:QI ab→bE→QI PV→Rz (bE×QI PV)
 |[],e,p=>QG (e,p)
 |s::r,e,p=>(eE s e p).bind λy=>dp r y.1 y.2
abbrev fJ:=Rz (PV×QI PV)
noncomputable def jA(c:QN):PV:=.F [.C 92,.C c]
noncomputable def fj(t:Tm)(e:bE)(p:QI PV)(k:QN→Rz fJ):Rz fJ:=match t with
 | .A=>(aM e 0).bind λv=>(dV v).map λZ=>QG (.F [.C 51,v],p)
 | .B=>QG (QG (jA 31,p))
 |t=>(eK e t).bind λx=>match x with
  |some b=>k b
  |none=>QG (QG (jA 151,p))
noncomputable def dX(s:QI aE):QN→QN→bE→QI PV→Rz fJ
 |0,Z,U,Y=>QG RM
 |f+1,b,e,p=>(s[b]?).bind λk=>(dp k.1 e p).bind λy=>fj k.2 y.1 y.2 λa=>dX s f a y.1 y.2
noncomputable def eX(ns:QI QN):bE:=ns.mapIdx λi v=>(i+1,nV v)
def jN(σ:af)(v:PV):fJ→Prop
 |none=>v=.G
 |some x=>∃q,v=.F [x.1,.B q]∧σ[q]?=QG (.A x.2)∧(∃d,∀σ,toD σ 15 x.1=QG d)∧∀y∈x.2,(dV y).isSome=QO
theorem Fz{α:Type}{l:QI (QN×α)}{k:QN}(h:∀p∈l,p.1<k):aM l k=none:=by
 induction e:aM l k using QQ with
 |none=>rfl
 |some v=>exact Ro (h _ (gg e)) (Ts _)
theorem DI{C:QN→QI PV→M PV}{κ:ay}{σ:af}{Q:PV→af→Prop}{ns:QI QN}{r:QN}(L:Ev C (.A 75) κ σ (.B r))(O:σ[r]?=QG (.A (aS ns)))(R:ns.length≤9)
  (q:∀v σ',fH σ v (.B (bl jo (eX ns))) σ'→Q (.B v) σ'):aa (ak C (.V [89,101] QO (.A 75) (.B (.D QO)) (.J .A (.A 89) (.B (.A 1))) (.A 101)) κ) σ Q:=by
 refine have N:ns.zipIdx.length=ns.length:=qce;?_
 refine .qe (λ(z:QN×QN)=>.F [.A z.2,.A z.1]) ns.zipIdx (λP c σ'=>σ'=σ∧∃s,s++P=ns.zipIdx∧c=bl jo (eX (s.map (·.1)))) (L.a (.qp (f:=λ(n:QN)=>.A n) O ⟨N.symm,.inl QJ,λZ Z σ' g=>(bz (aS ns) (g.1▸O) (by rw[QP,N,eY]) λj x I=> ?_),QJ,[],QJ,QJ⟩))
  (λx P c σ' g=>.mk (a:=(101,.A x.1)::(89,.A x.2)::κ) (σ':=σ') QJ (Ev.d (b:=QO) QJ ⟨λZ=>Ev.a (v:=.A (x.2+1:QN)) QJ (ai _ QJ (Ev.a (v:=.A x.1) QJ (aL ?_ g.1 ?_))),nofun⟩)) λc σ' v K g n=> ?_
 ·rw[aS,Rn] at I
  (refine ag (λy S h=> ?_) (mS I);subst h)
  rw[Rn,YA,S,SG]
  rfl
 ·(revert g;refine cc λk s l m=> ?_;clear k;subst m)
  rw[bl,QP,eX,Uy,QP];refine have:=RH Wz l;?_;rw[QW,N] at this;exact Rp (QK (by rw[←this];exact Sh _ _) R) (lB QJ)
 ·(revert g;refine cc λo s l t=> ?_;clear o;subst t)
  have I:x.2=s.length:=by
   refine have:=RH (·[s.length]?) l;?_;simp only[TN (Sd _),VI,List.getElem?_cons_zero,YA,SG] at this
   (refine ag (λy u e=> ?_) (mS this.symm);clear u)
   rw[←e]
  refine(ai (s++[x]) ((Rq ..).trans l) ((lq jo (eX (s.map (·.1))) (x.2+1) (nV x.1)).trans (RH (bl jo) ?_)));rw[zp (Fz λp T=> ?_),Sg,eX,eX,Tq,Vm,tj,QP,I]
  (refine bq (λi a U w=> ?_) (mi T);subst w)
  refine have:=(gL U);?_;rw[QP] at this;rw[I];exact ZY this
 ·(revert g;refine oA λE G=> ?_;subst E;revert G;refine ag λs l H=> ?_;subst H)
  rw[RD] at l;rw[l,List.zipIdx_map_fst] at n;exact q v K n
theorem DO(d:QN){n σ:af}{j T U:QN}{ss:QI ab}{e:bE}{p:QI PV}{y:bE×QI PV}{κ:ay}{r:QI PS}{t t':PV}{K:Fl→ay→af→Prop}(κ':ay)(W:κ'=[(163,t),(119,.B U),(127,.B T),(43,t')])(hs:ar κ' κ)(X:Ev (aB (d+3)) (.A 161) κ σ (.B j))
  (h0:Le n σ) (hj:n[j]?=QG (.A (ss.map ab.v))) (fv:n[T]?=RM) (fp:n[U]?=RM) (hv:iz σ T e) (hp:σ[U]?=QG (.A p)) (he:dp ss e p=QG y) (hd:∀x∈p,(dV x).isSome=QO) (a0:e.length+ss.length≤400) (a1:p.length+ss.length≤400)
  (h:∀σ',Le n σ'→iz σ' T y.1→σ'[U]?=QG (.A y.2)→(∀x∈y.2,(dV x).isSome=QO)→y.1.length≤e.length+ss.length→y.2.length≤p.length+ss.length→RS (aB (d+3)) r κ' σ' K):
  RS (aB (d+3)) (.D [152] QR (.A 161) [.C (.H .A (.C (.A 152) (.B (.A 0))) (.B (.C 105))) [.A (.C (.A 127) (.C (.C (.A 152) (.B (.A 1))) (.B (.A 0)))) (.F (.D 142) [.C (.A 152) (.B (.A 2)),.A 127])] [],.C (.H .A (.C (.A 152) (.B (.A 0))) (.B (.C 95))) [.F (.L (.A 119) .B [.F (.D 145) [.C (.A 152) (.B (.A 1)),.A 127]])] []]::r) κ σ K:=by
 subst W
 refine .i (X.a (.s (h0 _ _ hj) (RF.a ab.v ss (λ(Z:UE)=>[(163,t),(119,.B U),(127,.B T),(43,t')]) (λG Z σ'=>Le n σ'∧∃f m,iz σ' T f∧σ'[U]?=QG (.A m)∧dp G f m=QG y∧(∀x∈m,(dV x).isSome=QO)∧f.length+G.length≤e.length+ss.length∧m.length+G.length≤p.length+ss.length) () QJ hs
  (jl h0 e p hv hp he hd (Sd _) (Sd _)) (λZ Z Z g=>g.1 _ _ hj) (λs G Z Y g J hJ Z=>.i ?_) λZ Y g=> ?_)))
 ·(revert g;refine mn λg1 f m u E I g5 M N=> ?_)
  have m6:f.length+1+G.length≤e.length+ss.length:=by rw[Se] at M;exact QK (Sx (RO _ _ _)) M
  have m7:m.length+1+G.length≤p.length+ss.length:=by rw[Se] at N;exact QK (Sx (RO _ _ _)) N
  refine ag (λz hz I=> ?_) (bS I)
  induction s using ab.casesOn with
  |C=>
   obtain rfl:(f,m)=z:=QS hz;exact .g QJ QJ (.g QJ QJ (.a (hJ () _ _ (.r QJ) (jl g1 f m u E I g5 (Sm M) (Sm N)))))
  |B o=>
   refine ag (λv P hz=> ?_) (bS hz)
   (refine ag (λdv a2 Q=> ?_) (mS hz);subst Q)
   refine .g QJ QJ (.h QJ QJ (.k (.J QJ E (.O QJ QJ u P (bz m E ?_ λa3 c2 e2=>.a (.b (hJ () _ _ (.r QJ) (jl (g1.c fp c2) f (m++[v]) (c2 _ _ (λq=> ?_) u) e2 I (λx hx=> ?_) (Sm M) (by rw[QW];exact m7)))))))))
   ·exact Rj (Rj (Tc (Th G.length)) (QK N a1):m.length<400) (lB QJ)
   ·rw[q] at u
    exact nA (u.symm.trans E) QJ
   ·(refine oO (λhx=> ?_) (λhx=> ?_) (mA hx))
    ·exact g5 x hx
    ·rw[m1 hx,a2]
     rfl
  |A l rv=>
   (refine ag (λv P R=> ?_) (mS hz);subst R)
   refine .h QJ QJ (.q (.k QJ (.d (Ev.a QJ (.d (Ev.a QJ (.j ((Ht (d+1) u P).g λw a3 k=> ?_))))))))
   (revert k;refine oA λS h2=> ?_;subst S)
   refine Ev.a QJ (Ev.a QJ (.V (h2 _ _ u) ?_ λa4 c3 e3=>.a (.a (.g QJ QJ (.a (hJ () _ _ (.r QJ) (jl ((g1.a h2).c fv c3) (bJ f l w) m ?_ (c3 _ _ (λq=> ?_) (h2 _ _ E)) I g5 ?_ (Sm N))))))))
   ·rw[bl,QP]
    exact Rj (Rj (Tc (Th G.length)) (QK M a0):f.length<400) (lB QJ)
   ·exact e3.trans (RH (λk=>QG (AO.B k)) (lq jo f l w))
   ·rw[q] at E
    exact nA (E.symm.trans u) QJ
   ·exact QK (RR (oT f l w) _) m6
 ·(revert g;refine mn λg1 f m u E I g5 M N=> ?_)
  obtain rfl:(f,m)=y:=QS I;exact h Y g1 u E g5 M N
theorem LV(t:Tm):∃w l,t.v=.F (.C w::l)∧(120==w||(92==w||false))=(match t with| .A=>QO| .B=>QO|_=>QR)∧(w==120)=(match t with| .A=>QO|_=>QR):=by
 induction t using Tm.casesOn<;>exact(cX _ _ QJ QJ QJ)
noncomputable def Mh:QI PS:=[.A (.A 80) (.F (.D 143) [.A 163,.A 127]),.C (.H .F (.A 80) (.B .G)) [.B (.G [.G [.B (.C 92),.C (.A 163) (.B (.A 3))],.A 119])] []]
theorem RB.n{C:QN→QI PV→M PV}{κ:ay}{σ:af}{e:PE}{P Q:RG→af→Prop}(h:RB C e κ σ P)(c:∀b σ',P b σ'→Q b σ'):RB C e κ σ Q:=aa.g h λZ Z q=>q.elim λb q=>(ai b q.1 (c b _ q.2))
theorem LQ{e:bE}{t:Tm}(h:eK e t=QG RM):∃o b,t=.D o b:=by
 induction t using Tm.casesOn with
 |D o b=>exact(kU o b QJ)
 |F b=>exact nomatch h
 |A=>exact aI h
 |B=>exact aI h
 |C o s d=>
  refine ag (λv f x=> ?_) (bS h);refine ag (λg i x=> ?_) (bS x)
  induction a:s.all λc=>(dV c.1).isSome using QL with
  |false=>rw[a] at x;exact nomatch x
  |true=>rw[a] at x;exact nomatch x
theorem zA(d:QN){σ:af}{r A rt:QN}{tl:QI PV}{M:QI aE}{ns:QI QN}{E:fJ}(hb:aZ σ r A tl M)(hf:dO M)(a5:∀b∈M,b.2.qc=QO)(ht:σ[rt]?=QG (.A (aS ns)))(hn:ns.length≤9)(hr:dX M (M.length+1) 0 (eX ns) []=QG E):
  aa (aB (d+4) 418 [.B r,.B rt]) σ λv σ'=>Le σ σ'∧jN σ' v E:=by
 refine dw (λrb vs hv a0 a1 a2=> ?_) (hb.b);have a3:M.length+1≤11:=Tg hf.1;refine bx (pf:=sz) (κ:=[(43,.B r),(75,.B rt)]) (by kernel_rfl) (by kernel_rfl) λK hK=>.l (.H (DI (by kernel_rfl) ht hn λS b5 n1=>(aJ.a (l:=[]) (by kernel_rfl)).g λv a4 g=> ?_))
 (revert g;refine ag λO W n2=> ?_;subst W)
 refine Ev.a (v:=.A (0:QN)) (by kernel_rfl) (.mk (a:=[.B S,.B O,.A (0:QN)]) (σ':=a4) (by kernel_rfl) ⟨QJ,?_⟩);have l2:=n1.1.a n2.1
 have el:Ev (aB (d+3)) (.J .A (.F (.D 33) [.K (.A 43) 110]) (.B (.A 1))) [(80,.A (0:QN)),(119,.B O),(127,.B S),(43,.B r),(75,.B rt)] a4 (.A (M.length+1:QN)):=
  Ev.i (x:=.A M.length) (y:=.A 1) (a1▸Ev.j (hv l2 (by kernel_rfl)) (l2 _ _ a0)) (by kernel_rfl) QJ
 refine .i (.N el (by exact⟨RN (by decide) (Rx _),Sz.mpr (QK a3 (by decide))⟩) (.q (gV (n:=M.length+1) (by exact Rj a3 (Sq _ _))) ?_))
 refine RF.a _ (RE (M.length+1)) (λ(b:QN)=>[(80,.A b),(119,.B O),(127,.B S),(43,.B r)]) (λY b σ'=>Le σ σ'∧∃e p,iz σ' S e∧σ'[O]?=QG (.A p)∧dX M Y.length b e p=QG E∧(∀x∈p,(dV x).isSome=QO)∧e.length+30*Y.length≤350∧p.length+30*Y.length≤350) 0 QJ (.r QJ)
  (jl l2 (eX ns) ([]) (n2.1 _ _ n1.2.2) n2.2.2 (by rw[RC];exact hr) (λZ h=>Ro h Rb) (by rw[eX,Uy,RC];lia) (by rw[RC,UJ];lia)) (λZ Z Z Z=>QJ) (λx Y b a6 g J hJ a7=>.i ?_) λb a6 g=> ?_
 ·(revert g;refine mn λg1 e p g2 g3 c g5 g6 g7=> ?_)
  rw[Se] at c g6 g7;refine ag (λz L c=> ?_) (bS c);refine ag (λy hy c=> ?_) (bS c);refine cm (λi j hi a8 hj=> ?_) (a2 L);have T:=hf.2 z (Rg L);refine .l (Ev.a (v:=.B i) (Ev.g (x:=.A b) (hv g1 (by kernel_rfl)) (by kernel_rfl) (g1 _ _ a0) (dG b) hi) (.p (g1 _ _ a8) ⟨QJ,?_⟩));refine DO d (t':=.B r) [(163,z.2.v),(119,.B O),(127,.B S),(43,.B r)] QJ (.r QJ) (by kernel_rfl) g1 hj n1.2.1 (n1.1.d n2.2.1) g2 g3 hy g5 (ux g6 T (by decide)) (ux g7 T (by decide)) λP h4 v4 p4 d4 e4 q4=> ?_;refine cm (λw l hw a9 b6=> ?_) (LV z.2)
  have b1:∀{κ},κ=[(163,z.2.v),(119,.B O),(127,.B S),(43,.B r)]→RB (aB (d+3)) (.H .B (.C (.A 163) (.B (.A 0))) (.I [.B (.C 120),.B (.C 92)])) κ P λb σ'=>b=(match z.2 with| .A=>QO| .B=>QO|_=>QR)∧Le P σ':=λ{κ} e=>by
   subst e;rw[hw];exact .h (x:=.C w) (vs:=[PV.C 120,PV.C 92]) (d:=D.A w) (ds:=[D.A 120,D.A 92]) (by kernel_rfl) (by kernel_rfl) (by decide) (λZ=>QJ) (λZ=>QJ) λσ' h=>⟨a9,h⟩
  have ek:∀{σ':af} {U:QN} {κ},Le P σ'→dX M Y.length U y.1 y.2=QG E→ar [(80,.A U),(119,.B O),(127,.B S),(43,.B r)] κ→J .A κ σ':=λ{σ' U κ} l e s=>
   hJ U _ _ s (jl (h4.a l) y.1 y.2 (l _ _ v4) (l _ _ p4) e d4 (mT g6 T e4) (mT g7 T q4))
  have done:∀{x:PV} {κ:ay} {σ':af},Le P σ'→QG (QG (x,y.2))=QG E→(∃d,∀σ,toD σ 15 x=QG d)→J (.B (.F [x,.B O])) κ σ':=λ{x κ σ'} l e hd=>by
   obtain rfl:=QS e;exact a7 _ _ _ (hK _ _ _ (gE (h4.a l) O QJ (l _ _ p4) hd d4))
  have next:∀{σ':af},Le P σ'→((eK y.1 z.2).bind λx=>match x with|some U=>dX M Y.length U y.1 y.2|none=>QG (QG (jA 151,y.2)))=QG E→
    RS (aB (d+3)) Mh [(163,z.2.v),(119,.B O),(127,.B S),(43,.B r)] σ' J:=λ{σ'} l e=>by
   refine ag (λx hx e=> ?_) (bS e);refine .d (.k (a:=423) (by kernel_rfl) (.d (Ev.a (v:=z.2.v) (by kernel_rfl) (.d (Ev.a (v:=.B S) (by kernel_rfl) (.j ((HO (d+1) (l _ _ v4) (a5 z (Rg L)) hx).g λv b2 g=> ?_)))))))
   (revert g;refine oA λX V=> ?_;subst X)
   induction x using QQ with
   |some U=>exact .g (b:=QR) (by kernel_rfl) QJ (.a (ek (l.a V) e (.r QJ)))
   |none=>
    refine jx (λo U ho=> ?_) (LQ hx);rw[ho];exact .h (b:=QO) (by kernel_rfl) QJ (.f (Ev.a (v:=.F [jA 151,.B O]) (by kernel_rfl) (done (l.a V) e ⟨_,λZ=>QJ⟩)))
  refine .j ((b1 QJ).n λU b2 g=> ?_)
  (revert g;refine oA λR V=> ?_)
  induction Q:z.2 using Tm.casesOn with
  |A=>
   rw[Q] at R c;refine ag (λv b3 c=> ?_) (bS c);refine ag (λdv b4 c=> ?_) (mS c)
   exact .u R (.f (.G (.v (Ev.d (b:=QO) (by kernel_rfl) (aa.G (Ev.a (v:=.C 51) (by kernel_rfl) (Ev.a (v:=v) (Ev.m (k:=(0:QN)) (by kernel_rfl) (by kernel_rfl) (V _ _ v4) (by rw[gB,b3];rfl)) (Ev.a (v:=.B O) (by kernel_rfl) (done V (RH QG c) ⟨.B [.A 51,dv],λσ=>by
    show QY _ (QX (QG (D.A 51)) λx=>QY _ (QX (toD σ 14 v) λx=>QY _ (QG [])))=_;rw[jS b4]
    rfl⟩)))))))))
  |B=>
   rw[Q] at R c;exact .u R (.f (.G (.v (Ev.d (b:=QR) (by kernel_rfl) (Ev.a (v:=jA 31) (by kernel_rfl) (Ev.a (v:=.B O) (by kernel_rfl) (done V c ⟨_,λZ=>QJ⟩)))))))
  |F b0=>rw[Q] at R c next;exact .t R (.a (.a (next V c)))
  |C o cs b0=>rw[Q] at R c next;exact .t R (.a (.a (next V c)))
  |D o b0=>rw[Q] at R c next;exact .t R (.a (.a (next V c)))
 ·(revert g;refine mn λg1 e p g2 g3 c g5 g6 g7=> ?_)
  obtain rfl:RM=E:=QS c;exact .f (Ev.a (v:=.G) (by kernel_rfl) (hK _ _ _ ⟨g1,QJ⟩))
def ae.qa:ae→Prop
 | .B Z v=>∃d,dV v=QG d
 |_=>YB
theorem ip{o:ae}(h:o.qa):∃d,∀σ n,toD σ (n+5) o.v=QG d∧bY (.A 48) d=QR∧bY (.A 66) d=false:=by
 induction o using ae.casesOn with
 |B b v=>
  (revert h;refine oE λa c=> ?_)
  refine⟨.B [.A 81,Sr b (.B [.A 44]) (.B [.A 32,.A 27]),a],λσ n=>(aL ?_ QJ QJ)⟩;show QY _ (QX (QG (D.A 81)) λx=>QY _ (QX (toD σ (n+4) (Sr b dQ dk)) λx=>QY _ (QX (toD σ (n+4) v) λx=>QY _ (QG []))))=_;rw[jS c]
  induction b using QL<;>rfl
 |A l=>exact⟨_,λσ n=>(aL QJ QJ QJ)⟩
 |C l i=>exact⟨_,λσ n=>(aL QJ QJ QJ)⟩
def fI(d:QN)(p:PV)(L:QI QN):Prop:=
 (ij p=QO∧iM p=QR∧L=[])∨(∃o:ae,o.rd≠[]∧p=o.v∧L=o.rd)∨
 ∃x b a c,p=.F (x::b)∧(∀s,toD s 16 p=QG (.B (a::c)))∧(∀s,toD s 16 x=QG a)∧(bY (.A 48) a||(bY (.A 66) a||false))=QR∧∀s,aa (aB d 430 [p]) s (aJ s (aS L))
theorem Kf{o:ae}(h:o.rd≠[]):∃(l:QN) (p:QI PV),o.v=.F [.C 48,.F (.A l::p)]∧o.rd=[l]∧∃ds,∀σ,toD σ 16 o.v=QG (.B (.A 48::ds)):=by
 induction o using ae.casesOn with
 |B b v=>exact Ro QJ h
 |A l=>exact⟨l,_,QJ,QJ,_,λZ=>QJ⟩
 |C l i=>exact⟨l,_,QJ,QJ,_,λZ=>QJ⟩
theorem xU{C:QN→QI PV→M PV}{κ:ay}{σ:af}{e:PE}{s:QI PV}{d:D}{ds:QI D}(a:Ev C e κ σ (.F s))(p:∀σ,toD σ 16 (.F s)=QG (.B (d::ds))):Ev C (.H .C e (.G [])) κ σ (.D QO):=by
 refine Ev.h a (y:=.F []) QJ ?_;show QX (QX (toD σ 16 (.F s)) λx=>QY _ (toD σ 16 (.F []))) _=_;rw[p]
 rfl
theorem eJ(d:QN)(σ:af)(ps:QI (PV×QI QN))(hp:∀p∈ps,fI d p.1 p.2)(hl:ps.length≤100)(hL:∀p∈ps,p.2.length≤2):aa (aB (d+1) 430 [.F (ps.map (·.1))]) σ (aJ σ (aS (ps.flatMap (·.2)))):=by
 refine bx QJ QJ λK hK=>.d ((aJ.a QJ).g λv a2 g=>.i (Ev.a (v:=.F (ps.map (·.1))) QJ (.mk (a:=(.A (ps.map (·.1)),ps.length)) (by rw[←QP (·.1)];rfl) ?_)))
 (revert g;refine ag λq r n=> ?_;subst r)
 refine RF.a (λ(p:PV×QI QN)=>p.1) ps (λ(q:QN)=>[(85,.B q)]) (λz q T=>Le σ T∧σ[q]?=RM∧∃s,s++z=ps∧∃m:QI QN,T[q]?=QG (.A (aS m))∧m=s.flatMap (·.2)∧m.length+2*z.length≤200) q QJ (.c QJ .d)
  ⟨n.1,n.2.1,[],QJ,[],n.2.2,QJ,by rw[UJ,SG];exact Td 2 hl⟩ (λZ Z Z Z=>QJ) (λx z q E g J hJ Z=>.i ?_) λq E g=> ?_
 ·(revert g;refine yd λP U s V m Q g4 R=> ?_)
  have hx:x∈ps:=by rw[←V];exact SF _ (QM ..)
  have G:=(Rq s [x] z).trans V;have h2:=hL x hx;have R:m.length+2*(z.length+1)≤200:=R;have H:∀{L:QI QN},L=x.2→m++L=(s++[x]).flatMap (·.2):=λh=>by rw[List.flatMap_append,g4,h,Wa]
  have W:∀{L:QI QN},L=x.2→(m++L).length+2*z.length≤200:=λh=>by rw[QW,h];exact mT R h2 (Sd _)
  (refine oO (bk λX S h5=> ?_) (oO (du λo ho X S=> ?_) (rS λy xs dx ds X S h5 h6 h7=> ?_)) (hp x hx))
  ·have hi:∀{κ:ay},κ=[(68,x.1),(85,.B q)]→Ev (aB d) (.F (.D 158) [.A 68,.D 99]) κ E (.D QR):=λe=>by
    subst e;refine Ev.l (.u QJ (.d (Ev.a (v:=x.1) QJ (.d (Ev.a (v:=.J .C) QJ (.j ?_))))));show aa (M.a (M.c (ij x.1) (.b (iM x.1))) λb=>.b (PV.D b)) E _;rw[X,S];exact .h (.i (.i ⟨QJ,QJ⟩))
   refine .j (.l (hi QJ) QJ (.g (hi QJ) QJ (.a (.b (hJ q _ _ (.c QJ .d) ⟨P,U,s++[x],G,m,Q,?_,QK (Si (Td 2 (Uk _)) _) R⟩)))));have:=H h5.symm;rwa[RD] at this
  ·refine IE (λl p e1 e2 ds e3=> ?_) (Kf ho)
   rw[X] at*;rw[e1] at*
   refine .j (.g QJ QJ (.g (xU QJ e3) QJ (.f (.h (x:=.C 48) (vs:=[PV.C 48,PV.C 66]) QJ QJ (by decide) (λZ=>QJ) (λZ=>QJ) λY I=>Ev.d QJ
    (.k (.J QJ (I _ _ Q) (Ev.a QJ (bz _ (I _ _ Q) ?_ λa0 c4 e4=>.a (.b (hJ q _ _ (.c QJ .d) ⟨(P.a I).c U c4,U,s++[x],G,m++[l],?_,H (S.trans e2).symm,W (S.trans e2).symm⟩))))))))))
   ·rw[eY]
    exact Rj (Rj (Tc (Nat.mul_pos (by decide) (Th z.length))) R) (lB QJ)
   ·rw[e4,gH]
    rfl
  ·rw[X] at*
   refine .j (.g QJ QJ (.g (xU QJ S) QJ (.f (.h (vs:=[PV.C 48,PV.C 66]) QJ QJ (by decide) h5 (λZ=>QJ) λY I=> ?_))));have h6:([D.A 48,D.A 66].any λy=>bY y dx)=false:=h6;rw[h6];refine .h QJ QJ (.d (.t (Ev.a QJ (.k QJ (.d (Ev.a QJ (.j ((h7 Y).g λv a0 g=> ?_))))))))
   (revert g;refine ag λp N n4=> ?_;subst N)
   have q4:=n4.1 _ _ (I _ _ Q);show aa (M.a (bZ (.B q)) λx=>M.a (bZ (.B p)) λy=>cR (x++y)) a0 _;refine .h (.p q4 (.h (.p n4.2.2 (.n ?_ λw a3 n5=>.a (.b (.b (hJ w _ _ (.c QJ .d) ⟨((P.a I).a n4.1).a n5.1,((P.a I).a n4.1).d n5.2.1,s++[x],G,m++x.2,?_,H QJ,W QJ⟩)))))))
   ·rw[QW,eY,eY]
    exact QK (SR (QK (Sh _ _) R) h2) (lB QJ)
   ·rw[n5.2.2,gH]
 ·(revert g;refine yd λP U s V m Q O a1=> ?_;subst O)
  rw[RD] at V;exact .f (Ev.a QJ (hK _ _ _ (fO q QJ P U (V▸Q))))
theorem se{d:QN}{v:PV}(h:ij v=QO)(a:iM v=QR):fI d v []:=.inl (aL h a QJ)
theorem fA(d c:QN):fI d (.C c) []:=se QJ QJ
theorem sg(d:QN)(b:RG):fI (d+1) (Sr b dQ dk) []:=by
 induction b using QL with
 |true=>exact .inr (.inr (fz (.C 44) ([]) (.A 44) ([]) QJ (λZ=>QJ) (λZ=>QJ) QJ λs=>eJ d s [(.C 44,[])] (λp h=>by rw[m1 h];exact fA d 44) (by decide) (λp h=>by rw[m1 h];exact RQ _)))
 |false=>
  refine .inr (.inr (fz (.C 32) ([.C 27]) (.A 32) ([.A 27]) QJ (λZ=>QJ) (λZ=>QJ) QJ λs=>eJ d s [(.C 32,[]),(.C 27,[])] (λp h=> ?_) (by decide) (λp h=> ?_)))
  ·(refine oO (λe=> ?_) (λh=> ?_) (mC h)<;>try subst e)
   ·exact fA d 32
   ·rw[m1 h];exact fA d 27
  ·(refine oO (λa=> ?_) (λh=> ?_) (mC h)<;>try subst a)
   ·exact RQ _
   ·rw[m1 h];exact RQ _
theorem Dt{v:PV}{d:D}(h:dV v=QG d):ij v=QO∧iM v=false:=by
 induction v using PV.casesOn with
 |A i=>exact⟨QJ,QJ⟩
 |D b=>exact⟨QJ,QJ⟩
 |_=>exact aI h
theorem ja{α:Type}{P:α→Prop}{a b c:α}(f:P a)(g:P b)(i:P c):∀x∈[a,b,c],P x:=λx h=>by
 (refine oO (λe=> ?_) (λh=> ?_) (mC h)<;>try subst e)
 ·exact f
 ·(refine oO (λd=> ?_) (λh=> ?_) (mC h)<;>try subst d)
  ·exact g
  ·exact m1 h▸i
theorem ez{α:Type}{P:α→Prop}{a b:α}(c:P a)(d:P b):∀x∈[a,b],P x:=λx h=>by
 (refine oO (λe=> ?_) (λh=> ?_) (mC h)<;>try subst e)
 ·exact c
 ·exact m1 h▸d
theorem ee{α:Type}{P:α→Prop}{a:α}(h:P a):∀x∈[a],P x:=λZ b=>m1 b▸h
theorem gh(d:QN){o:ae}(h:o.qa):fI (d+2) o.v o.rd:=by
 induction o using ae.casesOn with
 |A l=>exact .inr (.inl (bz (.A l) nofun QJ QJ))
 |C l i=>exact .inr (.inl (bz (.C l i) nofun QJ QJ))
 |B b v=>
  (revert h;refine oE λc a=> ?_)
  have p:=Dt a;refine .inr (.inr (fz (.C 81) ([Sr b dQ dk,v]) (.A 81) ([Sr b (.B [.A 44]) (.B [.A 32,.A 27]),c]) QJ (λs=> ?_) (λZ=>QJ) QJ λs=>eJ (d+1) s [(.C 81,[]),(Sr b dQ dk,[]),(v,[])] (ja (fA _ _) (sg d b) (se p.1 p.2)) (lB QJ) (ja (RQ _) (RQ _) (RQ _))));show QY _ (QX (QG (D.A 81)) λx=>QY _ (QX (toD s 15 (Sr b dQ dk)) λx=>QY _ (QX (toD s 15 v) λx=>QY _ (QG []))))=_;rw[jS a]
  induction b using QL<;>rfl
theorem zD(d w:QN){e:QI PV}{a b:ae}(h:a.qa)(f:b.qa)(r:e=[]∨∃c,e=[.C c])(i:(bY (.A 48) (.A w)||(bY (.A 66) (.A w)||false))=QR):fI (d+3) (.F (.C w::(e++[a.v,b.v]))) (a.rd++b.rd):=by
 refine oE (λj k=> ?_) (ip h);refine oE (λl m=> ?_) (ip f);have n:=dB a;have o:=dB b;rcases r with rfl|⟨c,rfl⟩
 ·refine .inr (.inr (fz (.C w) _ (.A w) ([j,l]) QJ (λs=> ?_) (λZ=>QJ) i λs=> ?_))
  ·show QY _ (QX (QG (D.A w)) λx=>QY _ (QX (toD s 15 a.v) λx=>QY _ (QX (toD s 15 b.v) λx=>QY _ (QG []))))=_
   rw[(k s 10).1,(m s 10).1]
   rfl
  ·have:=eJ (d+2) s [(.C w,[]),(a.v,a.rd),(b.v,b.rd)] (ja (fA _ _) (gh d h) (gh d f)) (lB QJ) (ja (RQ _) (Sw n) (Sw o))
   simpa using this
 ·refine .inr (.inr (fz (.C w) _ (.A w) ([.A c,j,l]) QJ (λs=> ?_) (λZ=>QJ) i λs=> ?_))
  ·show QY _ (QX (QG (D.A w)) λx=>QY _ (QX (QG (D.A c)) λx=>QY _ (QX (toD s 15 a.v) λx=>QY _ (QX (toD s 15 b.v) λx=>QY _ (QG [])))))=_
   rw[(k s 10).1,(m s 10).1]
   rfl
  ·have:=eJ (d+2) s ([(.C w,[]),(.C c,[])]++[(a.v,a.rd),(b.v,b.rd)]) (λp g=>(mA g).elim (ez (P:=λp=>fI (d+2) p.1 p.2) (fA _ _) (fA _ _) p) (ez (P:=λp=>fI (d+2) p.1 p.2) (gh d h) (gh d f) p)) (lB QJ)
    (λp g=>(mA g).elim (ez (P:=λ(p:PV×QI QN)=>p.2.length≤2) (RQ _) (RQ _) p) (ez (P:=λ(p:PV×QI QN)=>p.2.length≤2) (Sw n) (Sw o) p))
   simpa using this
theorem sZ(d w:QN){e t:QI PV}{a:ae}(h:a.qa)(r:e=[]∨∃c,e=[.C c])(o:t=[]∨t=[dk])(b:(bY (.A 48) (.A w)||(bY (.A 66) (.A w)||false))=QR):fI (d+3) (.F (.C w::(e++a.v::t))) a.rd:=by
 obtain⟨f,g⟩:=ip h;refine have l:=Sw (dB a);?_;rcases r with rfl|⟨c,rfl⟩<;>rcases o with rfl|rfl
 ·refine .inr (.inr (fz (.C w) _ (.A w) ([f]) QJ (λs=> ?_) (λZ=>QJ) b λs=> ?_))
  ·show QY _ (QX (QG (D.A w)) λx=>QY _ (QX (toD s 15 a.v) λx=>QY _ (QG [])))=_
   rw[(g s 10).1]
   rfl
  ·refine have:=eJ (d+2) s [(.C w,[]),(a.v,a.rd)] (ez (fA _ _) (gh d h)) (lB QJ) (ez (RQ _) l);?_
   simpa using this
 ·refine .inr (.inr (fz (.C w) _ (.A w) ([f,.B [.A 32,.A 27]]) QJ (λs=> ?_) (λZ=>QJ) b λs=> ?_))
  ·show QY _ (QX (QG (D.A w)) λx=>QY _ (QX (toD s 15 a.v) λx=>QY _ (QX (QG (D.B [.A 32,.A 27])) λx=>QY _ (QG []))))=_
   rw[(g s 10).1]
   rfl
  ·refine have:=eJ (d+2) s [(.C w,[]),(a.v,a.rd),(dk,[])] (ja (fA _ _) (gh d h) (sg (d+1) QR)) (lB QJ) (ja (RQ _) l (RQ _));?_
   simpa using this
 ·refine .inr (.inr (fz (.C w) _ (.A w) ([.A c,f]) QJ (λs=> ?_) (λZ=>QJ) b λs=> ?_))
  ·show QY _ (QX (QG (D.A w)) λx=>QY _ (QX (QG (D.A c)) λx=>QY _ (QX (toD s 15 a.v) λx=>QY _ (QG []))))=_
   rw[(g s 10).1]
   rfl
  ·refine have:=eJ (d+2) s [(.C w,[]),(.C c,[]),(a.v,a.rd)] (ja (fA _ _) (fA _ _) (gh d h)) (lB QJ) (ja (RQ _) (RQ _) l);?_
   simpa using this
 ·refine .inr (.inr (fz (.C w) _ (.A w) ([.A c,f,.B [.A 32,.A 27]]) QJ (λs=> ?_) (λZ=>QJ) b λs=> ?_))
  ·show QY _ (QX (QG (D.A w)) λx=>QY _ (QX (QG (D.A c)) λx=>QY _ (QX (toD s 15 a.v) λx=>QY _ (QX (QG (D.B [.A 32,.A 27])) λx=>QY _ (QG [])))))=_
   rw[(g s 10).1]
   rfl
  ·have:=eJ (d+2) s ([(.C w,[]),(.C c,[])]++[(a.v,a.rd),(dk,[])]) (λp i=>(mA i).elim (ez (P:=λp=>fI (d+2) p.1 p.2) (fA _ _) (fA _ _) p) (ez (P:=λp=>fI (d+2) p.1 p.2) (gh d h) (sg (d+1) QR) p)) (lB QJ)
    (λp i=>(mA i).elim (ez (P:=λ(p:PV×QI QN)=>p.2.length≤2) (RQ _) (RQ _) p) (ez (P:=λ(p:PV×QI QN)=>p.2.length≤2) l (RQ _) p))
   simpa using this
theorem JJ(d:QN){r:Rv}(h:∀o∈r.qa,o.qa):fI (d+4) r.v r.rd:=by
 have f:∀{a:ae},r.qa=[a]→r.rd=a.rd:=λe=>by rw[Rv.rd,e,Wa]
 have w:∀{a b:ae},r.qa=[a,b]→r.rd=a.rd++b.rd:=λe=>by rw[Rv.rd,e,Zw,Wa]
 cases r with
 |A a=>exact f QJ▸sZ (d+1) 38 (h a (QM ..)) (.inl QJ) (.inl QJ) QJ
 |G p a=>exact f QJ▸sZ (d+1) 100 (h a (QM ..)) (.inr ⟨p,QJ⟩) (.inl QJ) QJ
 |C a=>exact f QJ▸sZ (d+1) 47 (h a (QM ..)) (.inl QJ) (.inr QJ) QJ
 |B p a b=>exact w QJ▸zD (d+1) 109 (h a (QM ..)) (h b (QV _ (QM ..))) (.inr ⟨p,QJ⟩) QJ
 |D p a b=>exact w QJ▸zD (d+1) 129 (h a (QM ..)) (h b (QV _ (QM ..))) (.inr ⟨p,QJ⟩) QJ
 |F a b=>
  have g:=h a (QM ..);have i:=h b (QV _ (QM ..));obtain⟨j,c⟩:=ip g;obtain⟨k,l⟩:=ip i;have m:=dB a;have n:=dB b;rw[w QJ]
  have q:fI (d+3) (.F [a.v,b.v]) (a.rd++b.rd):=by
   refine .inr (.inr (fz a.v ([b.v]) j ([k]) QJ (λs=> ?_) (λs=>(c s 11).1) (by rw[(c [] 0).2.1,(c [] 0).2.2];rfl) λs=> ?_))
   ·show QY _ (QX (toD s 15 a.v) λx=>QY _ (QX (toD s 15 b.v) λx=>QY _ (QG [])))=_
    rw[(c s 10).1,(l s 10).1]
    rfl
   ·have:=eJ (d+2) s [(a.v,a.rd),(b.v,b.rd)] (ez (gh d g) (gh d i)) (lB QJ) (ez (Sw m) (Sw n))
    simpa using this
  refine .inr (.inr (fz (.C 99) ([.F [a.v,b.v]]) (.A 99) ([.B [j,k]]) QJ (λs=> ?_) (λZ=>QJ) QJ λs=> ?_))
  ·show QY _ (QX (QG (D.A 99)) λx=>QY _ (QX (QY _ (QX (toD s 14 a.v) λx=>QY _ (QX (toD s 14 b.v) λx=>QY _ (QG [])))) λx=>QY _ (QG [])))=_
   rw[(c s 9).1,(l s 9).1]
   rfl
  ·have:=eJ (d+3) s [(.C 99,[]),(.F [a.v,b.v],a.rd++b.rd)] (ez (fA _ _) q) (lB QJ) (ez (RQ _) (by rw[QW];exact SR m n))
   simp at this;exact this
theorem FF(d:QN)(σ:af){t:Tm}(k:t.qc=QO):aa (aB (d+1) 435 [t.v]) σ (aJ σ (aS t.qa)):=by
 induction t using Tm.casesOn with
 |A=>exact aJ.d QJ
 |B=>exact aJ.d QJ
 |F b=>exact aJ.d QJ
 |D o b=>exact aJ.d QJ
 |C o s b=>
  have e:(s.map (·.2)++[b]).length≤100:=lB k;rw[QW,QP] at e
  refine bx QJ QJ λK m=>.g QJ QJ (.h QJ QJ (.f (aa.g (aJ.f (l:=s.map λc=>.A c.2) (l':=[.A b])
   (aJ.j (λc=>[(80,.A c.2),(75,c.1),(163,(Tm.C o s b).v)]) QJ ?_ (λZ Z=>by kernel_rfl) (λZ Z=>by kernel_rfl)) (λZ Z=>aJ.a QJ) ?_) λv i h=>m _ _ _ ?_)))
  ·exact bT (QK (Sh _ _) e)
  ·rw[QP]
   exact bT e
  ·show aJ σ (aS (s.map (·.2)++[b])) v i
   rw[gH,aS,UM];exact h
noncomputable def ab.qd:ab→QI QN
 | .A Z r=>r.rd
 | .B o=>o.rd
 | .C=>[]
noncomputable def ab.qe(l:QN):ab→RG
 | .A a Z=>Rc (a=l)
 |_=>QR
noncomputable def iQ(l:QN)(rest:RG):QI ab→RG
 |[]=>rest
 |s::r=>Sr (Rc (l∈s.qd)) QO (Sr (s.qe l) QR (iQ l rest r))
theorem Kd{l:QN}{rest:RG}:iQ l rest []=rest:=QJ
set_option autoImplicit true in
theorem mx:iQ l rest (s::r)=Sr (Rc (l∈s.qd)) QO (Sr (s.qe l) QR (iQ l rest r)):=QJ
noncomputable def Tm.qd:Tm→RG
 | .A=>QO
 |_=>QR
noncomputable def Tm.qe:Tm→QI QN
 | .C o Z U=>o.rd
 | .D o Z=>o.rd
 |_=>[]
noncomputable def cL(s:QI aE):QN→QI ab→Tm→QN→RG
 |0,Z,U,Y=>QR
 |f+1,a,t,l=>iQ l ((t.qd&&Rc (l=0))||(Rc (l∈t.qe)||t.qa.any λg=>(s[g]?).any λb=>cL s f b.1 b.2 l)) a
set_option autoImplicit true in
theorem nY:cL s (f+1) ss t l=iQ l ((t.qd&&Rc (l=0))||(Rc (l∈t.qe)||t.qa.any λg=>(s[g]?).any λb=>cL s f b.1 b.2 l)) ss:=QJ
def ab.qb:ab→Prop
 | .A Z r=>∀o∈r.qa,o.qa
 | .B o=>o.qa
 | .C=>YB
def Tm.qg:Tm→Prop
 | .C o Z U=>o.qa
 | .D o Z=>o.qa
 |_=>YB
section
variable{C:QN→QI PV→M PV}{κ:ay}{σ:af}{Q:PV→af→Prop}
theorem aa.qo{o b:PE}{n k:QN}{l:QI PV}(d:Ev C o κ σ (.B n))(e:Ev C b κ σ (.A k))(f:σ[n]?=QG (.A l))(h:l.length≤aR)(q:∀r σ',fH σ r (.A (l.drop k)) σ'→Q (.B r) σ'):aa (ak C (.S o b (.B .G)) κ) σ Q:=by
 refine .h (d.a (.h (e.a (.h (.i (.h (.mk QJ (.h (.mk QJ ?_)))))))));show aa (M.a (Mine.bZ (PV.B n)) λl=>.c QO (Mine.cR ((l.take l.length).drop k))) σ Q;refine .h (.p f (.l QJ ?_));rw[Wk];exact .n (QK (by rw[XH];exact Zk _ _) h) q
theorem RB.o{e e':PE}{l:QN}{L:QI QN}{Q:RG→af→Prop}(c:Ev C e κ σ (.A l))(h:aa (ak C e' κ) σ (aJ σ (aS L)))(q:∀σ',Le σ σ'→Q (Rc (l∈L)) σ'):RB C (.H .B e e') κ σ Q:=
 .a (c.a (h.g λv σ' g=>by
  (revert g;refine ag λr b n=> ?_;subst b)
  exact .mk (xh n.2.2) (q σ' n.1)))
end
theorem JL(d:QN){σ:af}{s:ab}{p:QI PV}{L:QI QN}{l:QN}{t r:PV}{κ:ay}{J:Fl→ay→af→Prop}(h:ar [(93,.F p),(152,s.v),(163,t),(110,r),(89,.A l)] κ)(i:∀σ,aa (aB (d+5) 430 [.F p]) σ (aJ σ (aS L)))
  (m:∀{σ},Ev (aB (d+5)) (.M (.H .A (.C (.A 152) (.B (.A 0))) (.B (.C 105))) (.H .A (.C (.A 152) (.B (.A 1))) (.G [.A 89,.G []]))) [(93,.F p),(152,s.v),(163,t),(110,r),(89,.A l)] σ (.D (s.qe l)))
  (n:∀κ σ',Le σ σ'→Rc (l∈L)=QO→J (.B (.D QO)) κ σ') (q:∀κ σ',Le σ σ'→Rc (l∈L)=QR→s.qe l=QO→J (.B (.D QR)) κ σ') (u:∀σ',Le σ σ'→Rc (l∈L)=QR→s.qe l=QR→J .A [(93,.F p),(152,s.v),(163,t),(110,r),(89,.A l)] σ'):
  RS (aB (d+5)) [.C (.H .B (.A 89) (.F (.D 173) [.A 93])) [.B (.B (.D QO))] [],.C (.M (.H .A (.C (.A 152) (.B (.A 0))) (.B (.C 105))) (.H .A (.C (.A 152) (.B (.A 1))) (.G [.A 89,.G []]))) [.B (.B (.D QR))] []] κ σ J:=by
 refine .p h (.j (.o QJ (.k QJ (.d (Ev.a QJ (.j (i σ))))) λw c=> ?_))
 induction e:Rc (l∈L) using QL with
 |true=>exact .f (Ev.a QJ (n _ _ c e))
 |false=>
  refine .a (.a (.j (m.d ?_)))
  induction g:s.qe l using QL with
  |true=>exact .f (Ev.a QJ (q _ _ c e g))
  |false=>exact .a (.b (u _ c e g))
theorem Ly{C:QN→QI PV→M PV}{p t u:PV}(s:ab)(l:QN){σ:af}:Ev C (.M (.H .A (.C (.A 152) (.B (.A 0))) (.B (.C 105))) (.H .A (.C (.A 152) (.B (.A 1))) (.G [.A 89,.G []]))) [(93,p),(152,s.v),(163,t),(110,u),(89,.A l)] σ (.D (s.qe l)):=by
 induction s using ab.casesOn with
 |C=>kernel_rfl
 |B o=>kernel_rfl
 |A a r=>
  have:Ev C (.M (.H .A (.C (.A 152) (.B (.A 0))) (.B (.C 105))) (.H .A (.C (.A 152) (.B (.A 1))) (.G [.A 89,.G []]))) [(93,p),(152,(ab.A a r).v),(163,t),(110,u),(89,.A l)] σ (.D ((a:RW)==(l:RW)&&(QO&&QO))):=QJ;rw[qdO,YR,show((a:RW)==(l:RW))=Rc (a=l) from iG a l] at this;exact this
theorem JK(d:QN){s:ab}(h:s.qb):∃p:QI PV,(∀σ,aa (aB (d+5) 430 [.F p]) σ (aJ σ (aS s.qd)))∧
  ∀{κ σ} {Q:PV→af→Prop},κ.lookup 152=QG s.v→(∀σ',Le σ σ'→Q (.F p) σ')→aa (ak (aB (d+5)) (.L (.qd [105,95] [.S (.A 152) (.B (.A 2)) (.B .G),.S (.A 152) (.B (.A 1)) (.B .G)]) .A [.C (.A 152) (.B (.A 0)),.G []]) κ) σ Q:=by
 have m:∀{κ:ay} {σ:af} {Q:PV→af→Prop} {w:QN} {a b p:QI PV} {x:PV},κ.lookup 152=QG x→cz (aB (d+5)) [.S (.A 152) (.B (.A 2)) (.B .G),.S (.A 152) (.B (.A 1)) (.B .G)] [(152,x)] σ [.F a,.F b]→(∀σ,Ev (aB (d+5)) (.C (.A 152) (.B (.A 0))) [(152,x)] σ (.C w))→
   (bG [(105,PV.F a),(95,PV.F b)] w).getD (.F [])=.F p→(∀σ',Le σ σ'→Q (.F p) σ')→aa (ak (aB (d+5)) (.L (.qd [105,95] [.S (.A 152) (.B (.A 2)) (.B .G),.S (.A 152) (.B (.A 1)) (.B .G)]) .A [.C (.A 152) (.B (.A 0)),.G []]) κ) σ Q:=λ{κ σ Q w a b p x} e z E H q=>by
  refine aa.D (κ:=[(152,x)]) ?_ (.c e .d);show aa (M.a (M.a (cK (aB (d+5)) _ _) λt=>M.j (.D ([105,95].zip t))) λx=>M.a (eA x) λn=>M.a (M.f n) λy=>M.a (cK (aB (d+5)) _ _) λt=>M.a (M.f n) λk=>.c (hW .A y&&jC y k) (kJ n k .A t)) σ Q;refine .h (.h (.mk z (.x λn g u=>.h (.i (.h (.w u.2.2 (.h (.d ((E g).a (.d (Ev.a (v:=.F []) (by kernel_rfl) (.j (.h (.w u.2.2 (.l QJ ?_)))))))))))))));show aa (M.a (M.b (PV.F [])) λd=>.b ((bG [(105,PV.F a),(95,PV.F b)] w).getD d)) g Q;refine .h (.i (.i ?_));rw[H];exact q g u.1
 induction s using ab.casesOn with
 |C=>exact(ai ([]) (λσ=>eJ (d+4) σ [] (λZ h=>Ro h Rb) (by decide) (λZ h=>Ro h Rb)) λe q=>m (w:=34) (a:=[]) (b:=[]) e (by kernel_rfl) (λZ=>by kernel_rfl) QJ q)
 |B o=>
  refine(ai ([o.v]) (λσ=> ?_) λe q=>m (w:=95) (a:=[]) (b:=[o.v]) e (by kernel_rfl) (λZ=>by kernel_rfl) QJ q);have:=eJ (d+4) σ [(o.v,o.rd)] (ee (gh (d+2) h)) (lB QJ) (ee (Sw (dB o)));simp at this;exact this
 |A l r=>
  refine(ai ([r.v]) (λσ=> ?_) λe q=>m (w:=105) (a:=[r.v]) (b:=[dg l,r.v]) e (by kernel_rfl) (λZ=>by kernel_rfl) QJ q);have:=eJ (d+4) σ [(r.v,r.rd)] (ee (JJ d h)) (lB QJ) (ee (pb r));simp at this;exact this
theorem LR(d:QN){t:Tm}(h:t.qg):∃p:QI PV,(∀σ,aa (aB (d+5) 430 [.F p]) σ (aJ σ (aS t.qe)))∧∀{σ},Ev (aB (d+5)) (.S (.A 163) (.B (.A 1)) (.B (.A 2))) [(163,t.v)] σ (.F p):=by
 have none:∀{v:PV},ij v=QO→iM v=QR→∀σ,aa (aB (d+5) 430 [.F [v]]) σ (aJ σ (aS [])):=λ{v} a c σ=>
  eJ (d+4) σ [(v,[])] (ee (se a c)) (lB QJ) (ee (RQ _))
 have f:∀{o:ae},o.qa→∀σ,aa (aB (d+5) 430 [.F [o.v]]) σ (aJ σ (aS o.rd)):=λ{o} h σ=>by
  have:=eJ (d+4) σ [(o.v,o.rd)] (ee (gh (d+2) h)) (lB QJ) (ee (Sw (dB o)));simp at this;exact this
 induction t using Tm.casesOn with
 |A=>exact(ai ([]) (λσ=>eJ (d+4) σ [] (λZ h=>Ro h Rb) (by decide) (λZ h=>Ro h Rb)) λ{σ}=>by kernel_rfl)
 |B=>exact(ai ([.C 31]) (none QJ QJ) λ{σ}=>by kernel_rfl)
 |F b=>exact(ai ([.A b]) (none QJ QJ) λ{σ}=>by kernel_rfl)
 |C o s b=>exact(ai ([o.v]) (f h) λ{σ}=>by kernel_rfl)
 |D o b=>exact(ai ([o.v]) (f h) λ{σ}=>by kernel_rfl)
theorem RB.p{C:QN→QI PV→M PV}{κ:ay}{σ:af}{a:PE}{Q:RG→af→Prop}(h:aa (ak C a κ) σ λv σ'=>∃n l,v=.B n∧σ'[n]?=QG (.A (aS l))∧∀c,Le σ' c→Q (!l.isEmpty) c):RB C (.H .C a (.I [])) κ σ Q:=
 .a (h.g λx o g=>(aJ.a QJ).g λy k s=>by
  (revert g;refine bq λn l e d=> ?_;subst e;revert d;refine oA λt q=> ?_)
  (revert s;refine ag λj f m=> ?_;subst f)
  show aa (M.a (eQ (.B n) (.B j)) λr=>.b (!r)) k Q
  exact .h (.mk (nB (m.1 _ _ t) m.2.2) (.i (q _ m.1))))
theorem Ev.p{C:QN→QI PV→M PV}{κ:ay}{σ:af}{a b:PE}{x y:RG}(h:Ev C a κ σ (.D x))(g:Ev C b κ σ (.D y)):Ev C (.M a b) κ σ (.D (x&&y)):=by
 refine Ev.l (aa.g (RB.f (Q:=λz t=>z=(x&&y)∧t=σ) (h.d ?_)) λv t q=>by
  (revert q;refine ag λz c r=> ?_;subst c;revert r;refine oA λi e=> ?_;subst i)
  exact⟨QJ,e⟩)
 induction x using QL with
 |false=>exact⟨QJ,QJ⟩
 |true=>exact g.d ⟨QJ,QJ⟩
theorem FV{α:Type}(p:α→RG)(l:QI α):(!(l.filter p).isEmpty)=l.any p:=by
 induction l with
 |nil=>rfl
 |cons a l h=>
  rw[TU,UO]
  induction p a using QL with
  |true=>rfl
  |false=>exact h
def iV(σ:af)(q:QN)(ps:QI Bp):Prop:=σ[q]?=QG (.A (ps.map bN))∧∀p∈ps,cB σ p
theorem iV.a{σ σ':af}{q:QN}{ps:QI Bp}(h:iV σ q ps)(l:Le σ σ'):iV σ' q ps:=⟨l _ _ h.1,λp b=>(h.2 p b).a l⟩
theorem xj{n:QN}(d:QN){ps:QI Bp}(M:∀p∈ps,(∀s∈p.2.2.1,s.qb)∧p.2.2.2.qg∧p.2.2.1.length≤30)(N:∀(k:QN) (p:Bp),ps[k]?=QG p→p.2.2.2.qb n ps.length k):∀(f k a l:QN) (σ:af) (z:QN) (p:Bp),iV σ z ps→ps.length≤k+f→ps[k]?=QG p→a≤p.2.2.1.length→
  aa (aB (f+(d+6)) 440 [.B z,.A k,.A a,.A l]) σ λv σ'=>Le σ σ'∧v=.D (cL (ps.map (·.2.2)) f (p.2.2.1.drop a) p.2.2.2 l)
 |0,k,a,l,σ,z,p,hb,hf,hk,ha=>Ro (gL hk) (TO.mpr hf)
 |f+1,k,a,l,σ,z,p,hb,hf,hk,ha=>by
  refine have hp:=Rg hk;?_;refine oA (λb1 b2=> ?_) (hb.2 p hp);refine bk (λd1 d2 d3=> ?_) (M p hp);rw[qbr];refine have hC:f+(d+6)=(f+d)+1+5:=(by rfl);?_;rw[nY];generalize u:((p.2.2.2.qd&&Rc (l=0))||(Rc (l∈p.2.2.2.qe)||p.2.2.2.qa.any λg=>((ps.map (·.2.2))[g]?).any λb=>cL (ps.map (·.2.2)) f b.1 b.2 l))=m;refine bx (pf:=su) (κ:=[(110,.B z),(80,.A k),(25,.A a),(89,.A l)]) QJ QJ λK hK=>.l (Ev.a (v:=.B p.1) (Ev.g QJ QJ hb.1 (dG k) (by rw[Rn,hk];rfl)) (.p b1 ⟨QJ,.i (.qo (k:=a) QJ QJ b2 (bT (by rw[QP];exact QK d3 (Sq _ _))) λq a9 n1=> ?_)⟩));rw[←List.map_drop] at n1
  refine .s n1.2.2 (RF.a ab.v (p.2.2.1.drop a) (λ(Z:UE)=>[(163,p.2.2.2.v),(110,.B z),(89,.A l)]) (λR Z σ'=>Le a9 σ'∧(∀s∈R,s.qb)∧iQ l m R=iQ l m (p.2.2.1.drop a)) () QJ (.r QJ)
   (aL (Le.b _) (λs hs=>d1 s (qbB hs)) QJ) (λZ Z Z g=>g.1 _ _ n1.2.2) (λs R Z w g J hJ a3=>.i ?_) λZ w g=> ?_)
  ·(revert g;refine bk λg1 g2 O=> ?_)
   refine have hs:=g2 s (QM ..);?_;rw[hC];refine ag (λpt E G=> ?_) (JK (f+d+1) hs);refine .d (G QJ λa4 U=>JL (f+d+1) (.r QJ) E (Ly s l) (λκ I l4 e=>a3 _ _ _ (hK _ _ _ ⟨((n1.1.a g1).a U).a l4,?_⟩)) (λκ I l4 e e'=>a3 _ _ _ (hK _ _ _ ⟨((n1.1.a g1).a U).a l4,?_⟩)) λI l4 e e'=> ?_)
   ·rw[←O,mx,e]
    rfl
   ·rw[←O,mx,e,e']
    rfl
   ·refine hJ () _ _ (.r QJ) (aL ((g1.a U).a l4) (λx hx=>g2 x (QV _ hx)) ?_)
    rw[←O,mx,e,e']
    rfl
  ·(revert g;refine bk λg1 b0 O=> ?_)
   refine have O:m=iQ l m (p.2.2.1.drop a):=O;?_;refine have l2:=n1.1.a g1;?_;refine ag (λpt E G=> ?_) (LR (f+d+1) d2)
   have G:Ev (aB (f+d+1+5)) (.S (.A 163) (.B (.A 1)) (.B (.A 2))) [(163,p.2.2.2.v),(110,.B z),(89,.A l)] w (.F pt):=
    (bR _ _ (.c QJ .d) w _ G).elim λv h=>by rw[←h.2] at h;exact h.1
   have a5:Ev (aB (f+d+1+5)) (.H .A (.C (.A 163) (.B (.A 0))) (.B (.C 120))) [(163,p.2.2.2.v),(110,.B z),(89,.A l)] w (.D p.2.2.2.qd):=by
    induction p.2.2.2 using Tm.casesOn<;>kernel_rfl
   have hz:Ev (aB (f+d+1+5)) (.H .A (.A 89) (.B (.A 0))) [(163,p.2.2.2.v),(110,.B z),(89,.A l)] w (.D (Rc (l=0))):=by
    refine have:Ev (aB (f+d+1+5)) (.H .A (.A 89) (.B (.A 0))) [(163,p.2.2.2.v),(110,.B z),(89,.A l)] w (.D ((l:RW)==((0:QN):RW))):=QJ;?_;rwa[show((l:RW)==((0:QN):RW))=Rc (l=0) from iG l 0] at this
   have a6:∀{κ σ'},Le σ σ'→m=QO→K (.B (.D QO)) κ σ':=λh e=>hK _ _ _ ⟨h,by rw[←O,e];rfl⟩;rw[hC];refine have y:=Ev.p a5 hz;?_
   induction e0:p.2.2.2.qd&&Rc (l=0) using QL with
   |true=>
    rw[e0] at y;exact .j (.t y QJ (.f (Ev.a QJ (a6 l2 (by rw[←u,e0];rfl)))))
   |false=>
    rw[e0] at y;refine .j (.j y QJ (.o (l:=l) QJ (.k QJ (.d (G.a (.j (E w))))) λa4 U=> ?_))
    induction e1:Rc (l∈p.2.2.2.qe) using QL with
    |true=>exact .f (Ev.a QJ (a6 (l2.a U) (by rw[←u,e0,e1];rfl)))
    |false=>
     refine have V:=N k p hk;?_;have L:(p.2.2.2.qa.any λg=>((ps.map (·.2.2))[g]?).any λb=>cL (ps.map (·.2.2)) f b.1 b.2 l)=m:=by rw[←u,e0,e1];rfl
     refine .a (.a (.f (aa.g (RB.p (Q:=λb σ'=>b=m∧Le σ σ') (.K (.k QJ (.d (Ev.a QJ (.j ((FF (f+d+5) a4 V.1).g λv I g=> ?_))))))) λv W g=> ?_)))
     ·(revert g;refine ag λq4 X n4=> ?_;subst X)
      refine have a7:p.2.2.2.qa.length≤100:=lB V.1;?_;refine .s n4.2.2 ⟨.inl QJ,?_⟩
      refine aa.T _ p.2.2.2.qa (λR Y σ'=>Le I σ'∧(∀g∈R,g∈p.2.2.2.qa)∧Y++aS (R.filter λg=>((ps.map (·.2.2))[g]?).any λb=>cL (ps.map (·.2.2)) f b.1 b.2 l)=aS (p.2.2.2.qa.filter λg=>((ps.map (·.2.2))[g]?).any λb=>cL (ps.map (·.2.2)) f b.1 b.2 l)) (bT a7)
       (aL (Le.b _) (λZ h=>h) QJ) (λZ Z Z g=>g.1 _ _ n4.2.2) (λx R Y W g=>.i ?_) λY W hl g=> ?_
      ·(revert g;refine bk λk1 k2 P=> ?_)
       refine have hx:=V.2.2 x (k2 x (QM ..));?_;refine have a8:=Rk hx.2;?_;refine have l5:=((l2.a U).a n4.1).a k1;?_;refine have ih:=xj d M N f x 0 l W z ps[x] (hb.a l5) (uy (by assumption) hx.1) a8 (RQ _);?_;rw[hC] at ih
       have hP:((ps.map (·.2.2))[x]?).any (λb=>cL (ps.map (·.2.2)) f b.1 b.2 l)=cL (ps.map (·.2.2)) f (ps[x].2.2.1.drop 0) ps[x].2.2.2 l:=by
        rw[Rn,a8]
        rfl
       rw[TU,hP] at P;refine aa.k QJ (.d (Ev.a QJ (.d (Ev.a QJ (.d (Ev.a QJ (.d (Ev.a QJ (.j (ih.g λv b3 g=> ?_))))))))))
       (revert g;refine oA λl6 a0=> ?_;subst a0)
       refine(ai _ QJ ?_)
       induction e:cL (ps.map (·.2.2)) f (ps[x].2.2.1.drop 0) ps[x].2.2.2 l using QL with
       |true=>
        rw[e] at P;rw[WC];exact Ev.a QJ (aL (k1.a l6) (λg hg=>k2 g (QV _ hg)) (by rw[Rq];exact P))
       |false=>
        rw[e] at P;exact(aL (k1.a l6) (λg hg=>k2 g (QV _ hg)) P)
      ·(revert g;refine bk λk1 b4 P=> ?_)
       rw[Yk,show aS []=[] from QJ,RD] at P;subst P;refine .n (bT (QK hl a7)) λr b3 n6=>(cX r _ QJ n6.2.2 λb5 l7=>⟨?_,(((l2.a U).a n4.1).a k1).a (n6.1.a l7)⟩);rw[FV];exact L
     ·(revert g;refine ag λb a1 a2=> ?_;subst a1;revert a2;refine oA λe lb=> ?_)
      exact hK _ _ _ ⟨lb,by rw[←O,e];rfl⟩
noncomputable def ek(s:QI aE)(b:aE)(a:QN):Bool:=match b.1[a]? with
 |some .C=>QO
 |some (.A l Z)=> !cL s s.length (b.1.drop (a+1)) b.2 l
 |_=>QR
def mO(s:QI aE):Prop:=∀(k:QN) (b:aE),s[k]?=QG b→∀a,a<b.1.length→ek s b a=QR
def pR(P:QI aE→Prop):Prop:=∀(s:QI aE) (k:QN) (b:aE) (a:QN),P s→s[k]?=QG b→a<b.1.length→ek s b a=QO→P (s.set k (b.1.eraseIdx a,b.2))
def lH(n:QN)(a:QI aE):Prop:=a.length≤10∧(∀b∈a,(∀s∈b.1,s.qb)∧b.2.qg∧b.1.length≤30)∧∀(k:QN) (b:aE),a[k]?=QG b→b.2.qb n a.length k
noncomputable def fC(s:QI aE):Nat:=s.foldr (λb m=>b.1.length+m) 0
theorem Lh{s:QI aE}{k:QN}{b:aE}{a:QN}(h:s[k]?=QG b)(d:a<b.1.length):fC (s.set k (b.1.eraseIdx a,b.2))+1=fC s:=by
 induction s generalizing k with
 |nil=>exact aI h
 |cons c s i=>
  induction k using Uo with
  |zero=>
   obtain rfl:c=b:=QS h;show(c.1.eraseIdx a).length+fC s+1=c.1.length+fC s;rw[VB,SH d,RO,pX d]
  |succ k=>
   have:=i h;show c.1.length+fC (s.set k _)+1=c.1.length+fC s;exact this▸QJ
theorem Lg{s:QI aE}(h:∀b∈s,b.1.length≤30):fC s≤30*s.length:=by
 induction s with
 |nil=>exact Sd _
 |cons b s i=>
  have c:=h b (QM ..);have d:=i λx a=>h x (QV _ a);show b.1.length+fC s≤_;rw[Se]
  lia
theorem GN{n:QN}{bss:QI aE}{k:QN}{b:aE}{a:QN}(h:lH n bss)(hk:bss[k]?=QG b):lH n (bss.set k (b.1.eraseIdx a,b.2)):=by
 (revert h;refine bk λh1 h2 h3=> ?_)
 have hb:=h2 b (Rg hk);refine(aL (by rw[Vc];exact h1) (λc hc=> ?_) λj c hj=> ?_)
 ·(refine oO (λhc=> ?_) (λe_817=> ?_) (Va hc)<;>try subst e_817)
  ·exact h2 c hc
  ·exact(aL (λs hs=>hb.1 s (qaU hs)) hb.2.1 (QK (qbb _ _) hb.2.2))
 ·rw[Vc]
  rw[Vx] at hj
  by_cases e:k=j
  ·subst e
   rw[SH QJ,SH (gL hk)] at hj;rw[←QS hj];exact h3 k b hk
  ·rw[SK e] at hj
   exact h3 j c hj
def gW(σ:af)(q:QN)(ps:QI Bp):Prop:=iV σ q ps∧(ps.map (·.2.1)).Nodup∧∀p∈ps,p.1≠q∧p.2.1≠q
theorem gW.a{σ σ':af}{q:QN}{ps:QI Bp}(h:gW σ q ps)(l:Le σ σ'):gW σ' q ps:=⟨h.1.a l,h.2⟩
theorem th{α:Type}{l:QI α}{k:QN}{v:α}(h:l[k]?=QG v):l.set k v=l:=by
 refine oE (λa e=> ?_) (Te.mp h);rw[←e];exact List.set_getElem_self a
theorem pe{ps:QI Bp}{k:QN}{p:Bp}{x:aE}(h:ps[k]?=QG p):(ps.set k (p.1,p.2.1,x)).map bN=ps.map bN∧(ps.set k (p.1,p.2.1,x)).map (·.2.1)=ps.map (·.2.1)∧(ps.set k (p.1,p.2.1,x)).map (·.2.2)=(ps.map (·.2.2)).set k x:=by
 refine(aL ?_ ?_ WL)
 ·rw[WL]
  exact th (by rw[Rn,h];rfl)
 ·rw[WL]
  exact th (by rw[Rn,h];rfl)
theorem gW.b{σ σ':af}{rq k a:QN}{ps:QI Bp}{p:Bp}(h:gW σ rq ps)(hk:ps[k]?=QG p)(c:Ch p.2.1 σ σ')(e:σ'[p.2.1]?=QG (.A ((p.2.2.1.eraseIdx a).map ab.v))):gW σ' rq (ps.set k (p.1,p.2.1,(p.2.2.1.eraseIdx a,p.2.2.2))):=by
 (revert h;refine bk λz_818 h3 h4=> ?_;revert z_818;refine oA λh1 h2=> ?_)
 have hp:=Rg hk
 (refine bk (λs1 s2 z_819=> ?_) (pe (x:=(p.2.2.1.eraseIdx a,p.2.2.2)) hk))
 have ne1:∀p'∈ps,p'.1≠p.2.1:=λp' hp' e'=>by
  have:=(h2 p' hp').1;rw[e',(h2 p hp).2] at this;injection this with this;injection this with this
  induction hss:p.2.2.1 using Rm with
  |nil=>rw[hss] at this;exact nomatch this
  |cons s l=>rw[hss] at this;injection this with this;induction s using ab.casesOn<;>exact nomatch this
 refine(aL ⟨by rw[s1];exact c _ _ (h4 p hp).2.symm h1,λp' hp'=> ?_⟩ (by rw[s2];exact h3) λp' hp'=> ?_)
 ·refine oE (λi hi=> ?_) (Uu.mp hp')
  rw[Vx] at hi
  by_cases ei:k=i
  ·subst ei
   rw[SH QJ,SH (gL hk)] at hi;obtain rfl:=QS hi;exact⟨c _ _ (ne1 p hp) (h2 p hp).1,e⟩
  ·rw[SK ei] at hi
   have hp'':=Rg hi;refine⟨c _ _ (ne1 p' hp'') (h2 p' hp'').1,c _ _ (λe'=>ei ?_) (h2 p' hp'').2⟩;refine(qcz (by rw[QP];exact(gL hk)) h3).mp ?_;rw[Rn,Rn,hk,hi];exact RH QG e'.symm
 ·(refine oO (λhp'=> ?_) (λe_820=> ?_) (Va hp')<;>try subst e_820)
  ·exact h4 p' hp'
  ·exact h4 p hp
theorem vJ{α B:Type}(f:α→B):∀(l:QI α) (k:QN),(l.map f).eraseIdx k=(l.eraseIdx k).map f
 |[],Z=>QJ
 |Z::U,0=>QJ
 |a::l,k+1=>RH (f a::·) (vJ f l k)
theorem aa.qu{C:QN→QI PV→M PV}{κ:ay}{σ:af}{Q:PV→af→Prop}{o e:PE}{n k:QN}{l:QI PV}{v:PV}(g:Ev C o κ σ (.B n))(f:σ[n]?=QG (.A l))(m:Ev C e κ σ (.A k))(p:l[k]?=QG v)(q:∀σ',Ch n σ σ'→σ'[n]?=QG (.A (l.eraseIdx k))→Q v σ'):aa (ak C (.L o .C [e]) κ) σ Q:=by
 refine .S g f (.d (m.a (.j (bz _ f QJ ?_))));show aa (M.a (M.b (.A k)) λx=>M.a (fw x) λk=>M.a (M.h l[k]?) λv=>M.a (M.i n (.A (l.eraseIdx k))) λZ=>.b v) σ Q;refine .h (.i (.h (.mk (a:=k) QJ (.h ?_))));rw[p];exact .i (.h (.L f λσ' c e=>.i (q σ' c e)))
def lG(P:QI aE→Prop)(n N:QN)(a σ:af)(q:QN)(ps:QI Bp):Prop:=(Le a σ∧gW σ q ps)∧(lH n (ps.map (·.2.2))∧ps.length=N)∧P (ps.map (·.2.2))∧∀p∈ps,a[p.2.1]?=RM
theorem Ho{P:QI aE→Prop}{n N:QN}(d:QN)(hP:pR P){S σ:af}{q k x:QN}{ps:QI Bp}{p:Bp}{op:RG}(h:lG P n N S σ q ps)(i:ps[k]?=QG p)(hx:x<p.2.2.1.length){J:Fl→ay→af→Prop}
  (hJ:∀κ σ' m u,ar [(80,.A k),(131,.D m),(110,.B q)] κ→lG P n N S σ' q u→(ek (ps.map (·.2.2)) p.2.2 x=QR→m=op∧u=ps)→(ek (ps.map (·.2.2)) p.2.2 x=QO→m=QO∧u=ps.set k (p.1,p.2.1,(p.2.2.1.eraseIdx x,p.2.2.2)))→J .A κ σ'):
  RS (aB (N+(d+6))) [.A (.A 152) (.C (.C (.C (.A 110) (.A 80)) (.B (.A 0))) (.A 25)),.A (.A 132) (.M (.H .A (.C (.A 152) (.B (.A 0))) (.B (.C 105))) (.F (.D 171) [.A 110,.A 80,.J .A (.A 25) (.B (.A 1)),.C (.C (.A 152) (.B (.A 1))) (.B (.A 0))])),
   .C (.Q (.H .A (.C (.A 152) (.B (.A 0))) (.B (.C 34))) (.M (.H .A (.C (.A 152) (.B (.A 0))) (.B (.C 105))) (.T (.A 132)))) [.F (.L (.C (.C (.A 110) (.A 80)) (.B (.A 0))) .C [.A 25]),.A (.A 131) (.B (.D QO))] []]
   [(25,.A x),(80,.A k),(131,.D op),(110,.B q)] σ J:=by
 (revert h;refine cY λz E hp G=> ?_;revert z;refine oA λU V=> ?_;revert E;refine oA λhl hN=> ?_)
 have h0:=G p (Rg i);refine oA (λb1 b2=> ?_) (V.1.2 p (Rg i));have W:(ps.map (·.2.2))[k]?=QG p.2.2:=by rw[Rn,i];rfl
 have X:=Rk hx;have hv:(p.2.2.1.map ab.v)[x]?=QG p.2.2.1[x].v:=by rw[Rn,X];rfl
 have a0:(ps.map bN)[k]?=QG (.B p.1):=by rw[Rn,i];rfl
 have t:∀{κ σ'},Le σ σ'→ar [(80,.A k),(110,.B q)] κ→aa (ak (aB (N+(d+6))) (.C (.C (.A 110) (.A 80)) (.B (.A 0))) κ) σ' λv Y=>v=.B p.2.1∧Y=σ':=λl s=>
  aa.D (Ev.a (v:=.B p.2.1) (Ev.g (k:=0) (x:=.A 0) (Ev.g (x:=.A k) (by kernel_rfl) (by kernel_rfl) (l _ _ V.1.1) (dG k) a0) (by kernel_rfl) (l _ _ b1) (by kernel_rfl) QJ) ⟨QJ,QJ⟩) s
 generalize p.2.2.1[x]=s at X hv;have l0:=Ev.l (t (Le.b σ) (κ:=[(25,.A x),(80,.A k),(131,.D op),(110,.B q)]) (.r QJ));refine .d (Ev.a (v:=s.v) (Ev.g (x:=.A x) l0 (by kernel_rfl) b2 (dG x) hv) ?_)
 have y:∀{κ σ'},Le σ σ'→ek (ps.map (·.2.2)) p.2.2 x=QR→ar [(80,.A k),(131,.D op),(110,.B q)] κ→J .A κ σ':=λ{κ σ'} l e s=>
  hJ _ _ op ps s (cq ⟨U.a l,V.a l⟩ ⟨hl,hN⟩ hp G) (λZ=>⟨QJ,QJ⟩) (λe'=>by rw[e] at e';exact aD e')
 have go:∀{w:PV} {σ'},Le σ σ'→ek (ps.map (·.2.2)) p.2.2 x=QO→RS (aB (N+(d+6))) [.F (.L (.C (.C (.A 110) (.A 80)) (.B (.A 0))) .C [.A 25]),.A (.A 131) (.B (.D QO))] [(132,w),(152,s.v),(25,.A x),(80,.A k),(131,.D op),(110,.B q)] σ' (aV (aB (N+(d+6))) [] J):=λ{w σ'} l e=>by
  have l1:=Ev.l (t l (κ:=[(132,w),(152,s.v),(25,.A x),(80,.A k),(131,.D op),(110,.B q)]) (.r QJ));refine .k (.qu (k:=x) l1 (l _ _ b2) (by kernel_rfl) hv λa3 c2 e2=>.d (Ev.a (v:=.D QO) (by kernel_rfl) (.a (.b (hJ _ _ QO _ (.r QJ) (cq ⟨(U.a l).c h0 c2,(V.a l).b (a:=x) i c2 (by rw[e2,vJ])⟩ ⟨?_,by rw[Vc];exact hN⟩ ?_ λp' f=> ?_) (λe'=>by rw[e] at e';exact fT e') λZ=>⟨QJ,QJ⟩)))))
  ·rw[(pe i).2.2]
   exact GN hl W
  ·rw[(pe i).2.2]
   exact hP _ k p.2.2 x hp W hx e
  ·(refine oO (λf=> ?_) (λI=> ?_) (Va f)<;>try subst I)
   ·exact G p' f
   ·exact h0
 induction s using ab.casesOn with
 |C=>exact .d (Ev.a (v:=.D QR) (by kernel_rfl) (.h (b:=QO) (by kernel_rfl) QJ (go (Le.b _) (by rw[ek,X]))))
 |B o=>exact .d (Ev.a (v:=.D QR) (by kernel_rfl) (.g (b:=QR) (by kernel_rfl) QJ (.a (y (Le.b _) (by rw[ek,X]) (.r QJ)))))
 |A l r=>
  have hg:ek (ps.map (·.2.2)) p.2.2 x= !cL (ps.map (·.2.2)) N (p.2.2.1.drop (x+1)) p.2.2.2 l:=by rw[ek,X,QP,hN]
  have ih:=xj (n:=n) d (ps:=ps) (λp' f=>hl.2.1 _ (Up f)) (λk' p' a1=>by
   have:=hl.2.2 k' p'.2.2 (by rw[Rn,a1];rfl)
   rwa[QP] at this) N k (x+1) l σ q p V.1 (by simp_all) i hx
  refine .d (aa.g (RB.g (Q:=λb σ'=>b=cL (ps.map (·.2.2)) N (p.2.2.1.drop (x+1)) p.2.2.2 l∧Le σ σ') (x:=QO) (by kernel_rfl) QJ (aa.k (a:=440) (by kernel_rfl) (.d (Ev.a (v:=.B q) (by kernel_rfl) (.d (Ev.a (v:=.A k) (by kernel_rfl) (.d (Ev.a (v:=.A (x+1:QN)) (by kernel_rfl) (.d (Ev.a (v:=.A l) (by kernel_rfl) (.j (ih.g λv a2 g=>(bz _ g.2 QJ g.1))))))))))))) λv a2 g=> ?_)
  (revert g;refine ag λb K O=> ?_;subst K;revert O;refine oA λR l1=> ?_;subst R)
  refine .j (.j (x:=QR) (by kernel_rfl) QJ (.g (x:=QO) (by kernel_rfl) QJ (Ev.d (b:= !cL (ps.map (·.2.2)) N (p.2.2.1.drop (x+1)) p.2.2.2 l) (by kernel_rfl) ?_)));rw[←hg]
  induction e:ek (ps.map (·.2.2)) p.2.2 x using QL with
  |true=>exact go l1 e
  |false=>exact .a (.a (.a (y l1 e (.r QJ))))
def uh(s:QI aE)(op:RG)(b:QI aE)(Q:Prop):Prop:=(op=QR→b=s∧Q)∧(op=QO→fC b<fC s)
theorem GI{P:QI aE→Prop}{n:QN}(d:QN)(hP:pR P){σ:af}{r A:QN}{tl:QI PV}{bs:QI aE}(M:aZ σ r A tl bs)(hf:dO bs)(h1:0<bs.length)(hl:lH n bs)(hp:P bs):
  aa (aB (bs.length+(d+6)+1) 445 [.B r]) σ λv σ'=>Le σ σ'∧∃G ps,v=.B G∧iV σ' G ps∧P (ps.map (·.2.2))∧mO (ps.map (·.2.2)):=by
 (revert M;refine gP λnm rl rb rs b1 b8 b9 c0 b4 b5 V=> ?_;subst V)
 generalize hN:(c0.map (·.2.2)).length=N at*;have O:N≤10:=by rw[←hN];exact hf.1
 refine bx (pf:=sv) (κ:=[(43,.B r)]) QJ QJ λK hK=>.d (qk (Ev.f QJ b1 QJ) b4 b5 hf λG W d2 l1 d3 g1 g2 g3 g4 g5=>.d (Ev.a (v:=.D QO) QJ ?_))
 have c1:fC (W.map (·.2.2))≤300:=by
  rw[g3];refine have:=Lg hf.2;?_;exact QK this (Td 30 (hN▸O))
 refine .w (I:=λm κ σ'=>∃H ps,ar [(131,.D H),(110,.B G)] κ∧lG P n N σ σ' G ps∧(H=QR→mO (ps.map (·.2.2)))∧(H=QO→fC (ps.map (·.2.2))<m)) (fC (W.map (·.2.2))+1) (Rp (Tg c1) (lB QJ))
  (eF QO W (.r QJ) (cq (cq l1 ⟨g1,λp hp=>(g2 p hp).1⟩ g4 λp hp=>(g2 p hp).2) ⟨by rw[g3];exact hl,by rw[←hN,←g3,QP]⟩ (by rw[g3];exact hp) g5) nofun λZ=>TB _) λm κ d4 I J hJ Z=> ?_
 (revert I;refine dw λH ps hs X c2 hm=> ?_)
 refine aa.D (Ev.d QJ ⟨λe=>.p hs ?_,λe=>.p hs (.f (Ev.a QJ (hK _ _ _ ⟨X.1.1,G,ps,QJ,X.1.2.1,X.2.2.1,c2 e⟩)))⟩) hs;refine .d (Ev.a QJ (.i (.N (X.2.1.2▸(QP bN▸Ev.j QJ X.1.2.1.1)) (⟨RN (by decide) (Rx _),Sz.mpr (QK O (by decide))⟩) (.q (gV (QK O (Sq _ _))) ?_))))
 refine RF.a _ (RE N) (λH=>[(131,.D H),(110,.B G)]) (λys H σ'=>∃y,lG P n N σ σ' G y∧∃s,s++ys=RE N∧uh (ps.map (·.2.2)) H (y.map (·.2.2)) (∀(k:QN) (b:aE),k<s.length→(ps.map (·.2.2))[k]?=QG b→∀a,a<b.1.length→ek (ps.map (·.2.2)) b a=QR)) QR QJ (.r QJ)
  ⟨ps,X,[],QJ,λZ=>⟨QJ,λZ Z h=>Ro h (VS _)⟩,nofun⟩ (λZ Z Z Z=>QJ) (λx ys l b6 g J' c3 Z=>.i ?_) λl b6 g=> ?_
 ·(revert g;refine iP λt L s hz R=> ?_)
  (refine oA (λY hx=> ?_) (jB hz);subst Y)
  refine have u:=Rk (L.2.1.2.symm▸hx:s.length<t.length);?_;generalize t[s.length]'(L.2.1.2.symm▸hx)=p at u;refine have bp:=L.1.2.1.2 p (Rg u);?_;refine have S:=(L.2.1.1.2.1 p.2.2 (Up (Rg u))).2.2;?_;have c4:(t.map bN)[s.length]?=QG (.B p.1):=by rw[Rn,u];rfl
  have c5:(t.map (·.2.2))[s.length]?=QG p.2.2:=by rw[Rn,u];rfl
  have b7:Ev (aB (N+(d+6))) (.F (.D 33) [.C (.C (.A 110) (.A 80)) (.B (.A 0))]) [(80,.A s.length),(131,.D l),(110,.B G)] b6 (.A p.2.2.1.length):=by
   refine have:=Ev.j (C:=aB (N+(d+6))) (Ev.g (k:=0) (x:=.A 0) (i:=.B (.A 0)) (Ev.g (κ:=[(80,.A s.length),(131,.D l),(110,.B G)]) (o:=.A 110) (i:=.A 80) QJ QJ L.1.2.1.1 (dG s.length) c4) QJ bp.1 QJ QJ) bp.2;?_;rwa[QP] at this
  refine .i (.qg (Ev.i b7 QJ QJ) (QK S (Sq _ _)) (.q (tp (QK S (Sq _ _))) ?_))
  refine RF.a _ (RE p.2.2.1.length).reverse (λH=>[(80,.A s.length),(131,.D H),(110,.B G)]) (λys H σ'=>∃y,lG P n N σ σ' G y∧∃i z,ys=(RE i).reverse∧y[s.length]?=QG z∧i≤z.2.2.1.length∧uh (ps.map (·.2.2)) H (y.map (·.2.2)) ((∀(k:QN) (b:aE),k<s.length→(ps.map (·.2.2))[k]?=QG b→∀a,a<b.1.length→ek (ps.map (·.2.2)) b a=QR)∧
   ∀b:aE,(ps.map (·.2.2))[s.length]?=QG b→∀a,i≤a→a<b.1.length→ek (ps.map (·.2.2)) b a=QR)) l QJ (.r QJ)
   ⟨t,L,_,p,QJ,u,Sd _,λe=>(aL ((R.1 e).1) ((R.1 e).2) λb M a h1 h2=> ?_),R.2⟩ (λZ Z Z Z=>QJ) (λx ys a0 c6 g J2 c7 Z=>.i ?_) λa0 c6 g=> ?_
  ·rw[←(R.1 e).1,c5] at M
   rw[←QS M] at h2;exact Ro h2 (TO.mpr h1)
  ·(revert g;refine yn λQ a1 i z hy E hi c=> ?_)
   (refine oA (λa2 a3=> ?_) (sW hy);subst a2;revert a3;intro a4;subst a4)
   have T:(Q.map (·.2.2))[s.length]?=QG z.2.2:=by rw[Rn,E];rfl
   refine Ho d hP a1 E hi λκ d5 c8 c9 s5 d0 e0 e1=>c7 c8 _ _ s5 ⟨c9,d0,x,?_⟩
   induction hg:ek (Q.map (·.2.2)) z.2.2 x using QL with
   |false=>
    (refine oA (λa5 a6=> ?_) (e0 hg);subst a5;revert a6;intro a7;subst a7)
    refine(iJ z QJ E (Sm hi) (λe=>(aL ((c.1 e).1) ((c.1 e).2.1) λb M a U d1=> ?_)) c.2)
    (refine oO (λa8=> ?_) (λU=> ?_) (qcx U)<;>try subst a8)
    ·refine have e2:=(c.1 e).1;?_
     rw[←e2,T] at M;rw[←e2,←QS M];exact hg
    ·exact(c.1 e).2.2 b M a U d1
   |true=>
    (refine oA (λa9 b0=> ?_) (e1 hg);subst a9;revert b0;intro b2;subst b2)
    refine(iJ (z.1,z.2.1,(z.2.2.1.eraseIdx x,z.2.2.2)) QJ (by rw[Vx,SH QJ,SH (gL E)]) ?_ nofun λZ=> ?_)
    ·show x≤(z.2.2.1.eraseIdx x).length
     rw[VB,SH (show x<z.2.2.1.length from hi)];exact qbO hi
    ·rw[(pe E).2.2]
     refine have:=Lh T hi;?_
     induction a0 using QL with
     |false=>rw[(c.1 QJ).1] at this⊢;exact VT (TB _) this
     |true=>exact Ue (VT (TB _) this) (c.2 QJ)
  ·(revert g;refine yn λQ a1 i z hy E hi c=> ?_)
   obtain rfl:i=0:=by
    refine have:=RH Wz hy;?_;rwa[UJ,TC,RC,qcj] at this
   refine .a (c3 a0 _ _ (.r QJ) ⟨Q,a1,s++[s.length],(Rq ..).trans hz,λe=>⟨(c.1 e).1,λk b u M a U=> ?_⟩,c.2⟩);rw[QW,TF] at u
   (refine oO (λu=> ?_) (λb3=> ?_) (qba.mp u)<;>try subst b3)
   ·exact(c.1 e).2.1 k b u M a U
   ·exact(c.1 e).2.2 b M a (RQ _) U
 ·(revert g;refine iP λt L s hz R=> ?_)
  rw[RD] at hz;refine .a (hJ (Sr l (fC (ps.map (·.2.2))) 0) _ _ ?_ (eF l t (.r QJ) L (λe k b u a U=> ?_) λe=>by rw[e];exact R.2 e))
  ·induction l using QL with
   |false=>exact Rp (RQ _) (hm e)
   |true=>exact hm e
  ·rw[(R.1 e).1] at u⊢
   refine(R.1 e).2 k b ?_ u a U;rw[hz,RC,←X.2.1.2,←QP (·.2.2)];exact(gL u)
theorem kI(i:QN):∀L:QI QN,(dR L).testBit i=QO↔i∈L
 |[]=>⟨λh=>Ro h (by rw[Bw,Wt];decide),λh=>Ro h Rb⟩
 |a::r=>by
  rw[Bv,kj,kI i r,qcb,Ua,SI,or_comm,qcj]
theorem Dy{m l i:QN}:(jd m l).testBit i=QO↔m.testBit i=QO∧i≠l:=by
 have h1:(dR [l]).testBit i=Rc (i=l):=by
  rw[Ud,kI,Ti,Ua]
 rw[jd,qdB,qdA,h1]
 induction m.testBit i using QL<;>by_cases e:i=l<;>simp[e]
theorem px{m l i:QN}{r:Rv}:(gu m (.A l r)).testBit i=QO↔(m.testBit l=QO∧i∈r.rd)∨(m.testBit i=QO∧i≠l):=by
 show(Sr (m.testBit l) ((jd m l|||dR r.rd)|||dR []) m).testBit i=QO↔_
 induction h:m.testBit l using QL with
 |true=>
  rw[WC,kj,kj,Dy,kI,kI]
  constructor
  ·rintro((h|h)|h)
   ·exact .inr h
   ·exact .inl ⟨QJ,h⟩
   ·exact Ro h Rb
  ·rintro(h|h)
   ·exact .inl (.inr h.2)
   ·exact .inl (.inl h)
 |false=>
  rw[ZQ];exact⟨λe=>.inr ⟨e,λq=>by rw[q,h] at e;exact aD e⟩,λe=>e.elim (λe=>aD e.1) (·.1)⟩
theorem pz{m i:QN}{o:ae}:(gu m (.B o)).testBit i=QO↔m.testBit i=QO∨i∈o.rd:=by
 show(m|||dR o.rd).testBit i=QO↔_;rw[kj,kI]
theorem tJ(t:Tm)(l:QN):l∈t.rd↔(t.qd&&Rc (l=0))=QO∨Rc (l∈t.qe)=true:=by
 induction t using Tm.casesOn with
 |A=>exact⟨λh=>.inl (Ry (m1 h)),λh=>h.elim (λh=>Ti.mpr (Rl h)) λh=>Ro (Rl h) Rb⟩
 |C o s d=>exact⟨λh=>.inr (Ry h),λh=>h.elim nofun Rl⟩
 |D o d=>exact⟨λh=>.inr (Ry h),λh=>h.elim nofun Rl⟩
 |F d=>exact⟨λh=>Ro h Rb,λh=>h.elim aD λh=>Ro (Rl h) Rb⟩
 |B=>exact⟨λh=>Ro h Rb,λh=>h.elim aD λh=>Ro (Rl h) Rb⟩
theorem nF{f:QN→QN}{t:Tm}{l:QN}:(cn f t).testBit l=QO↔(∃g∈t.qa,(f g).testBit l=QO)∨l∈t.rd:=by
 rw[cn,kj,rZ,kI]
section
variable{n:QN}{bs:QI aE}
theorem zP(hf:dy n bs):∀(f k:QN) (b:aE) (ss:QI ab) (l:QN),bs.length≤k+f→bs[k]?=QG b→(bu (cn (bt (bO bs)) b.2) ss).testBit l=QO→cL bs f ss b.2 l=QO
 |0,k,b,ss,l,h,hk,Z=>Ro (gL hk) (TO.mpr h)
 |f+1,k,b,ss,l,h,hk,hb=>by
  rw[nY]
  have hend:(cn (bt (bO bs)) b.2).testBit l=QO→((b.2.qd&&Rc (l=0))||(Rc (l∈b.2.qe)||b.2.qa.any λg=>(bs[g]?).any λb'=>cL bs f b'.1 b'.2 l))=true:=λe=>by
   (refine oO (ag λg hg e=> ?_) (λe=> ?_) (nF.mp e))
   ·have hgk:=(hf k b hk).2.2.2 g hg
    have hg':=Rk hgk.2;rw[oe hf hg'] at e;have:=zP hf f g bs[g] bs[g].1 l (uy h hgk.1) hg' e;have h3:(b.2.qa.any λg=>(bs[g]?).any λb'=>cL bs f b'.1 b'.2 l)=true:=UQ.mpr (ai g hg (by rw[hg'];exact this));rw[h3,Zy,Zy]
   ·(refine oO (λe=> ?_) (λe=> ?_) ((tJ b.2 l).mp e))
    ·rw[e,qdZ]
    ·rw[e,qdZ,Zy]
  revert hb hend;generalize ((b.2.qd&&Rc (l=0))||(Rc (l∈b.2.qe)||b.2.qa.any λg=>(bs[g]?).any λb'=>cL bs f b'.1 b'.2 l))=rest;intro hb hend
  induction ss with
  |nil=>exact hend hb
  |cons s r ih=>
   have hb:(gu (bu (cn (bt (bO bs)) b.2) r) s).testBit l=true:=hb;rw[mx]
   induction s using ab.casesOn with
   |C=>
    rw[show Rc (l∈ab.C.qd)=QR from RJ Rb];exact ih hb
   |B o=>
    by_cases e:l∈o.rd
    ·rw[show Rc (l∈(ab.B o).qd)=QO from Ry e]
     rfl
    ·rw[show Rc (l∈(ab.B o).qd)=QR from RJ e]
     exact ih ((pz.mp hb).resolve_right e)
   |A l' rv=>
    by_cases e:l∈rv.rd
    ·rw[show Rc (l∈(ab.A l' rv).qd)=QO from Ry e]
     rfl
    ·rw[show Rc (l∈(ab.A l' rv).qd)=QR from RJ e]
     have h2:=(px.mp hb).resolve_left λq=>e q.2;rw[show(ab.A l' rv).qe l=QR from RJ λq=>h2.2 q.symm];exact ih h2.1
theorem xu(hf:dy n bs)(hs:mO bs):∀(d k:QN) (b:aE),bs.length≤k+d→bs[k]?=QG b→∀(ss pre:QI ab),b.1=pre++ss→∀(f l:QN),cL bs f ss b.2 l=QO→(bu (cn (bt (bO bs)) b.2) ss).testBit l=QO
 |0,k,b,h,hk=>Ro (gL hk) (TO.mpr h)
 |d+1,k,b,h,hk=>λss=>by
  induction ss with
  |nil=>
   intro pre hp f l hr
   induction f using Uo with
   |zero=>exact aD hr
   |succ f=>
    rw[nY,Kd] at hr;refine nF.mpr ?_
    (refine oO (λe=> ?_) (λe=> ?_) (WJ.mp hr))
    ·exact .inr ((tJ b.2 l).mpr (.inl e))
    ·(refine oO (λe=> ?_) (λe=> ?_) (WJ.mp e))
     ·exact .inr ((tJ b.2 l).mpr (.inr e))
     ·refine ag (λg hg e=> ?_) (UQ.mp e)
      have hgk:=(hf k b hk).2.2.2 g hg;have hg':=Rk hgk.2;rw[hg'] at e;refine .inl (ai g hg ?_);rw[oe hf hg'];exact xu hf hs d g bs[g] (QK h (QK (Sx (qbr k d).symm) (RR hgk.1 d))) hg' bs[g].1 [] QJ f l e
  |cons s r ih=>
   intro pre hp f l hr;have ih:=ih (pre++[s]) (by rw[Rq];exact hp);have hlen:pre.length<b.1.length:=by rw[hp,QW,Se];exact Tc (Th _)
   have hat:b.1[pre.length]?=QG s:=by rw[hp,TN (Sd _),VI];rfl
   have hdrop:b.1.drop (pre.length+1)=r:=by
    rw[hp,show pre++s::r=(pre++[s])++r from(Rq pre [s] r).symm];exact qdv (QW ..)
   have hg:=hs k b hk pre.length hlen;rw[ek,hat] at hg
   induction f using Uo with
   |zero=>exact aD hr
   |succ f=>
    have hrest:cL bs (f+1) r b.2 l=QO→(bu (cn (bt (bO bs)) b.2) r).testBit l=true:=ih (f+1) l;rw[nY] at hr hrest;rw[mx] at hr
    induction s using ab.casesOn with
    |C=>exact fT hg
    |B o=>
     refine pz.mpr ?_
     by_cases e:l∈o.rd
     ·exact .inr e
     ·rw[show Rc (l∈(ab.B o).qd)=QR from RJ e] at hr
      exact .inl (hrest hr)
    |A l' rv=>
     have hg:(!cL bs bs.length (b.1.drop (pre.length+1)) b.2 l')=false:=hg;rw[hdrop] at hg;have hl':=ih bs.length l' (by induction e:cL bs bs.length r b.2 l' using QL with|true=>rfl|false=>rw[e] at hg;exact fT hg);refine px.mpr ?_
     by_cases e:l∈rv.rd
     ·exact .inl ⟨hl',e⟩
     ·rw[show Rc (l∈(ab.A l' rv).qd)=QR from RJ e] at hr
      by_cases q:l'=l
      ·rw[show(ab.A l' rv).qe l=QO from Ry q] at hr
       exact aD hr
      ·rw[show(ab.A l' rv).qe l=QR from RJ q] at hr
       exact .inr ⟨hrest hr,λq'=>q q'.symm⟩
end
theorem qC(m:QN)(a b:QI ab):bu m (a++b)=bu (bu m b) a:=by
 rw[bu,bu,bu,List.foldr_append]
theorem rg(m:QN):∀a b:QI ab,dK m (a++b)=dK (bu m b) a++dK m b
 |[],Z=>QJ
 |s::a,b=>by
  show dK m (s::(a++b))=_;rw[ik,ik,qC,rg m a b]
  induction dW (bu (bu m b) a) s using QL<;>rfl
theorem xS(a b:QI ab):eG (a++b)=eG a++eG b:=List.filter_append ..
theorem DF{n:QN}{s:QI aE}(f:dy n s){k:QN}{b:aE}(a:s[k]?=QG b):cn (λg=>bt (eR (k+1) (s.drop (k+1))) (g-(k+1))) b.2=cn (bt (bO s)) b.2:=by
 have t:=(gL a);have l:(s.take (k+1)).length=k+1:=by rw[XG];exact WG t
 refine qn λg h=> ?_;have h:=((f k b a).2.2.2 g h).1;have c:=og (s.drop (k+1)) (s.take (k+1)) 0 (g-(k+1));rw[Vu,l,SG,Uq h] at c;exact c.symm
theorem xA:∀(l:QI aE) (i k:QN) (b a:aE),l[k]?=QG b→a.2=b.2→bu (cn (λg=>bt (eR (i+k+1) (l.drop (k+1))) (g-(i+k+1))) b.2) a.1=bu (cn (λg=>bt (eR (i+k+1) (l.drop (k+1))) (g-(i+k+1))) b.2) b.1→eR i (l.set k a)=eR i l
 |[],Z,U,Y,O,h,j,m=>aI h
 |c::l,i,0,b,a,h,d,e=>by
  obtain rfl:c=b:=QS h;show bu _ _::_=bu _ _::_;rw[d];exact RH (·::eR (i+1) l) e
 |c::l,i,k+1,b,a,h,d,e=>by
  have f:=xA l (i+1) k b a h d (by rw[show i+1+k+1=i+(k+1)+1 by(simp+arith)];exact e);show bu _ _::_=bu _ _::_;rw[f]
def PL(n:QN)(D:QI aE)(s:QI aE):Prop:=dy n s∧s.map (dz s)=D
theorem GJ(n:QN)(D:QI aE):pR (PL n D):=λbss k b a=>oA λhf hD hk ha hg=>by
 have hs:=Rk ha;have hsplit:b.1=b.1.take a++b.1[a]::b.1.drop (a+1):=by rw[qbe,Vu]
 have her:b.1.eraseIdx a=b.1.take a++b.1.drop (a+1):=Wg ..;generalize b.1[a]=s at hs hsplit
 have step:∀m,m=cn (bt (bO bss)) b.2→gu (bu m (b.1.drop (a+1))) s=bu m (b.1.drop (a+1))∧eG (dK m (s::b.1.drop (a+1)))=eG (dK m (b.1.drop (a+1))):=λm hm=>by
  rw[ek,hs] at hg
  induction s using ab.casesOn with
  |B o=>exact aD hg
  |C=>
   refine⟨QJ,?_⟩;rw[ik]
   rfl
  |A l r=>
   have hg:(!cL bss bss.length (b.1.drop (a+1)) b.2 l)=true:=hg
   have hb:(bu m (b.1.drop (a+1))).testBit l=false:=by
    induction e:(bu m (b.1.drop (a+1))).testBit l using QL with
    |false=>rfl
    |true=>
     rw[hm] at e;rw[zP hf bss.length k b _ l (Sq _ _) hk e] at hg;exact aD hg
   refine⟨by show Sr _ _ _=_;rw[hb];rfl,?_⟩;rw[ik,qP,hb]
   rfl
 have hfold:∀m,m=cn (bt (bO bss)) b.2→bu m (b.1.eraseIdx a)=bu m b.1∧eG (dK m (b.1.eraseIdx a))=eG (dK m b.1):=λm hm=>by
  refine oA (λs1 s2=> ?_) (step m hm);have e1:bu m (s::b.1.drop (a+1))=bu m (b.1.drop (a+1)):=s1
  constructor
  ·rw[her,qC,←e1,←qC,←hsplit]
  ·rw[her,rg,xS,←s2,←e1,←xS,←rg,←hsplit]
 have hlive:bO (bss.set k (b.1.eraseIdx a,b.2))=bO bss:=by
  refine xA bss 0 k b (b.1.eraseIdx a,b.2) hk QJ ?_;rw[SG];exact(hfold _ (DF hf hk)).1
 refine⟨λj c hj=> ?_,?_⟩
 ·rw[Vc]
  rw[Vx] at hj
  by_cases e:k=j
  ·subst e
   rw[SH QJ,SH (gL hk)] at hj;rw[←QS hj];exact⟨λs hs=>(hf k b hk).1 s (qaU hs),(hf k b hk).2⟩
  ·rw[SK e] at hj
   exact hf j c hj
 ·have hd:dz (bss.set k (b.1.eraseIdx a,b.2))=dz bss:=by
   funext c
   rw[dz,dz,hlive]
  have hb':dz bss (b.1.eraseIdx a,b.2)=dz bss b:=by
   show(eG _,b.2)=(eG _,b.2);rw[(hfold _ QJ).2]
  rw[hd,WL,hb',th (by rw[Rn,hk];rfl),hD]
theorem Lq{n:QN}{a:QI aE}(w:dy n a)(u:mO a):a.map (dz a)=a:=by
 have:∀(k:QN) (b:aE),a[k]?=QG b→dz a b=b:=λk b v=>by
  have c:∀(d p:QI ab),b.1=p++d→dK (cn (bt (bO a)) b.2) d=d∧eG d=d:=λd=>by
   induction d with
   |nil=>exact λZ Z=>⟨QJ,QJ⟩
   |cons s r x=>
    intro p m;have q:b.1=(p++[s])++r:=by rw[Rq];exact m
    refine oA (λz D=> ?_) (x (p++[s]) q);have j:p.length<b.1.length:=by rw[m,QW,Se];simp
    have t:b.1[p.length]?=QG s:=by rw[m,TN (Sd _),VI];rfl
    have f:b.1.drop (p.length+1)=r:=by
     rw[q];exact qdv (QW ..)
    have g:=u k b v p.length j;rw[ek,t] at g
    have y:dW (bu (cn (bt (bO a)) b.2) r) s=QR∧s.qc=false:=by
     induction s using ab.casesOn with
     |C=>exact fT g
     |B o=>exact⟨QJ,QJ⟩
     |A l E=>
      have g:(!cL a a.length (b.1.drop (p.length+1)) b.2 l)=false:=g;rw[f] at g
      have F:cL a a.length r b.2 l=true:=by
       induction e:cL a a.length r b.2 l using QL with
       |true=>rfl
       |false=>rw[e] at g;exact fT g
      refine⟨?_,QJ⟩;show(!(bu _ r).testBit l)=QR;rw[xu w u a.length k b (Sq _ _) v r (p++[.A l E]) q _ l F]
      rfl
    rw[ik,y.1,ZQ,z,eG,TU,y.2];exact⟨QJ,RH (s::·) D⟩
  refine oA (λG H=> ?_) (c b.1 [] QJ);rw[dz,G,H]
 apply qcC;intro i;rw[Rn]
 induction h:a[i]? using QQ with
 |none=>rfl
 |some b=>exact RH QG (this i b h)
def fY(k:Kn)(e:bE):Prop:=∀a s,aM k a=QG s→aM e a=aM e s
theorem gp{k:Kn}{e:bE}(h:fY k e)(o:ae):aW e (cD k o)=aW e o:=by
 induction o using ae.casesOn with
 |B b v=>rfl
 |C l i=>rfl
 |A l=>
  show aM e ((aM k l).getD l)=aM e l
  induction a:aM k l using QQ with
  |none=>rfl
  |some s=>exact(h l s a).symm
theorem KH{k:Kn}{e:bE}(h:fY k e)(r:Rv):fB e (r.qb (cD k))=fB e r:=by
 induction r using Rv.casesOn with
 |A a=>exact gp h a
 |F a b=>show(aW e (cD k a)).bind _=(aW e a).bind _;rw[gp h a];congr 1;funext x;show QY _ (aW e (cD k b))=_;rw[gp h b]
 |B p a b=>show(aW e (cD k a)).bind _=(aW e a).bind _;rw[gp h a];congr 1;funext x;show(aW e (cD k b)).bind _=_;rw[gp h b]
 |D p a b=>show(aW e (cD k a)).bind _=(aW e a).bind _;rw[gp h a];congr 1;funext x;show(aW e (cD k b)).bind _=_;rw[gp h b]
 |G p a=>show(aW e (cD k a)).bind _=(aW e a).bind _;rw[gp h a]
 |C a=>show(aW e (cD k a)).bind _=(aW e a).bind _;rw[gp h a]
theorem DN{k:Kn}{e:bE}(h:fY k e)(s:ab)(p:QI PV):eE (s.qf k) e p=eE s e p:=by
 induction s using ab.casesOn with
 |C=>rfl
 |B o=>show(aW e (cD k o)).bind _=(aW e o).bind _;rw[gp h o]
 |A l r=>show QY _ (fB e (r.qb (cD k)))=QY _ (fB e r);rw[KH h r]
theorem Lv{ts:QI Ty}{k:Kn}{e e':bE}{s:ab}{p p':QI PV}(hu:cg k)(h:fY k e)(hx:eE s e p=QG (e',p')):fY (jF ts k s) e':=by
 induction s using ab.casesOn with
 |C=>
  refine have:=QS hx;?_;rw[←(Tw this).1];exact h
 |B o=>
  (refine ag (λv z_842 hx=> ?_) (bS hx))
  (refine ag (λd z_843 hx=> ?_) (mS hx))
  rw[←(Tw hx).1];exact h
 |A l r=>
  refine ag (λv hv hx=> ?_) (mS hx);obtain rfl:=(Tw hx).1
  have hf:fY (cV k l) (bJ e l v):=λa s hg=>by
   refine oA (λhm hc=> ?_) (Uc.mp (gg hg));rw[Tf] at hc;have h1:¬a=l:=λq=>by have:=hc.1;rw[Ry q] at this;exact aD this
   have h2:¬s=l:=λq=>by have:=hc.2;rw[Ry q] at this;exact aD this
   rw[gf,gf,SK h1,SK h2];exact h a s (ji hu hm)
  show fY (gk ts (cV k l) l (fD k r)) (bJ e l v)
  induction e2:fD k r using QQ with
  |none=>exact hf
  |some x=>
   show fY (Sr _ _ _) _
   induction ec: !Rc (x=l)&&(!dS ts l&& !dS ts x) using QL with
   |false=>exact hf
   |true=>
    have hxl:¬x=l:=λq=>by rw[Ry q] at ec;exact aD ec
    have hval:aM e x=QG v:=by
     induction r using Rv.casesOn with
     |A o=>induction o using ae.casesOn with
      |A y=>
       obtain rfl:(aM k y).getD y=x:=QS e2;refine have hy:aM e y=QG v:=hv;?_
       induction e3:aM k y using QQ with
       |none=>exact hy
       |some z=>exact(h y z e3).symm.trans hy
      |B b v=>exact aI e2
      |C y i=>exact aI e2
     |F a b=>exact aI e2
     |B op a b=>exact aI e2
     |D op a b=>exact aI e2
     |G op a=>exact aI e2
     |C a=>exact aI e2
    intro a s hg;refine have hg:aM (bJ (cV k l) l x) a=QG s:=hg;?_;rw[gf] at hg
    by_cases q:a=l
    ·rw[SH q] at hg
     rw[←QS hg,q,gf,gf,SH QJ,SK hxl,hval]
    ·rw[SK q] at hg
     exact hf a s hg
theorem vM{ts:QI Ty}:∀{ss:QI ab} {k:Kn} {e:bE} {p:QI PV},cg k→fY k e→dp (gK ts k ss) e p=dp ss e p∧∀y,dp ss e p=QG y→fY (cQ ts k ss) y.1
 |[],k,e,p,Z,h=>⟨QJ,λy a=>by rw[←QS a];exact h⟩
 |s::ss,k,e,p,u,h=>by
  show(eE (s.qf k) e p).bind _=(eE s e p).bind _∧∀y,(eE s e p).bind _=QG y→_;rw[DN h]
  induction x:eE s e p using QQ with
  |none=>exact⟨QJ,nofun⟩
  |some z=>exact vM (pw u s) (Lv u h x)
theorem LP{k:Kn}{e:bE}(h:fY k e)(t:Tm):eK e (t.qf k)=eK e t:=by
 induction t using Tm.casesOn with
 |C o s d=>show(aW e (cD k o)).bind _=(aW e o).bind _;rw[gp h o]
 |D o b=>show(aW e (cD k o)).bind _=(aW e o).bind _;rw[gp h o]
 |_=>rfl
theorem tI{e:bE}{t:Tm}{g:QN}(h:eK e t=QG (QG g)):g∈t.qa:=by
 induction t using Tm.casesOn with
 |F b=>obtain rfl:=QS (QS h);exact Ti.mpr QJ
 |A=>exact aI h
 |B=>exact aI h
 |D o b=>
  (refine ag (λv z h=> ?_) (bS h))
  (refine ag (λd a h=> ?_) (mS h))
  induction e:bY d (.D QR) using QL with
  |true=>rw[e] at h;obtain rfl:=QS h;exact Ti.mpr QJ
  |false=>rw[e] at h;exact aI h
 |C o s d=>
  (refine ag (λv f h=> ?_) (bS h))
  (refine ag (λk i h=> ?_) (bS h))
  induction j:s.all λc=>(dV c.1).isSome using QL with
  |false=>rw[j] at h;exact aI h
  |true=>
   rw[j] at h;have h:QG (QG _)=QG (QG g):=h;rw[←QS (QS h)]
   induction l:s.find? λc=>((dV c.1).map λm=>bY m k).getD QR using QQ with
   |none=>exact SF _ (Ti.mpr QJ)
   |some c=>exact TM _ (Up (VJ l))
theorem LS{t t':Tm}{e e':bE}{p:QI PV}{k h:QN→Rz fJ}(i:t=.A→t'=.A∧aM e' 0=aM e 0)(j:t=.B→t'=.B)(l:t≠.A→t≠.B→t'≠.A∧t'≠.B∧eK e' t'=eK e t)
  (m:∀g,eK e t=QG (QG g)→h g=k g):fj t' e' p h=fj t e p k:=by
 have n:t≠.A→t≠.B→fj t' e' p h=fj t e p k:=λa b=>by
  refine bk (λq r c=> ?_) (l a b)
  have u:∀{t:Tm} {e:bE} {k:QN→Rz fJ},t≠.A→t≠.B→fj t e p k=(eK e t).bind λx=>match x with|some b=>k b|none=>QG (QG (jA 151,p)):=λ{t e k} a b=>by
   induction t using Tm.casesOn with
   |A=>exact Ro QJ a
   |B=>exact Ro QJ b
   |_=>rfl
  rw[u q r,u a b,c]
  induction s:eK e t using QQ with
  |none=>rfl
  |some x=>induction x using QQ with
   |none=>rfl
   |some g=>exact m g s
 induction t using Tm.casesOn with
 |A=>
  (refine oA (λf v=> ?_) (i QJ);subst f)
  show(aM e' 0).bind _=(aM e 0).bind _;rw[v]
 |B=>rw[j QJ];rfl
 |F b=>exact n nofun nofun
 |C o w d=>exact n nofun nofun
 |D o b=>exact n nofun nofun
theorem sY{c:QI aE}{ts:QI Ty}{B:Bg}(I:ft c ts [] B c.length):∀(f b:QN) (k:Kn) (e:bE) (p:QI PV),bH B b=QG k→fY k e→dX (eP ts B c) f b e p=dX c f b e p
 |0,Z,U,Y,O,C,D=>QJ
 |f+1,b,k,e,p,i,h=>by
  obtain⟨-,-,-,u,-⟩:=I.1.a i;show((eP ts B c)[b]?).bind _=(c[b]?).bind _;rw[eP,Vd]
  induction m:c[b]? using QQ with
  |none=>rfl
  |some l=>
   have n:gd ts B b l=(gK ts k l.1,l.2.qf (cQ ts k l.1)):=by rw[gd,i]
   refine oA (λx o=> ?_) (vM (ts:=ts) (ss:=l.1) (p:=p) u h);show((dp (gd ts B b l).1 e p).bind λy=>fj (gd ts B b l).2 y.1 y.2 λd=>dX (eP ts B c) f d y.1 y.2)=(dp l.1 e p).bind λy=>fj l.2 y.1 y.2 λd=>dX c f d y.1 y.2;rw[n];show((dp (gK ts k l.1) e p).bind λy=>fj (l.2.qf (cQ ts k l.1)) y.1 y.2 λd=>dX (eP ts B c) f d y.1 y.2)=_;rw[x]
   induction r:dp l.1 e p using QQ with
   |none=>rfl
   |some y=>
    have j:=o y r;refine LS (λe=>by rw[e];exact⟨QJ,QJ⟩) (λe=>by rw[e];rfl) (λa b=> ?_) λg t=> ?_
    ·refine(aL ?_ ?_ (LP j l.2))
     ·induction e:l.2 using Tm.casesOn with
      |A=>exact Ro e a
      |_=>exact nofun
     ·induction e:l.2 using Tm.casesOn with
      |B=>exact Ro e b
      |_=>exact nofun
    ·refine ag (λv w z=> ?_) (vE I b Rb k i l m g (tI t))
     exact sY I f g v y.1 y.2 w λa s q=>j a s (z a s q)
def lE(m:QN)(e e':bE):Prop:=∀i,m.testBit i=QO→aM e i=aM e' i
theorem oY{e e':bE}{o:ae}(h:∀i∈o.rd,aM e i=aM e' i):aW e' o=aW e o:=by
 induction o using ae.casesOn with
 |B b v=>rfl
 |A l=>exact(h l (QM ..)).symm
 |C l i=>show(aM e' l).bind _=(aM e l).bind _;rw[h l (QM ..)]
theorem KG{e e':bE}{r:Rv}(h:∀i∈r.rd,aM e i=aM e' i):fB e' r=fB e r:=by
 have c:∀o∈r.qa,aW e' o=aW e o:=λo c=>oY λi d=>h i (Wl.mpr (ai o c d))
 induction r using Rv.casesOn with
 |A a=>exact c a (QM ..)
 |G p a=>show(aW e' a).bind _=(aW e a).bind _;rw[c a (QM ..)]
 |C a=>show(aW e' a).bind _=(aW e a).bind _;rw[c a (QM ..)]
 |F a b=>show((aW e' a).bind λx=>(aW e' b).map _)=((aW e a).bind λx=>(aW e b).map _);rw[c a (QM ..),c b (QV _ (QM ..))]
 |B p a b=>show((aW e' a).bind λx=>(aW e' b).bind _)=((aW e a).bind λx=>(aW e b).bind _);rw[c a (QM ..),c b (QV _ (QM ..))]
 |D p a b=>show((aW e' a).bind λx=>(aW e' b).bind _)=((aW e a).bind λx=>(aW e b).bind _);rw[c a (QM ..),c b (QV _ (QM ..))]
theorem lY{m:QN}:∀{ss:QI ab} {e e':bE} {p:QI PV} {y:bE×QI PV},dp ss e p=QG y→lE (bu m ss) e e'→∃e1,dp (eG (dK m ss)) e' p=QG (e1,y.2)∧lE m y.1 e1
 |[],e,e',p,y,h,ha=>by
  obtain rfl:=QS h;exact(ai e' QJ ha)
 |s::r,e,e',p,y,h,ha=>by
  refine ag (λz hz h=> ?_) (bS h);refine have ha:lE (gu (bu m r) s) e e':=ha;?_
  induction s using ab.casesOn with
  |C=>
   obtain rfl:(e,p)=z:=QS hz;exact lY (ss:=r) h ha
  |B o=>
   refine ag (λv hv hz=> ?_) (bS hz)
   (refine ag (λd hd e_849=> ?_) (mS hz);subst e_849)
   refine ag (λe1 h1 h2=> ?_) (lY h λi hi=>ha i (pz.mpr (.inl hi)));refine(ai e1 ?_ h2);show(eE (.B o) e' p).bind _=_
   have:eE (.B o) e' p=QG (e',p++[v]):=by
    show(aW e' o).bind _=_;rw[oY λi hi=>ha i (pz.mpr (.inr hi)),hv];show QY _ (dV v)=_;rw[hd]
    rfl
   rw[this];exact h1
  |A l rv=>
   (refine ag (λv hv e_850=> ?_) (mS hz);subst e_850)
   induction hb:(bu m r).testBit l using QL with
   |false=>
    have hstep:gu (bu m r) (.A l rv)=bu m r:=by show Sr _ _ _=_;rw[hb];rfl
    rw[hstep] at ha
    refine ag (λe1 h1 h2=> ?_) (lY (e':=e') h λi hi=>by
     rw[gf,SK λq=>by rw[q,hb] at hi;exact aD hi]
     exact ha i hi)
    refine(ai e1 ?_ h2);rw[ik,show dW (bu m r) (.A l rv)=QO by show(!_)=QO;rw[hb];rfl];exact h1
   |true=>
    refine ag (λe1 h1 h2=> ?_) (lY (e':=bJ e' l v) h λi hi=>by
     rw[gf,gf]
     by_cases q:i=l
     ·rw[SH q,SH q]
     ·rw[SK q,SK q]
      exact ha i (px.mpr (.inr ⟨hi,q⟩)))
    refine(ai e1 ?_ h2);rw[ik,show dW (bu m r) (.A l rv)=QR by show(!_)=QR;rw[hb];rfl];show(eE (.A l rv) e' p).bind _=_
    have:eE (.A l rv) e' p=QG (bJ e' l v,p):=by
     show QY _ (fB e' rv)=_;rw[KG λi hi=>ha i (px.mpr (.inl ⟨hb,hi⟩)),hv]
     rfl
    rw[this];exact h1
theorem LO{e e':bE}{t:Tm}(h:∀i∈t.rd,aM e i=aM e' i):eK e' t=eK e t:=by
 induction t using Tm.casesOn with
 |C o s d=>show(aW e' o).bind _=(aW e o).bind _;rw[oY h]
 |D o b=>show(aW e' o).bind _=(aW e o).bind _;rw[oY h]
 |_=>rfl
theorem sX{n:QN}{d:QI aE}(z:dy n d):∀(f b:QN) (e e':bE) (p:QI PV) (s:fJ),lE (bt (bO d) b) e e'→dX d f b e p=QG s→dX (d.map (dz d)) f b e' p=QG s
 |0,Z,U,Y,O,L,M,h=>h
 |f+1,b,e,e',p,s,E,h=>by
  refine ag (λl G h=> ?_) (bS h);refine ag (λy J h=> ?_) (bS h);rw[oe z G] at E;refine ag (λj K H=> ?_) (lY J E);show((d.map (dz d))[b]?).bind _=_;rw[Rn,G];show((dp (eG (dK (cn (bt (bO d)) l.2) l.1)) e' p).bind λy=>fj l.2 y.1 y.2 λu=>dX (d.map (dz d)) f u y.1 y.2)=QG s;rw[K];have r:∀i∈l.2.rd,aM y.1 i=aM j i:=λi v=>H i (nF.mpr (.inr v))
  have w:∀{t:Tm} {k:QN→Rz fJ},t≠.A→t≠.B→∀e p,fj t e p k=(eK e t).bind λx=>match x with|some b=>k b|none=>QG (QG (jA 151,p)):=λ{t k} a b e p=>by
   induction t using Tm.casesOn with
   |A=>exact Ro QJ a
   |B=>exact Ro QJ b
   |_=>rfl
  have m:l.2≠.A→l.2≠.B→fj l.2 j y.2 (λu=>dX (d.map (dz d)) f u j y.2)=QG s:=λa c=>by
   rw[w a c] at h⊢;refine ag (λx I h=> ?_) (bS h);rw[LO r,I]
   induction x using QQ with
   |none=>exact h
   |some g=>exact sX z f g y.1 j y.2 s (λi v=>H i (nF.mpr (.inl (ai g (tI I) v)))) h
  induction q:l.2 using Tm.casesOn with
  |A=>
   rw[q] at h r;show(aM j 0).bind _=_;rw[←r 0 (QM ..)];exact h
  |B=>rw[q] at h;exact h
  |F g=>rw[q] at m;exact m nofun nofun
  |C o N g=>rw[q] at m;exact m nofun nofun
  |D o g=>rw[q] at m;exact m nofun nofun
def di(ts:QI Ty)(P:QN→Prop)(e:bE):Prop:=∀(l:QN) (t:Ty),P l→ts[l]?=QG t→∃v,aM e l=QG v∧jy t v
theorem di.b{ts:QI Ty}{P:QN→Prop}{e:bE}{l:QN}{t:Ty}{v:PV}(h:di ts P e)(ht:ts[l]?=QG t)(hv:jy t v):di ts (λx=>P x∨x=l) (bJ e l v):=λx t' hx ht'=>by
 rw[gf]
 by_cases q:x=l
 ·subst q
  rw[ht] at ht';rw[SH QJ];exact(ai v QJ (QS ht'▸hv))
 ·rw[SK q]
  exact h x t' (hx.resolve_right q) ht'
theorem di.a{ts:QI Ty}{P Q:QN→Prop}{e:bE}(h:di ts P e)(q:∀x,Q x→P x):di ts Q e:=λl t b=>h l t (q l b)
theorem my{ts:QI Ty}{P:QN→Prop}{e:bE}{t:Ty}{o:ae}(h:di ts P e)(d:cZ ts t o)(r:∀l∈o.rd,P l):∃v,aW e o=QG v∧jy t v:=by
 induction o using ae.casesOn with
 |B b v=>exact(ai v QJ d.2.2)
 |A l=>exact h l t (r l (QM ..)) d
 |C l i=>
  (refine Iy (λv f n c a g=> ?_) (h l .C (r l (QM ..)) d.1);subst a)
  rcases d.2 with⟨rfl,rfl⟩|⟨rfl,rfl⟩
  ·exact⟨.A n,by show(aM e l).bind _=_;rw[f];rfl,n,QJ,g⟩
  ·exact⟨.D c,by show(aM e l).bind _=_;rw[f];rfl,c,QJ⟩
theorem Mx{op:QN}(h:op∈kE)(i j:RW):∃w,jH op i j=QG (.A w):=by
 simp only[kE,SI,Rb,Ys] at h;rcases h with rfl|rfl|rfl|rfl|rfl|rfl<;>exact⟨_,QJ⟩
theorem My{op:QN}(h:op∈lU)(i j:RW):∃c,jH op i j=QG (.D c):=by
 simp only[lU,SI,Rb,Ys] at h;rcases h with rfl|rfl|rfl|rfl|rfl|rfl<;>exact⟨_,QJ⟩
theorem om(w:RW):jy .A (.A (w.fmod 256)):=by
 refine ag (λn h a=> ?_) (rF w (t:=256) (by decide));exact(ai n (RH PV.A h) a)
theorem yE{op:QN}(h:op∈kE)(chk:RG){m n:QN}(a:n<256):∃w:RW,kg chk op (.A m) (.A n)=lZ chk (.A w):=by
 refine oE (λw b=> ?_) (Mx h m n);refine⟨w,?_⟩;show Sr (Rc (-1000≤(n:RW)∧(n:RW)≤1000)) ((jH op m n).bind (lZ chk)) RM=_;rw[Ry (⟨RN (by decide) (Rx _),Sz.mpr (QK (Sm a) (by decide))⟩),b]
 rfl
theorem Jy{op:QN}(h:op∈lU){m n:QN}(a:n<256):∃c,kg QR op (.A m) (.A n)=QG (.D c):=by
 refine oE (λc w=> ?_) (My h m n);refine⟨c,?_⟩;show Sr (Rc (-1000≤(n:RW)∧(n:RW)≤1000)) ((jH op m n).bind (lZ QR)) RM=_;rw[Ry (⟨RN (by decide) (Rx _),Sz.mpr (QK (Sm a) (by decide))⟩),w]
 rfl
theorem zF{ts:QI Ty}{P:QN→Prop}{e:bE}{t:Ty}{r:Rv}(h:di ts P e)(S:oB ts t r)(Z:∀l∈r.rd,P l):∃v,fB e r=QG v∧jy t v:=by
 refine have i:∀{o:ae} {t:Ty},o∈r.qa→cZ ts t o→∃v,aW e o=QG v∧jy t v:=λd W=>my h W λl hl=>Z l (Wl.mpr (ai _ d hl));?_
 induction r using Rv.casesOn with
 |A a=>exact i (QM ..) S
 |F a b=>
  (revert S;refine oA λq s=> ?_;subst q;revert s;refine oA λf T=> ?_)
  (refine iP (λx g n u j=> ?_) (i (QM ..) f);subst u)
  (refine rQ (λy U c z=> ?_) (i (QV _ (QM ..)) T);subst z)
  exact⟨_,by show(aW e a).bind _=_;rw[g];show QY _ (aW e b)=_;rw[U];rfl,n,c,QJ,j⟩
 |B p a b=>
  (revert S;refine oA λE d=> ?_;revert E;refine oA λf T=> ?_)
  (refine iP (λx g m H hm=> ?_) (i (QM ..) f);subst H)
  (refine iP (λy U n I j=> ?_) (i (QV _ (QM ..)) T);subst I)
  have V:fB e (.B p a b)=kg QR p (.A m) (.A n):=by show(aW e a).bind _=_;rw[g];show(aW e b).bind _=_;rw[U];rfl
  rcases d with⟨d,rfl⟩|⟨d,rfl⟩
  ·obtain⟨w,X⟩:=yE d QR j
   exact(ai (.A (w.fmod 256)) (V.trans X) (om w))
  ·obtain⟨c,hc⟩:=Jy d j
   exact⟨.D c,V.trans hc,c,QJ⟩
 |D p a b=>
  (revert S;refine bk λJ d K=> ?_;revert J;refine oA λf T=> ?_;subst K)
  (refine iP (λx g m L hm=> ?_) (i (QM ..) f);subst L)
  (refine iP (λy U n M j=> ?_) (i (QV _ (QM ..)) T);subst M)
  have V:fB e (.D p a b)=kg QO p (.A m) (.A n):=by show(aW e a).bind _=_;rw[g];show(aW e b).bind _=_;rw[U];rfl
  have d:p∈kE:=by
   simp only[SI,Rb,Ys] at d;rcases d with rfl|rfl|rfl<;>decide
  refine oE (λw X=> ?_) (yE d QO (m:=m) j);refine ag (λk W Y=> ?_) (om w);refine⟨.F [.A (w.fmod 256),.D (!(Rc (0≤w)&&Rc (w<256)))],V.trans X,k,!(Rc (0≤w)&&Rc (w<256)),?_,Y⟩;rw[W]
 |G p a=>
  rcases S with⟨f,rfl,rfl⟩|⟨f,d,rfl⟩
  ·(refine rQ (λx g c N=> ?_) (i (QM ..) f);subst N)
   exact⟨.D (!c),by show(aW e a).bind _=_;rw[g];rfl,_,QJ⟩
  ·(refine iP (λx g n O j=> ?_) (i (QM ..) f);subst O)
   refine(ai (.A (Sr (p==4) (255-n) ((-n:RW).fmod 256))) (by show(aW e a).bind _=_;rw[g];rfl) ?_);rcases d with rfl|rfl
   ·exact(ai (255-n) (RH PV.A (VQ (SM j)).symm) (by(simp+arith)))
   ·exact om _
 |C a=>
  (revert S;refine oA λf Q=> ?_;subst Q)
  (refine rQ (λx g c R=> ?_) (i (QM ..) f);subst R)
  exact(ai (.A ((jQ c).fmod 256)) (by show(aW e a).bind _=_;rw[g];rfl) (om _))
theorem kL{t:Ty}{v:PV}(h:jy t v)(b:t≠.C):∃d,dV v=QG d:=by
 induction t using Ty.casesOn with
 |A=>(revert h;refine ag λn e z=> ?_;subst e);exact⟨_,QJ⟩
 |B=>(revert h;refine oE λc a=> ?_;subst a);exact⟨_,QJ⟩
 |C=>exact Ro QJ b
theorem qz{ts:QI Ty}:∀{ss:QI ab} {e:bE} {p:QI PV},di ts (λZ=>YB) e→(∀s∈ss,eI ts s)→∃y,dp ss e p=QG y∧di ts (λZ=>YB) y.1
 |[],e,p,h,Z=>(ai (e,p) QJ h)
 |s::r,e,p,h,k=>by
  have n:∃z,eE s e p=QG z∧di ts (λZ=>YB) z.1:=by
   refine have m:=k s (QM ..);?_
   induction s using ab.casesOn with
   |C=>exact(ai (e,p) QJ h)
   |B o=>
    (revert m;refine ag λt f q=> ?_)
    refine ag (λv g c=> ?_) (my h q λZ Z=>Tu);refine oE (λd u=> ?_) (kL c f);exact(ai (e,p++[v]) (by show(aW e o).bind _=_;rw[g];show QY _ (dV v)=_;rw[u];rfl) h)
   |A l w=>
    (revert m;refine ag λt f D=> ?_)
    refine ag (λv g c=> ?_) (zF h D λZ Z=>Tu);exact(ai (bJ e l v,p) (by show QY _ (fB e w)=_;rw[g];rfl) ((h.b f c).a λZ Z=>.inl Tu))
  (revert n;refine ag λz E i=> ?_)
  refine ag (λy F j=> ?_) (qz (p:=z.2) i λx G=>k x (QV _ G));exact(ai y (by show(eE s e p).bind _=_;rw[E];exact F) j)
theorem Ai{A N k:QN}{t:Tm}{e:bE}{p:QI PV}{f:QN→Rz fJ}(h:di (bf A) (λZ=>YB) e)(q:gQ (bf A) N k t)(w:∀g∈t.qa,∃r,f g=QG r):∃r,fj t e p f=QG r:=by
 have n:∀{x:Rz QN},eK e t=QG x→t≠.A→t≠.B→∃r,fj t e p f=QG r:=λ{x} s a b=>by
  have y:fj t e p f=(eK e t).bind λx=>match x with|some b=>f b|none=>QG (QG (jA 151,p)):=by
   induction t using Tm.casesOn with
   |A=>exact Ro QJ a
   |B=>exact Ro QJ b
   |_=>rfl
  rw[y,s]
  induction x using QQ with
  |none=>exact⟨_,QJ⟩
  |some g=>exact w g (tI s)
 induction t using Tm.casesOn with
 |A=>
  refine ag (λv j i=> ?_) (h 0 .A Tu (iv (Th _)));refine oE (λd l=> ?_) (kL i nofun);exact⟨_,by show(aM e 0).bind _=_;rw[j];show QY _ (dV v)=_;rw[l];rfl⟩
 |B=>exact⟨_,QJ⟩
 |F b=>exact n QJ nofun nofun
 |D o b=>
  refine ag (λv j i=> ?_) (my h q.2.2 λZ Z=>Tu);refine oE (λd l=> ?_) (kL i nofun);exact n (by show(aW e o).bind _=_;rw[j];show QY _ (dV v)=_;rw[l];rfl) nofun nofun
 |C o z d=>
  have:∃v u,aW e o=QG v∧dV v=QG u∧(z.all λc=>(dV c.1).isSome)=true:=by
   rcases q.2.2 with⟨m,b,rfl⟩|⟨m,b,c,rfl⟩
   ·obtain⟨v,j,i⟩:=my h m λZ Z=>Tu
    obtain⟨d,l⟩:=kL i nofun;exact(cX v d j l QJ)
   ·obtain⟨v,j,i⟩:=my h m λZ Z=>Tu
    obtain⟨d,l⟩:=kL i nofun;exact(cX v d j l QJ)
  (revert this;refine cm λv u j l E=> ?_)
  exact n (by show(aW e o).bind _=_;rw[j];show(dV v).bind _=_;rw[l];show Sr _ _ _=_;rw[E];rfl) nofun nofun
theorem zC{A:QN}{a:QI aE}(i:∀(k:QN) (b:aE),a[k]?=QG b→(∀s∈b.1,eI (bf A) s)∧gQ (bf A) a.length k b.2):∀(f b:QN) (e:bE) (p:QI PV),di (bf A) (λZ=>YB) e→b<a.length→∃r,dX a f b e p=QG r
 |0,Z,U,Y,O,t=>⟨_,QJ⟩
 |f+1,b,e,p,h,l=>by
  have c:=Rk l;refine oA (λm j=> ?_) (i b a[b] c);refine ag (λy n d=> ?_) (qz (p:=p) h m);refine oE (λr o=> ?_) (Ai (p:=y.2) d j λg q=>zC i f g y.1 y.2 d (j.2.1 g q).2);exact⟨r,by show((a[b]?).bind _)=_;rw[c];show(dp a[b].1 e p).bind _=_;rw[n];exact o⟩
theorem DP(a b:QI ab):∀(e:bE) (p:QI PV),dp (a++b) e p=(dp a e p).bind λy=>dp b y.1 y.2:=by
 induction a with
 |nil=>exact λZ Z=>QJ
 |cons s a h=>
  intro e p;show(eE s e p).bind _=((eE s e p).bind _).bind _
  induction eE s e p using QQ with
  |none=>rfl
  |some z=>exact h z.1 z.2
theorem vL{ts:QI Ty}{j:QN→Prop}:∀{ss:QI ab} {P:QN→Prop} {e:bE} {p:QI PV},di ts P e→(∀x,j x→P x)→(∀s∈ss,∃l r t,s=.A l r∧ts[l]?=QG t∧oB ts t r∧∀i∈r.rd,j i)→
  ∃f,dp ss e p=QG (f,p)∧di ts (λx=>P x∨∃r,ab.A x r∈ss) f
 |[],P,e,p,h,Z,U=>(ai e QJ (h.a λx n=>n.resolve_right<|oE λZ q=>Ro q Rb))
 |s::ss,P,e,p,h,k,m=>by
  (refine bc (λl r t c d=> ?_) (m s (QM ..));subst c;revert d;refine bk λo u w=> ?_)
  refine ag (λv y g=> ?_) (zF h u λi q=>k i (w i q));refine ag (λf z B=> ?_) (vL (p:=p) (h.b o g) (λx q=>.inl (k x q)) λs q=>m s (QV _ q));refine(ai f ?_ (B.a λx q=> ?_))
  ·show(QY _ (fB e r)).bind _=_
   rw[y];exact z
  ·(revert q;refine oO (λq=> ?_) (oE λC q=> ?_))
   ·exact .inl (.inl q)
   ·(refine oO (λq=> ?_) (λq=> ?_) (mC q))
    ·injection q with D E
     exact .inl (.inr D)
    ·exact .inr ⟨C,q⟩
theorem Bj{A:QN}{os:QI ae}{cs:QI RG}(h3:os.length=3)(h2:cs.length=2)(ho:∀o∈os,lg A o){e:bE}{p:QI PV}(h:di (bf A) (λx=>0<x∧x≤A) e):
  ∃e1,dp (dj A os cs++[iD A]) e p=QG (e1,p)∧di (bf A) (λZ=>YB) e1:=by
 refine ag (λe1 k1 k2=> ?_) (vL (p:=p) h (λZ q=>q) (ss:=dj A os cs++[iD A]) λs hs=>by
  rcases mA hs with hs|hs
  ·rcases mC hs with rfl|hs
   ·exact(er 0 _ .A QJ (iv (Th _)) (jV QJ nofun 7 QJ (by decide)) λZ q=>Ro q Rb)
   ·rcases mA hs with hs|hs
    ·obtain⟨i,o,hi,rfl⟩:=mi hs
     have hl:=(gL hi);have hok:=ho o (Rg hi);refine(er _ _ .A QJ (iv (by lia)) hok.1 λi hi=>hok.2 i ?_);have hi:i∈o.rd++[]:=hi;rwa[RD] at hi
    ·obtain⟨i,c,hi,rfl⟩:=mi hs
     have hl:=(gL hi);rw[h2] at hl;refine(er _ _ .B QJ ?_ ⟨QJ,nofun,c,QJ⟩ λZ q=>Ro q Rb);rw[iu];exact rC hl QJ QJ
  ·obtain rfl:=m1 hs
   exact(er _ _ .C QJ (iu A 2) ⟨QJ,(jV QJ nofun 3 QJ (by decide)),QJ,nofun,QR,QJ⟩ λZ q=>Ro q Rb))
 refine(ai e1 k1 λx t Z ht=>k2 x t ?_ ht);have hx:x<A+7:=lx A▸(gL ht)
 by_cases e0:x=0
 ·exact .inr ⟨_,by rw[e0];exact TM _ (QM ..)⟩
 ·by_cases e1:x≤A
  ·exact .inl ⟨Zl e0,e1⟩
  ·by_cases e2:x<A+4
   ·have hi:x-(A+1)<os.length:=Rj (qaT (Nat.lt_of_not_le e1) (by rw[show A+1+3=A+4 from QJ];exact e2)) (Sx (Eq.symm (by assumption:os.length=3)))
    refine .inr ⟨.A os[x-(A+1)],TM _ (QV _ (TM _ (Rg (i:=x-(A+1)) ?_)))⟩;rw[Vd,Rk hi];show QG (ab.A (A+1+(x-(A+1))) _)=_;rw[Uq (by lia)]
   ·by_cases e3:x<A+6
    ·have hi:x-(A+4)<cs.length:=Rj (qaT (qdr e2) (show x<A+4+2 from e3)) (Sx (Eq.symm (by assumption:cs.length=2)))
     refine .inr ⟨.A (.B QO (.D cs[x-(A+4)])),TM _ (QV _ (SF _ (Rg (i:=x-(A+4)) ?_)))⟩;rw[Vd,Rk hi];show QG (ab.A (A+4+(x-(A+4))) _)=_;rw[Uq (by simp_all)]
    ·obtain rfl:x=A+6:=by lia
     exact .inr ⟨_,SF _ (Ti.mpr QJ)⟩
theorem DJ{A:QN}(g:A≤2){ns:QI QN}(d:ns.length=A)(h:∀n∈ns,n<256):di (bf A) (λx=>0<x∧x≤A) (eX ns):=λx t e f=>by
 have m:t=.A:=by
  rw[iv (by lia)] at f;exact(QS f).symm
 subst m
 match ns,d with
 |[],d=>subst d;exact Ro e.2 (qcv.mpr e.1)
 |[a],d=>
  obtain rfl:x=1:=by have:A=1:=d.symm;lia
  exact⟨nV a,QJ,a,QJ,h a (QM ..)⟩
 |[a,b],d=>
  have i:A=2:=d.symm;have:x=1∨x=2:=by lia
  rcases this with rfl|rfl
  ·exact⟨nV a,QJ,a,QJ,h a (QM ..)⟩
  ·exact⟨nV b,QJ,b,QJ,h b (QV _ (QM ..))⟩
 |a::b::c::l,d=>exact Ro (d▸g:(a::b::c::l).length≤2) (by show ¬l.length+3≤2;simp)
theorem oz{ts:QI Ty}{t:Ty}{o:ae}(h:cZ ts t o):∀i∈o.rd,i<ts.length:=λi a=>by
 induction o using ae.casesOn with
 |B b v=>exact Ro a Rb
 |A l=>rw[m1 a];exact(gL h)
 |C l j=>rw[m1 a];exact(Te.mp h.1).1
theorem kf{ts:QI Ty}{t:Ty}{o:ae}(h:cZ ts t o):o.qa:=by
 induction o using ae.casesOn with
 |B b v=>exact kL h.2.2 h.2.1
 |A l=>trivial
 |C l i=>trivial
theorem yr{ts:QI Ty}{t:Ty}{r:Rv}(h:oB ts t r):∀o∈r.qa,∃t,cZ ts t o:=by
 induction r using Rv.casesOn with
 |A a=>exact ee ⟨_,h⟩
 |F a b=>exact ez ⟨_,h.2.1⟩ ⟨_,h.2.2⟩
 |B p a b=>exact ez ⟨_,h.1.1⟩ ⟨_,h.1.2⟩
 |D p a b=>exact ez ⟨_,h.1.1⟩ ⟨_,h.1.2⟩
 |G p a=>exact ee (h.elim (λh=>⟨_,h.1⟩) λh=>⟨_,h.1⟩)
 |C a=>exact ee ⟨_,h.1⟩
theorem yt{ts:QI Ty}{s:ab}(h:eI ts s):s.qa ts.length∧s.qb:=by
 induction s using ab.casesOn with
 |C=>exact⟨Tu,Tu⟩
 |B o=>(revert h;refine ag λt z h=> ?_);exact⟨oz h,kf h⟩
 |A l r=>
  (revert h;refine ag λt d h=> ?_)
  refine⟨⟨(gL d),λi a=> ?_⟩,λo b=> ?_⟩
  ·refine ag (λo b a=> ?_) (Wl.mp a)
   refine oE (λe c=> ?_) (yr h o b);exact oz c i a
  ·refine oE (λe c=> ?_) (yr h o b)
   exact kf c
theorem yu{ts:QI Ty}{N k:QN}{t:Tm}(f:0<ts.length)(h:gQ ts N k t):t.qb ts.length N k∧t.qg:=by
 (revert h;refine bk λa c e=> ?_)
 induction t using Tm.casesOn with
 |A=>exact⟨(aL a (λi g=>by rw[m1 g];exact f) c),Tu⟩
 |B=>exact⟨(aL a (λZ q=>Ro q Rb) c),Tu⟩
 |F b=>exact⟨(aL a (λZ q=>Ro q Rb) c),Tu⟩
 |D o b=>exact⟨(aL a (oz e) c),kf e⟩
 |C o s d=>
  have:∃t,cZ ts t o:=e.elim (λh=>⟨_,h.1⟩) λh=>⟨_,h.1⟩
  (revert this;refine oE λt h=> ?_)
  exact⟨(aL a (oz h) c),kf h⟩
theorem gC{A:QN}{a:QI aE}(h:iW A a):dy (bf A).length a:=λk b c=>
 ⟨λs d=>(yt ((h.2.1 k b c).1 s d)).1,(yu (by rw[lx];exact Th _) (h.2.1 k b c).2).1⟩
theorem FH{A:QN}(k:A≤2){b:QI aE}(h:iW A b){ns:QI QN}(l:ns.length=A)(a:∀n∈ns,n<256):∃r,dX b (b.length+1) 0 (eX ns) []=QG r:=by
 (revert h;refine Ij λz f o m e t i q u v=> ?_;revert z;refine oA λd H=> ?_)
 refine ag (λw x B=> ?_) (Bj (p:=[]) q u v (DJ k l a));refine oA (λC j=> ?_) (f 0 _ i);refine ag (λy D c=> ?_) (qz (p:=[]) B λs E=>C s (SF _ E));refine oE (λr F=> ?_) (Ai (p:=y.2) c j λg G=>zC f b.length g y.1 y.2 c (j.2.1 g G).2);refine⟨r,?_⟩;show(b[0]?).bind _=_;rw[i];show(dp (dj A o m++[iD A]++e) (eX ns) []).bind _=_;rw[DP,x];show(dp e w []).bind _=_;rw[D];exact F
theorem oX{k:Kn}{n:QN}(c:∀q∈k,q.2<n){o:ae}(h:∀i∈o.rd,i<n):∀i∈(cD k o).rd,i<n:=by
 induction o using ae.casesOn with
 |B b v=>exact h
 |C l i=>exact h
 |A l=>
  intro i a;have a:i=(aM k l).getD l:=m1 a;rw[a]
  induction e:aM k l using QQ with
  |none=>exact h l (QM ..)
  |some s=>exact c _ (gg e)
theorem Hv(f:ae→ae)(r:Rv):(r.qb f).qa=r.qa.map f:=by induction r using Rv.casesOn<;>rfl
theorem Hu{k:Kn}{n:QN}(c:∀q∈k,q.2<n){s:ab}(h:s.qa n):(s.qf k).qa n:=by
 induction s using ab.casesOn with
 |C=>trivial
 |B o=>exact oX c h
 |A l r=>
  refine⟨h.1,λi a=> ?_⟩;refine ag (λo d a=> ?_) (Wl.mp (show i∈(r.qb (cD k)).qa.flatMap ae.rd from a));rw[Hv] at d
  (refine ag (λf b e=> ?_) (mM d);subst e)
  exact oX c (λj g=>h.2 j (Wl.mpr (ai f b g))) i a
theorem xG{ts:QI Ty}{n:QN}:∀{ss:QI ab} {k:Kn},(∀q∈k,q.2<n)→(∀s∈ss,s.qa n)→(∀s∈gK ts k ss,s.qa n)∧(gK ts k ss).length=ss.length
 |[],Z,U,Y=>⟨λZ h=>Ro h Rb,QJ⟩
 |s::r,k,b,c=>by
  have d:=c s (QM ..);obtain⟨i,f⟩:=xG (zW b d) λx a=>c x (QV _ a);refine⟨λx a=> ?_,RH (·+1) f⟩
  (refine oO (λe=> ?_) (λa=> ?_) (mC a)<;>try subst e)
  ·exact Hu b d
  ·exact i x a
theorem Hw{k:Kn}{n N j:QN}(a:∀q∈k,q.2<n){t:Tm}(h:t.qb n N j):(t.qf k).qb n N j:=by
 induction t using Tm.casesOn with
 |C o s d=>exact(aL h.1 (oX a h.2.1) h.2.2)
 |D o b=>exact(aL h.1 (oX a h.2.1) h.2.2)
 |A=>exact h
 |B=>exact h
 |F b=>exact h
section
variable{bs:QI aE}{ts:QI Ty}{B:Bg}
theorem nv:(eP ts B bs).length=bs.length:=Uy
theorem vm(I:ft bs ts [] B bs.length)(i:dy ts.length bs){k:QN}{c:aE}(h:(eP ts B bs)[k]?=QG c):∃b,bs[k]?=QG b∧((∀s∈c.1,s.qa ts.length)∧c.1.length=b.1.length)∧c.2.qb ts.length bs.length k:=by
 rw[eP,Vd] at h
 (refine ag (λb d a=> ?_) (mS h);subst a)
 refine oA (λf g=> ?_) (i k b d);refine(ai b d ?_)
 induction e:bH B k using QQ with
 |none=>rw[gd,e];exact⟨⟨f,QJ⟩,g⟩
 |some n=>
  rw[gd,e];have v:=I.1.c e;exact⟨xG v f,Hw (qa v f) g⟩
theorem lW(I:ft bs ts [] B bs.length)(f:dy ts.length bs):dy ts.length (eP ts B bs):=λk c h=>by
 (refine du (λb z a d=> ?_) (vm I f h))
 rw[nv];exact⟨a.1,d⟩
theorem ny(I:ft bs ts [] B bs.length)(f:dy ts.length bs)(w:dO bs):dO (eP ts B bs):=by
 refine⟨by rw[nv];exact w.1,λc h=> ?_⟩;refine oE (λk a=> ?_) (Uu.mp h)
 (refine du (λb d e z=> ?_) (vm I f a))
 rw[e.2];exact w.2 b (Rg d)
theorem qm(w:dO bs):dO (bs.map (dz bs)):=by
 refine⟨by rw[QP];exact w.1,λc h=> ?_⟩
 (refine ag (λb a e=> ?_) (mM h);subst e)
 exact QK (QK (Uv _ _) (oa _ _)) (w.2 b a)
theorem qA{n:QN}(f:dy n bs):∀b∈bs,b.2.qc=true:=λb h=>by
 refine oE (λk a=> ?_) (Uu.mp h);exact(f k b a).2.1
theorem vy{n:QN}(f:dy n bs):∀b∈bs.map (dz bs),b.2.qc=true:=λc h=>by
 (refine ag (λb a e=> ?_) (mM h);subst e)
 exact qA f b a
end
mutual
theorem vI:∀d:D,bY d d=QO
 | .G=>QJ
 | .D b=>by induction b using QL<;>rfl
 | .C i=>by show(i==i)=QO;exact UY i
 | .A c=>by show(c==c)=QO;exact UY c
 | .B l=>qt l
 | .F l=>qt l
theorem qt:∀l:QI D,je l l=QO
 |[]=>QJ
 |d::l=>by show(bY d d&&je l l)=QO;rw[vI d,qt l];rfl
end
theorem tb{v w:PV}{d:D}{σ:af}(h:toD σ 16 v=QG d)(a:toD σ 16 w=QG d):eQ v w σ=QG (QO,σ):=by
 show QX (toD σ 16 v) (λx=>QY _ (toD σ 16 w))=_;rw[h,a];show QG (bY d d,σ)=_;rw[vI]
theorem uo:∀{ps:QI PV},(∀y∈ps,(dV y).isSome=QO)→∃ds,∀σ n,cP (toD σ (n+1)) ps=QG ds
 |[],Z=>⟨[],λZ Z=>QJ⟩
 |y::ps,h=>by
  refine oE (λds a=> ?_) (uo λz b=>h z (QV _ b));refine oE (λd c=> ?_) (Tx.mp (h y (QM ..)));refine⟨d::ds,λσ n=> ?_⟩;show QX (toD σ (n+1) y) (λx=>QY _ (cP (toD σ (n+1)) ps))=_;rw[jS c,a]
  rfl
theorem Km{v w:PV}{r:fJ}{σ:af}(k:jN σ v r)(l:jN σ w r):∃d,toD σ 16 v=QG d∧toD σ 16 w=QG d:=by
 induction r using QQ with
 |none=>
  rw[show v=.G from k,show w=.G from l];exact(ai .G QJ QJ)
 |some x=>
  (revert k;refine ag λq e c=> ?_;subst e;revert c;refine bk λm z n=> ?_;revert z;refine oE λp t=> ?_)
  (revert l;refine ag λC f g=> ?_;subst f;revert g;refine bk λu i j=> ?_)
  refine oE (λy s=> ?_) (uo n)
  have o:∀{q:QN},σ[q]?=QG (.A x.2)→toD σ 16 (.F [x.1,.B q])=QG (.B [p,.F y]):=λ{q} h=>by
   show QY _ (QX (toD σ 15 x.1) λa=>QY _ (QX (QX σ[q]? _) λb=>QY _ (QG [])))=_;rw[t,h];show QY _ (QY _ (QX (QY D.F (cP (toD σ 14) x.2)) _))=_;rw[s]
   rfl
  exact(ai _ (o m) (o u))
theorem jN.a{σ σ':af}{v:PV}{r:fJ}(h:jN σ v r)(l:Le σ σ'):jN σ' v r:=by
 induction r using QQ with
 |none=>exact h
 |some x=>
  (revert h;refine du λq b c d=> ?_)
  exact(bz q b (l _ _ c) d)
theorem KI{r:Rv}(h:∀o∈r.qa,o.qa):∃d,∀σ n,toD σ (n+8) r.v=QG d:=by
 refine have f:∀{o:ae},o.qa→∃d,∀σ n,toD σ (n+5) o.v=QG d:=λh=>(ip h).elim λd h=>⟨d,λσ n=>(h σ n).1⟩;?_
 induction r using Rv.casesOn with
 |A a=>
  refine oE (λc e=> ?_) (f (h a (QM ..)));exact⟨.B [.A 38,c],λσ n=>by show QY _ (QX (QG (D.A 38)) λx=>QY _ (QX (toD σ (n+7) a.v) λx=>QY _ (QG [])))=_;rw[e σ (n+2)];rfl⟩
 |G p a=>
  refine oE (λc e=> ?_) (f (h a (QM ..)));exact⟨.B [.A 100,.A p,c],λσ n=>by show QY _ (QX (QG (D.A 100)) λx=>QY _ (QX (QG (D.A p)) λx=>QY _ (QX (toD σ (n+7) a.v) λx=>QY _ (QG []))))=_;rw[e σ (n+2)];rfl⟩
 |C a=>
  refine oE (λc e=> ?_) (f (h a (QM ..)));exact⟨.B [.A 47,c,.B [.A 32,.A 27]],λσ n=>by show QY _ (QX (QG (D.A 47)) λx=>QY _ (QX (toD σ (n+7) a.v) λx=>QY _ (QX (QG (D.B [.A 32,.A 27])) λx=>QY _ (QG []))))=_;rw[e σ (n+2)];rfl⟩
 |F a b=>
  refine oE (λc e=> ?_) (f (h a (QM ..)));refine oE (λg i=> ?_) (f (h b (QV _ (QM ..))));exact⟨.B [.A 99,.B [c,g]],λσ n=>by show QY _ (QX (QG (D.A 99)) λx=>QY _ (QX (QY _ (QX (toD σ (n+6) a.v) λx=>QY _ (QX (toD σ (n+6) b.v) λx=>QY _ (QG [])))) λx=>QY _ (QG [])))=_;rw[e σ (n+1),i σ (n+1)];rfl⟩
 |B p a b=>
  refine oE (λc e=> ?_) (f (h a (QM ..)));refine oE (λg i=> ?_) (f (h b (QV _ (QM ..))));exact⟨.B [.A 109,.A p,c,g],λσ n=>by show QY _ (QX (QG (D.A 109)) λx=>QY _ (QX (QG (D.A p)) λx=>QY _ (QX (toD σ (n+7) a.v) λx=>QY _ (QX (toD σ (n+7) b.v) λx=>QY _ (QG [])))))=_;rw[e σ (n+2),i σ (n+2)];rfl⟩
 |D p a b=>
  refine oE (λc e=> ?_) (f (h a (QM ..)));refine oE (λg i=> ?_) (f (h b (QV _ (QM ..))));exact⟨.B [.A 129,.A p,c,g],λσ n=>by show QY _ (QX (QG (D.A 129)) λx=>QY _ (QX (QG (D.A p)) λx=>QY _ (QX (toD σ (n+7) a.v) λx=>QY _ (QX (toD σ (n+7) b.v) λx=>QY _ (QG [])))))=_;rw[e σ (n+2),i σ (n+2)];rfl⟩
noncomputable def gS:QI ab:=[.A 2 (.A (.A 1)),.B (.A 2),.A 1 (.A (.B QR (.A 5))),.B (.A 2),.A 0 (.A (.A 2))]
noncomputable def gT:QI ab:=[.A 2 (.A (.A 1)),.B (.A 1),.A 1 (.A (.B QR (.A 5))),.B (.A 2),.A 0 (.A (.A 2))]
noncomputable def kR:QI Ty:=[.A,.A,.A]
theorem EZ:∀s∈gS,s.qa 3:=by
 have b:∀i∈(ae.A 1).rd,i<3:=ee (by decide);have h:∀i∈(ae.A 2).rd,i<3:=ee (by decide);intro s a;simp only[gS,SI,Rb,Ys] at a;rcases a with rfl|rfl|rfl|rfl|rfl
 ·exact⟨by decide,ee (by decide)⟩
 ·exact h
 ·exact⟨by decide,λZ q=>Ro q Rb⟩
 ·exact h
 ·exact⟨by decide,ee (by decide)⟩
theorem Fm{B:Bg}(I:ft [(gS,Tm.A)] kR [] B 1):eP kR B [(gS,Tm.A)]=[(gT,Tm.A)]:=by
 show [gd kR B 0 (gS,Tm.A)]=_;rw[gd,I.1.2.2.1]
 kernel_rfl
theorem De(d:QN)(σ:af):aa (aB (d+7) 452 []) σ λv Z=>v=.D true:=by
 refine bx (pf:=sq) (κ:=[]) (by kernel_rfl) (by kernel_rfl) λK hK=>.d (Ev.a (v:=dk) (by kernel_rfl) (.l (Ev.a (v:=.F [(ae.A 1).v,(ae.A 2).v]) (by kernel_rfl) (.mk (a:=[(ae.A 1).v,(ae.A 2).v]) (σ':=σ) (by kernel_rfl) ⟨QJ,?_⟩))));refine .d (.u (g:=.B 82) (by kernel_rfl) (.d (Ev.a (v:=.C 16) (by kernel_rfl) (.d (Ev.a (v:=.A (1:QN)) (by kernel_rfl) (.d (.t ((aJ.a (l:=[cu .A]) (by kernel_rfl)).g λv X g=>Ev.a (v:=.A 3) (by kernel_rfl) ?_))))))))
 (revert g;refine ag λp H n1=> ?_;subst H)
 show aa (M.a (bZ (.B p)) λl=>M.a (M.b (3:RW)) λj=>.c (Rc (0≤j∧j≤100∧l.length=1)) (cR (SQ j.toNat l).flatten)) X _;refine .h (.p n1.2.2 (.h (.i (.l QJ (.n (l:=kR.map cu) (lB QJ) λrt a7 n2=>.j (uP (d+5) n2.2.2 (lB QJ) λq rl rb rs a8 l3 fq fb e1 e2 e3 e4=> ?_))))));refine .d (Ev.a (v:=(ab.A 1 (.A (.B QR (.A 5)))).v) (by kernel_rfl) (.d ((aJ.a (l:=(gS.take 4).map ab.v) (by kernel_rfl)).g λv a9 g=> ?_)))
 (revert g;refine ag λs I z=> ?_;subst I)
 refine .k (.J (n:=rb) (Ev.f (n:=q) (by kernel_rfl) (z.1 _ _ e1) (by kernel_rfl)) (z.1 _ _ e3) (.y (.d (.t (Ev.a (v:=.B s) (by kernel_rfl) ((aJ.a (l:=[(ab.A 0 (.A (.A 2))).v]) (by kernel_rfl)).g λv Y g=> ?_))))))
 (revert g;refine ag λr1 L n5=> ?_;subst L)
 show aa (M.a (bZ (.B s)) λx=>M.a (bZ (.B r1)) λy=>cR (x++y)) Y _;refine .h (.p (n5.1 _ _ z.2.2) (.h (.p n5.2.2 (.n (l:=gS.map ab.v) (lB QJ) λa0 b0 n6=>.d (Ev.a (v:=Tm.A.v) (by kernel_rfl) (.j (.n (lB QJ) λa1 S n7=> ?_)))))));have m:=(n5.1.a n6.1).a n7.1;have b7:=m _ _ (z.1 _ _ e3);refine(bz ([]) b7 (by decide) λN c8 e8=> ?_);have k8:∀{j:QN} {o:AO},S[j]?=QG o→(∀l,o≠.A l)→N[j]?=QG o:=λ{j o} h ho=>c8 _ _ (λe=>ho [] (by rw[e,b7] at h;exact(QS h).symm)) h;have w:∀{j:QN} {a:PV} {l:QI PV},S[j]?=QG (.A (a::l))→N[j]?=QG (.A (a::l)):=λ{j a l} h=>c8 _ _ (λe=>by rw[e,b7] at h;exact nomatch h) h;have hb:aZ N q 1 (kR.map cu) [(gS,Tm.A)]:=⟨_,rl,rb,rs,k8 (m _ _ (z.1 _ _ e1)) nofun,w (m _ _ (z.1 _ _ e2)),k8 (m _ _ (z.1 _ _ e4)) nofun,[(a1,a0,(gS,Tm.A))],e8,ee ⟨w n7.2.2,w (n7.1 _ _ n6.2.2)⟩,QJ⟩
 have T:dy kR.length [(gS,Tm.A)]:=λk b hk=>by
  induction k using Uo with
  |zero=>obtain rfl:=QS hk;exact(cq EZ QJ (ee (by decide)) λZ q=>Ro q Rb)
  |succ k=>exact aI hk
 refine .d (.k (a:=333) (by kernel_rfl) (.d (Ev.a (v:=.B q) (by kernel_rfl) (.j ((qj (d+1) hb ⟨by decide,ee (by decide)⟩ (by decide) (by decide) T).g λv b1 g=> ?_)))))
 (revert g;refine iO λl9 q9 B O P=> ?_;subst O;revert P;refine oA λhI U=> ?_)
 rw[Fm hI] at U;refine dw (λb2 vs hv a2 a5 V=> ?_) (U.b);refine cm (λi j hi a3 hj=> ?_) (V (n:=0) QJ);have E:=l9 _ _ (w (m _ _ z.2.2));refine .f (aa.g (RB.a (Q:=λb Z=>b=QO) (Ev.a (v:=.B j) (Ev.g (k:=0) (x:=.A 0) (Ev.g (k:=0) (x:=.A 0) (hv (Le.b _) (by kernel_rfl)) (by kernel_rfl) a2 (by kernel_rfl) hi) (by kernel_rfl) a3 (by kernel_rfl) QJ) ?_)) λv σ'=>ag λb e h=>hK _ _ _ (e.trans (by rw[h])))
 refine aa.g (aJ.f (l:=(gT.take 4).map ab.v) (l':=[(ab.A 0 (.A (.A 2))).v]) (aJ.f (l:=(gT.take 2).map ab.v) (l':=(gS.take 4).map ab.v|>.drop 2) (aJ.h (cz.a (Ev.g (k:=0) (x:=.A 0) (n:=s) (by kernel_rfl) (by kernel_rfl) E (by kernel_rfl) QJ) (cz.a (by kernel_rfl) .d)) (lB QJ))
  (λσ' l'=>.qo (n:=s) (k:=2) (by kernel_rfl) (by kernel_rfl) (l' _ _ E) (lB QJ) λr a6 n=>(ai r QJ n)) (lB QJ)) (λZ Z=>aJ.a (by kernel_rfl)) (lB QJ)) λv G g=> ?_
 (revert g;refine ag λa4 R W=> ?_;subst R)
 refine .mk (tb (d:=.F ((cP (toD [] 15) (gT.map ab.v)).getD [])) ?_ ?_) QJ
 ·show QX G[j]? _=_
  rw[W.1 _ _ hj]
  kernel_rfl
 ·show QX G[a4]? _=_
  rw[W.2.2]
  kernel_rfl
theorem Lz{s:ab}(h:s.qb):∃d,∀σ n,toD σ (n+9) s.v=QG d:=by
 induction s using ab.casesOn with
 |C=>exact⟨_,λZ Z=>QJ⟩
 |B o=>
  refine oE (λd a=> ?_) (ip h);exact⟨.B [.A 95,d],λσ n=>by show QY _ (QX (QG (D.A 95)) λx=>QY _ (QX (toD σ (n+8) o.v) λx=>QY _ (QG [])))=_;rw[(a σ (n+3)).1];rfl⟩
 |A l r=>
  refine oE (λd a=> ?_) (KI h);exact⟨.B [.A 105,.B [.C l,.B []],d],λσ n=>by show QY _ (QX (QG (D.A 105)) λx=>QY _ (QX (QG (D.B [.C l,.B []])) λx=>QY _ (QX (toD σ (n+8) r.v) λx=>QY _ (QG []))))=_;rw[a σ n];rfl⟩
theorem LU{ts:QI Ty}{N k:QN}{t:Tm}(h:gQ ts N k t):∃d,∀σ n,toD σ (n+9) t.v=QG d:=by
 refine have f:=h.2.2;?_
 induction t using Tm.casesOn with
 |A=>exact⟨_,λZ Z=>QJ⟩
 |B=>exact⟨_,λZ Z=>QJ⟩
 |F b=>exact⟨_,λZ Z=>QJ⟩
 |D o b=>
  refine oE (λd e=> ?_) (ip (kf f));exact⟨.B [.A 104,d,.D QR,.A 151,.C b],λσ n=>by show QY _ (QX (QG (D.A 104)) λx=>QY _ (QX (toD σ (n+8) o.v) λx=>QY _ (QG [D.D QR,.A 151,.C b])))=_;rw[(e σ (n+3)).1];rfl⟩
 |C o s b=>
  rcases f with⟨a,c,rfl⟩|⟨a,c,g,rfl⟩
  ·obtain⟨d,e⟩:=ip (kf a)
   exact⟨.B [.A 125,d,.B [.B [.D QR,.C c]],.C b],λσ n=>by show QY _ (QX (QG (D.A 125)) λx=>QY _ (QX (toD σ (n+8) o.v) λx=>QY _ (QG [D.B [.B [.D QR,.C c]],.C b])))=_;rw[(e σ (n+3)).1];rfl⟩
  ·obtain⟨d,e⟩:=ip (kf a)
   exact⟨.B [.A 125,d,.B [.B [.C 0,.C c],.B [.C 255,.C g]],.C b],λσ n=>by show QY _ (QX (QG (D.A 125)) λx=>QY _ (QX (toD σ (n+8) o.v) λx=>QY _ (QG [D.B [.B [.C 0,.C c],.B [.C 255,.C g]],.C b])))=_;rw[(e σ (n+3)).1];rfl⟩
theorem zZ:∀{ss:QI ab},(∀s∈ss,s.qb)→∃ds,∀σ n,cP (toD σ (n+9)) (ss.map ab.v)=QG ds
 |[],Z=>⟨[],λZ Z=>QJ⟩
 |s::ss,h=>by
  refine oE (λd b=> ?_) (Lz (h s (QM ..)));refine oE (λds a=> ?_) (zZ λx c=>h x (QV _ c));exact⟨d::ds,λσ n=>by show QX (toD σ (n+9) s.v) (λx=>QY _ (cP (toD σ (n+9)) (ss.map ab.v)))=_;rw[b,a];rfl⟩
theorem By{ts:QI Ty}{N k:QN}{b:aE}(a:∀s∈b.1,s.qb)(c:gQ ts N k b.2):∃d,∀(σ:af) (p:Bp),cB σ p→p.2.2=b→toD σ 15 (.B p.1)=QG d:=by
 refine oE (λf h=> ?_) (zZ a);refine oE (λg t=> ?_) (LU c);refine⟨.F [.F f,g],λσ p i e=> ?_⟩
 (revert i;refine oA λj l=> ?_)
 show QX σ[p.1]? _=_;rw[j];show QY _ (QX (QX σ[p.2.1]? _) λx=>QY _ (QX (toD σ 14 p.2.2.2.v) λx=>QY _ (QG [])))=_;rw[l,e];show QY _ (QX (QY D.F (cP (toD σ 13) (b.1.map ab.v))) λx=>QY _ (QX (toD σ 14 b.2.v) λx=>QY _ (QG [])))=_;rw[h,t]
 rfl
theorem uO{ts:QI Ty}{N:QN}(σ:af):∀(bs:QI aE) (k:QN) (ps a:QI Bp),(∀(i:QN) (b:aE),bs[i]?=QG b→(∀s∈b.1,s.qb)∧gQ ts N (k+i) b.2)→ps.map (·.2.2)=bs→a.map (·.2.2)=bs→(∀p∈ps,cB σ p)→(∀p∈a,cB σ p)→∃ds,cP (toD σ 15) (ps.map bN)=QG ds∧cP (toD σ 15) (a.map bN)=QG ds
 |[],Z,ps,a,U,c,e,Y,O=>by
  rw[qbS.mp c,qbS.mp e];exact(ai ([]) QJ QJ)
 |b::bs,k,ps,a,h,c,e,g,j=>by
  induction ps using Rm with
  |nil=>exact nomatch c
  |cons p ps=>induction a using Rm with
   |nil=>exact nomatch e
   |cons q a=>
    have c:=VE c;have e:=VE e;refine oE (λd l=> ?_) (By (h 0 b QJ).1 (h 0 b QJ).2)
    refine ag (λds m n=> ?_) (uO σ bs (k+1) ps a (λi o r=>by
     have:=h (i+1) o r
     rwa[←TQ,RO] at this) c.2 e.2 (λx f=>g x (QV _ f)) (λx f=>j x (QV _ f)))
    refine(ai (d::ds) ?_ ?_)
    ·show QX (toD σ 15 (.B p.1)) (λx=>QY _ (cP (toD σ 15) (ps.map bN)))=_
     rw[l σ p (g p (QM ..)) c.1,m]
     rfl
    ·show QX (toD σ 15 (.B q.1)) (λx=>QY _ (cP (toD σ 15) (a.map bN)))=_
     rw[l σ q (j q (QM ..)) e.1,n]
     rfl
def dF(σ:af)(q A:QN)(bs:QI aE):Prop:=∃s,aZ σ q A ((bf A).map cu) s∧dO s∧(∀b∈s,b.2.qc=QO)∧s.length=bs.length∧∀n r,dX bs (bs.length+1) 0 (eX n) []=QG r→dX s (bs.length+1) 0 (eX n) []=QG r
theorem dF.a{σ σ':af}{q A:QN}{bs:QI aE}(h:dF σ q A bs)(l:Le σ σ'):dF σ' q A bs:=h.elim λs h=>(ai s (h.1.a l) h.2)
theorem dF.b{σ σ':af}{q A s:QN}{bs:QI aE}(h:dF σ q A bs)(a:bX σ s)(l:Ch s σ σ'):dF σ' q A bs:=h.elim λd h=>(ai d (h.1.c a l) h.2)
theorem um(m:QN)(e:bE):lE m e e:=λZ Z=>QJ
section
variable{A:QN}{bs:QI aE}(hA:A≤2)(hg:iW A bs)
include hg
theorem KD{σ:af}{q:QN}(b:aZ σ q A ((bf A).map cu) bs):dF σ q A bs:=(iJ bs b hg.1.1 (qA (gC hg)) QJ λZ Z h=>h)
theorem KA{σ:af}{q:QN}(b:aZ σ q A ((bf A).map cu) (bs.map (dz bs))):dF σ q A bs:=
 (iJ _ b (qm hg.1.1) (vy (gC hg)) (QP _) λZ Z h=>sX (gC hg) _ 0 _ _ _ _ (um _ _) h)
theorem Kz{σ:af}{q:QN}{B:Bg}(I:ft bs (bf A) [] B bs.length)(b:aZ σ q A ((bf A).map cu) (eP (bf A) B bs)):dF σ q A bs:=
 (iJ _ b (ny I (gC hg) hg.1.1) (qA (lW I (gC hg))) nv λs r h=>by rw[sY I _ 0 [] _ _ I.1.2.2.1 (λZ Z q=>aI q)];exact h)
theorem Ky{σ:af}{q:QN}{B:Bg}(I:ft bs (bf A) [] B bs.length)(b:aZ σ q A ((bf A).map cu) ((eP (bf A) B bs).map (dz (eP (bf A) B bs)))):dF σ q A bs:=
 (iJ _ b (qm (ny I (gC hg) hg.1.1)) (vy (lW I (gC hg))) (by rw[QP,nv]) λs r h=>by
  refine sX (lW I (gC hg)) _ 0 _ _ _ _ (um _ _) ?_;rw[sY I _ 0 [] _ _ I.1.2.2.1 (λZ Z q=>aI q)]
  exact h)
end
theorem AR(d:QN){σ:af}{q o A t:QN}{bs:QI aE}{ns:QI QN}{r:fJ}{κ:ay}{e:PE}(h:dF σ q A bs)(m:dF σ o A bs)(p:σ[t]?=QG (.A (aS ns)))(s:ns.length≤9)(u:dX bs (bs.length+1) 0 (eX ns) []=QG r)
  (E:Ev (aB (d+4)) e κ σ (.B q)) (I:∀σ,Ev (aB (d+4)) (.A 43) κ σ (.B o)) (i:∀σ,Ev (aB (d+4)) (.A 75) κ σ (.B t)):RB (aB (d+4)) (.H .C (.F (.D 137) [e,.A 75]) (.F (.D 137) [.A 43,.A 75])) κ σ λb σ'=>b=QR∧Le σ σ':=by
 (revert h;refine jw λY J K L M N=> ?_)
 (revert m;refine jw λO P Q R S T=> ?_)
 refine .a (.k QJ (.d (E.a (.d ((i σ).a (.j ((zA d J K L p s (M.symm▸N ns r u)).g λv l g=> ?_)))))))
 (revert g;refine oA λh n=> ?_)
 refine .k QJ (.d ((I l).a (.d ((i l).a (.j ((zA d (P.a h) Q R (h _ _ p) s (S.symm▸T ns r u)).g λw c g=> ?_))))))
 (revert g;refine oA λm U=> ?_)
 refine ag (λZ V W=> ?_) (Km (n.a m) U);have y:=tb V W
 have X:oo v w c=QG (QR,c):=by
  induction r using QQ with
  |none=>
   obtain rfl:v=.G:=n;show QX (eQ _ w c) _=_;rw[y];rfl
  |some x=>
   (revert n;refine ag λq f z=> ?_;subst f)
   show QX (eQ _ w c) _=_;rw[y];rfl
 exact .mk X ⟨QJ,h.a m⟩
theorem Kr(d:QN){κ:ay}{σ:af}{s A:QN}{Q:PV→af→Prop}(J:bX σ s)(y:A≤2)(L:Ev (aB (d+2)) (.A 148) κ σ (.A A))(z:∀v σ,Ev (aB (d+2)) (.A 124) ((89,v)::κ) σ (.B s))
  (q:∀(r:QN) (ns:QI QN) σ',Dr s σ σ'→σ'[r]?=QG (.A (aS ns))→ns.length=A→(∀n∈ns,n<256)→Q (.B r) σ'):
  aa (ak (aB (d+2)) (.N [89] (.F (.D 96) [.A 148]) (.B (.D QO)) (.F (.D 136) [.A 124,.I [.B (.A 0),.B (.A 1),.B (.A 99),.B (.A 128),.B (.A 255)]])) κ) σ Q:=by
 refine .K (.N L (⟨RN (by decide) (Rx _),Sz.mpr (QK y (by decide))⟩) (.q (gV (QK y (Sq _ _))) ⟨.inl QJ,?_⟩));have G:(RE A).length≤aR:=by rw[RC];exact bT (QK y (Sq _ _))
 refine aa.qh _ (RE A) (λH c σ'=>Dr s σ σ'∧∃ns,c=aS ns∧ns.length+H.length=A∧∀n∈ns,n<256) G (cW ⟨λZ Z Z e=>e,J⟩ ([]) QJ ((SG _).trans (RC)) λZ h=>Ro h Rb) (λZ Z Z Z=>QJ) (λx H c σ' g=>.i ?_) λc σ' p g=> ?_
 ·(revert g;refine cc λw ns f j=> ?_;subst f;revert j;refine oA λC E=> ?_)
  refine .U (vs:=aS [0,1,99,128,255]) (z _ _) w.2 (λZ=>by kernel_rfl) (lB QJ) (lB QJ) λv t z M=> ?_
  (refine ag (λn p l=> ?_) (mM M);subst l)
  have p:n<256:=(by decide:∀n∈[0,1,99,128,255],n<256) n p;refine(cW (w.a z) (ns++[n]) (by rw[aS,aS,Sg];rfl) (by rw[QW,TF,TQ,UN 1];exact C) λk u=> ?_)
  (refine oO (λu=> ?_) (λu=> ?_) (mA u))
  ·exact E k u
  ·exact m1 u▸p
 ·(revert g;refine cc λw ns m o=> ?_;subst m;revert o;refine oA λC E=> ?_)
  exact .n (QK p G) λr t n=>q r ns t (w.b n.1) n.2.2 C E
theorem rh{m:QN}{s:ab}:∀{ss:QI ab},s∈dK m ss→s∈ss
 |[],h=>h
 |x::ss,h=>by
  rw[ik] at h
  induction e:dW (bu m ss) x using QL with
  |true=>rw[e] at h;exact QV _ (rh h)
  |false=>
   rw[e] at h
   (refine oO (λa=> ?_) (λh=> ?_) (mC h)<;>try subst a)
   ·exact QM ..
   ·exact QV _ (rh h)
theorem wJ{A:QN}{bs:QI aE}(h:iW A bs)(i:QN)(b:aE)(a:bs[i]?=QG b):(∀s∈b.1,s.qb)∧gQ (bf A) bs.length i b.2:=⟨λs c=>(yt ((h.2.1 i b a).1 s c)).2,(h.2.1 i b a).2⟩
theorem Dx{A:QN}{bs:QI aE}(h:iW A bs)(i:QN)(b:aE)(a:(bs.map (dz bs))[i]?=QG b):(∀s∈b.1,s.qb)∧gQ (bf A) bs.length (0+i) b.2:=by
 rw[Rn] at a
 (refine ag (λc d e=> ?_) (mS a);subst e)
 have:=wJ h i c d;rw[SG];exact⟨λs f=>this.1 s (rh (Uc.mp f).1),this.2⟩
theorem FG{A:QN}{bs:QI aE}(h:iW A bs):lH (bf A).length bs:=(aL h.1.1.1 (λb c=>by
  refine oE (λk a=> ?_) (Uu.mp c);have d:=wJ h k b a
  exact(aL d.1 ((yu (by rw[lx];exact Th _) d.2).2) (h.1.1.2 b c))) λk b a=>(gC h k b a).2)
theorem HM{σ:af}{i j:QN}{ps a:QI Bp}{ds:QI D}(b:σ[i]?=QG (.A (ps.map bN)))(c:σ[j]?=QG (.A (a.map bN)))(d:cP (toD σ 15) (ps.map bN)=QG ds)(f:cP (toD σ 15) (a.map bN)=QG ds):oo (.B i) (.B j) σ=QG (QR,σ):=by
 have:∀{i:QN} {ps:QI Bp},σ[i]?=QG (.A (ps.map bN))→cP (toD σ 15) (ps.map bN)=QG ds→toD σ 16 (.B i)=QG (.F ds):=λ{i ps} h e=>by
  show QX σ[i]? _=_;rw[h];show QY D.F (cP (toD σ 15) (ps.map bN))=_;rw[e]
  rfl
 show QX (eQ _ _ σ) _=_;rw[tb (this b d) (this c f)]
 rfl
def fE(σ:af)(s A r q q1 q2 q3:QN)(bs:QI aE):Prop:=bX σ s∧σ[r]?=QG (.A [.B q1,.B q2,.B q3])∧aZ σ q A ((bf A).map cu) bs∧aZ σ q2 A ((bf A).map cu) (bs.map (dz bs))∧dF σ q1 A bs∧dF σ q3 A bs
theorem fE.a{σ σ':af}{s A r q q1 q2 q3:QN}{bs:QI aE}(h:fE σ s A r q q1 q2 q3 bs)(g:Dr s σ σ'):fE σ' s A r q q1 q2 q3 bs:=
 ⟨g.2,g.1 _ _ (jE h.1 h.2.1 nofun) h.2.1,h.2.2.1.c h.1 g.1,h.2.2.2.1.c h.1 g.1,h.2.2.2.2.1.b h.1 g.1,h.2.2.2.2.2.b h.1 g.1⟩
theorem fE.b{σ σ':af}{s A r q q1 q2 q3:QN}{bs:QI aE}(h:fE σ s A r q q1 q2 q3 bs)(g:Le σ σ'):fE σ' s A r q q1 q2 q3 bs:=
 ⟨h.1.a g,g _ _ h.2.1,h.2.2.1.a g,h.2.2.2.1.a g,h.2.2.2.2.1.a g,h.2.2.2.2.2.a g⟩
noncomputable abbrev rf(s A r q:QN):ay:=[(72,.B r),(43,.B q),(148,.A A),(124,.B s)]
section
variable{σ:af}{s A r q q1 q2 q3:QN}{bs:QI aE}(hg:iW A bs)
include hg
theorem Mj(K:A≤2){Q:RG→af→Prop}{w t:QN}{ns:QI QN}(h:fE σ s A r q q1 q2 q3 bs)(L:σ[w]?=QG (.A (aS ns)))(M:ns.length=A)(o:∀n∈ns,n<256)(O:∀σ',Le σ σ'→Q QR σ'):
  RB (aB 60) (.H .C (.N [35] (.A 72) (.H .C (.F (.D 137) [.A 35,.A 75]) (.F (.D 137) [.A 43,.A 75])) (.A 35)) (.I [])) ((75,.B w)::(76,.A t)::rf s A r q) σ Q:=by
 refine oE (λP R=> ?_) (FH K hg M o);refine .p (.qi (λ(q:QN)=>.B q) [q1,q2,q3] QJ h.2.1 (lB QJ) (λE c σ'=>Le σ σ'∧c=[]∧∀x∈E,dF σ x A bs) (aL (Le.b σ) QJ λx u=> ?_) (λZ Z Z h=>h.1) (λx E c σ' g=>.i ?_) λc σ' i G g n=> ?_)
 ·(refine oO (λe=> ?_) (λu=> ?_) (mC u)<;>try subst e)
  ·exact h.2.2.2.2.1
  ·(refine oO (λd=> ?_) (λu=> ?_) (mC u)<;>try subst d)
   ·exact KA hg h.2.2.2.1
   ·exact m1 u▸h.2.2.2.2.2
 ·(revert g;refine bk λm f J=> ?_;subst f)
  refine(AR 56 ((J x (QM ..)).a m) ((KD hg h.2.2.1).a m) (m _ _ L) (by lia) R QJ (λZ=>by kernel_rfl) λZ=>by kernel_rfl).n λb S g=> ?_
  (revert g;refine oA λj l=> ?_;subst j)
  exact(aL (m.a l) QJ λy T=>J y (QV _ T))
 ·(revert g;refine bk λm k z=> ?_;subst k)
  exact(cX i ([]) QJ n.2.2 λv l=>O v ((m.a n.1).a l))
theorem KW{Q:RG→af→Prop}(h:fE σ s A r q q1 q2 q3 bs)(G:∀σ',Q QR σ'):
  RB (aB 60) (.H .C (.N [161,163] (.K (.C (.A 72) (.B (.A 1))) 110) (.B (.D QO)) (.I [.F (.D 60) [.A 161],.A 163])) (.F (.D 141) [.A 43])) (rf s A r q) σ Q:=by
 (revert h;refine eu λl J M z m=> ?_;revert z;refine gP λnm rl rb rs O n o P R S x=> ?_)
 refine .a (qk (Ev.f (Ev.g QJ QJ J QJ QJ) O QJ) R S (x▸qm hg.1.1) λrq t T U V W X Y g4 g5=> ?_);have h4:=hg.1.1.1;have L:=GI ((43-bs.length)+10) (GJ (bf A).length (bs.map (dz bs))) (M.a U) hg.1.1 hg.1.2 (FG hg) ⟨gC hg,QJ⟩;rw[show bs.length+(43-bs.length+10+6)+1=60 from AV (by assumption)] at L;refine .k QJ (.d (Ev.a QJ (.j (L.g λv u g=> ?_))))
 (revert g;refine iO λy Z w e b=> ?_;subst e;revert b;refine bk λc i st=> ?_;revert c;refine oA λb1 b2=> ?_;revert i;refine oA λp1 E=> ?_)
 rw[Lq p1 st] at E;refine ag (λds e1 e2=> ?_) (uO u _ 0 t w (Dx hg) (Y.trans x) E (λp hp=>(X p hp).1.a y) b2);exact .mk (HM (y _ _ W) b1 e1 e2) (G _)
end
theorem Gx{σ:af}{s:QN}(hs:bX σ s){Q:Fl→ay→af→Prop}(hQ:∀κ σ,Q (.B (.D QO)) κ σ):RS (aB 60) (ll.Qu.drop 1) [(124,.B s)] σ Q:=by
 refine .d (.P QJ QJ hs (by decide) (by decide) λA a2 h1 h=> ?_);have h:A≤2:=SM h;refine .d (.k QJ (.d (Ev.a QJ (.d (Ev.a QJ (.j ((CU 55 h1.2 h).g λv a3 g=> ?_)))))))
 (revert g;refine iO λh2 q bs c m=> ?_;subst c;revert m;refine oA λH hg=> ?_)
 have t:=gC hg;have K:(bf A).length≤9:=by rw[lx];exact RR h _
 have L:((bf A).map cu).length=(bf A).length:=QP _;refine .d (.y (.d (.k QJ (.d (Ev.a QJ (.j ((qj 55 H hg.1.1 hg.1.2 K t).g λv a4 g=> ?_)))))))
 (revert g;refine iO λM q1 B o p=> ?_;subst o;revert p;refine oA λR T=> ?_)
 have a0:=lW R t;have a1:=ny R t hg.1.1;refine .d (.k QJ (.d (Ev.a QJ (.j ((vw 54 (H.a M) (zi _) (L▸K) hg.1.1 (L.symm▸t) (QK h (Sq _ _))).g λv a5 g=> ?_)))))
 (revert g;refine cc λO q2 u U=> ?_;subst u)
 refine .d (.k QJ (.d (.k QJ (.d (Ev.a QJ (.j ((qj 55 ((H.a M).a O) hg.1.1 hg.1.2 K t).g λv a6 g=> ?_)))))))
 (revert g;refine iO λl5 q4 B' w z=> ?_;subst w;revert z;refine oA λI V=> ?_)
 refine .j ((vw 54 V (zi _) (L▸K) (ny I t hg.1.1) (L.symm▸lW I t) (QK h (Sq _ _))).g λv a7 g=> ?_)
 (revert g;refine cc λl6 q3 C W=> ?_;subst C)
 refine .j (.n (lB QJ) λr X Y=> ?_);have l:=(l5.a l6).a Y.1;have F:fE X s A r q q1 q2 q3 bs:=⟨h2.2.a ((M.a O).a l),Y.2.2,H.a ((M.a O).a l),U.a l,Kz hg R (T.a (O.a l)),Ky hg I (W.a Y.1)⟩;refine .i (.N QJ (by decide) (.q (gV (by decide)) ?_));refine RF.a _ (RE 3) (λZ:UE=>rf s A r q) (λys Z S=>fE S s A r q q1 q2 q3 bs) () QJ (ar.g _) F (λZ Z Z Z=>QJ) (λx ys Z S F J hJ Z=>.i ?_) λZ S F=> ?_
 ·refine .d (Kr 58 F.1 h QJ (λZ Z=>by kernel_rfl) λrt ns a8 h8 ht hn E=>.j (Mj hg h (F.a h8) ht hn E λG l9=>.a (.a (.a (hJ () _ _ (.r QJ) ((F.a h8).b l9))))))
 ·refine .j (KW hg F λG=>.a (.a (.f (.k QJ (.j ((De 53 G).g λv S e=> ?_))))))
  rw[e];exact hQ _ _
theorem law_ev:pS:=λx y c d a=>by
 obtain⟨⟨⟨l,b⟩,t⟩,h,f,-,e⟩:=Gx (σ:=[.A [],.A [.A x,.A y,.B 0]]) (s:=1) ⟨x,y,0,QJ,QJ,c,d,a,QJ⟩ (Q:=λl Z Z=>l=.B (.D QO)) (λZ Z=>QJ) _ (ar.g _);obtain rfl:l=_:=e;exact(kU b t h)
end Mine
end
theorem PySem.Challenge.cw_nz0128_01_holds : PySem.Challenge.rw_nz0128_01.Holds :=
  Mine.fin Mine.law_ev Mine.fs_all
