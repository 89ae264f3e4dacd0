import PyProof.Rows.All
import Wide.All
import OpenK.AllK
import Wide.FinOn
import PyProof.CompFree
import PyProof.CompUse
import PyProof.InstStoreFacts
import Lean
import PySem.Challenge.RW_nm0152_01
set_option Elab.async false
set_option bootstrap.genMatcherCode false
set_option compiler.extract_closed false
set_option genSizeOf false
set_option genInjectivity false
set_option backward.match.sparseCases false
set_option maxRecDepth 100000
set_option linter.all false
local macro_rules | `(tactic| left)=>`(tactic| first | with_reducible first | exact Nat.le_refl _ | exact Nat.le_add_right _ _ | exact Nat.le_add_left _ _ | exact Int.le_refl _ | (simp +arith only [Nat.reduceDiv,Nat.sub_zero];done))
open Option.some renaming inj→PG
open Nat renaming le_trans→PH,le_refl→PK,le_antisymm→PN,le_add_right_of_le→PZ,casesOn→P0,zero_le→P4,le_succ→P5,add_le_add_right→P7,le_add_right→P8,max_le→Qb,lt_succ_self→Qf,succ_le_succ→Qs,le_of_ble_eq_true→QA,le_max_right→QH,le_max_left→QK,le_of_eq→QQ,add_right_comm→QU,le_add_left→QX,le_succ_of_le→Q0,lt_irrefl→Q4,add_comm→Rr,add_le_add_left→RZ,succ_ne_self→R5,sub_le→Sr,add_le_add→Sw,mul_add→Sy,sub_le_sub_right→SA,mul_le_mul_left→SK,lt_of_le_of_lt→SV,lt_of_lt_of_le→SW,add_sub_cancel→SX,lt_add_of_pos_right→S9,ne_of_lt→Te,le_of_succ_le→Tn,min_le_right→Ts,sub_sub_self→Tw,add_assoc→Tz,min_eq_left→TG,ne_of_gt→TO,sub_self→TP,zero_add→TQ,sub_add_cancel→TY,min_eq_right→Ut,not_lt→UQ,sub_zero→UR,le_of_lt→UX,succ_pos→UY,two_pos→Vl,add_sub_cancel'→Vu,lt_succ_of_le→Wa
open List renaming casesOn→PI,mem_cons→PJ,mem_singleton→PL,length_append→PS,append_assoc→PX,mem_append→P1,not_mem_nil→P6,length_map→Qc,append_nil→Qg,replicate→Qi,getElem?_eq_getElem→Ql,reverse_cons→Qn,size_toArray→Qo,getElem?_eq_none→Qp,length_reverse→Qv,reverse_reverse→Qx,cons_append→Qz,eq_nil_or_concat→QB,filterMap_cons→QC,getElem?_map→QE,contains_cons→QG,eq_nil_of_length_eq_zero→QI,getElem?_eq_some_iff→QJ,tail_drop→QL,lookup_cons→QN,reverse_append→QO,mem_append_left→QW,length_cons→QY,all_eq_true→QZ,drop_left→Q6,map_append→Q8,head?_drop→Q9,getElem?_append_right→Rj,nil_append→Rk,length→Rl,mem_append_right→Rp,drop_drop→Rv,toList_toArray→Ry,take_of_length_le→RD,length_drop→RH,contains_iff_mem→RO,getElem?_eq_none_iff→RP,map_cons→RX,length_set→Sb,forIn_cons→Sd,getElem?_set→Sn,drop_zero→Ss,mem_map→SH,cons_ne_nil→SI,length_pos_iff→SN,concat_eq_append→Tr,length_take→Tv,any_cons→TA,mem_of_getElem?→TB,replicate_succ→TL,take_left→T4,getElem?_append_left→T8,set_comm→Un,any_eq_true→Uu,getElem?_replicate→UA,mem_singleton_self→UD,drop_length→UE,take_length→UG,range→UM,drop_of_length_le→UZ,nodup_cons→U0,length_nil→U1,getElem?_set_ne→Vm,map_drop→VC,map_take→VD,mem_filterMap→VF,any_map→V2,map_map→V9,map_nil→Wb,take_reverse→Wc,eraseDupsBy→Wm,drop_take→WQ,eraseDups→WT,set_set→Xd
open PySem renaming Shared→PM,Expr→PO,wpAny→P2,Str→Qd,Heap→Qk,Around→QP,Scope→Rb,World→Rf,wpAny_truthy_bool→Ri,FuncData→Rn,Program→Rq,wpAny_execs_cons→RM,wpAny_execs_nil→RQ,slot_list_setitem→RT,PyData→RW,plainObj_wpAny_Assign_Attribute→RY,sizeLine→R0,cellsFrom→R6,starEach→Sa,assignInOrder→Sg,codeAny→Sl,wpAny_assign_Name→So,Stmt→Sp,Params→Sq,DictEntry→SD,compareOp→SG,wpAny_getItem_list_slice→SR,wpAny_callSpecial?_slot→S7,wpAny_newObj_type→Ta,slot_list_getitem→Td,wpAny_loadPart→Tf,wpAny_Assign_Name→Th,NameKind→Tj,Model→To,wpAny_isTrue_Compare1→Tp,Stmt→TS,builtinsNs→TU,wpAny_Constant_int→TV,CmpOp→T9,wpAny_field→Ua,keywordEach→Uc,wpAny_sequenceKey→Ue,backTo→Uj,methodCallPos→Um,noFill_tuple_add→Us,callWith→Uv,wpAny_call_entry→Uw,wpAny_listSubscript_int→Ux,bindName→Uz,checkBuiltinCall→UC,concat_meets→UJ,typeOf→UL,codeAny_mono→UN,aRefKeyMayBeTheName_at→UO,wpAny_Assign_Subscript→UT,assignEach→UU,wpAny_storeName_local→U3,Operator→U5,wpAny_loadName_local→U6,binaryOp→U7,wpAny_Compare1→U8,wpAny_Slice→U9,Result→Vb,wpAny_of_eq→Vc,recursionLimit→Vd,wpAny_listPart→Vf,wpAny_seqItems→Vg,compEnvC→Vh,codeAny_call_builtin→Vk,BindsTo→Vn,callEnv→Vo,ExceptHandler→Vr,Env→Vs,wpAt_of_wpAny→Vw,seq_tuple_add→Vx,CmpOp→Vy,evalPart_none→Vz,Comprehension→VA,wpAny_Call_Name_kw→VN,wpAny_setSeqItemAt→VR,closureFor→VU,isInstance→VV,Reads→VZ,backToKw→V1,wpAny_pyIter_list→V3,wpAny_Return_some→V4,wpAny_pyIter_enum→V5,bindArgs→Wd,IsPart→Wi,rawInt→Wk,swapsWith→Wl,getMethod→Wn,Const→Wt,wpAt_bind→WD,InCallC→WK,GenState→WM,pyNext→WU,isExcClass→WV,bindL→W5,Sem→Xa,Flow→Xg,bindC→Xh
open PySem.Str renaming ofString→PR,ofString→R7
open Bool renaming casesOn→PU,and_eq_true→Qy,false_eq_true→QF,and_eq_true_iff→QV,and_assoc→Ru,not_eq_true→RJ,or_eq_false_iff→Su,eq_iff_iff→SU,and_false→Tg,true_and→Tx,or_eq_true→TH,not_true→Uo,and_true→Up,false_ne_true→VP,not_eq_false'→VS,not_eq_true'→V6,and_comm→W0,or_assoc→W2
open PySem.Expr renaming casesOn→PW
open PySem.Heap renaming get?_push_of_some→PY,lt_size→Qw,get?_push_size→QD,SameBut→Q7,get?_update_self→Ro,get?_update_other→RE,size_push→Ve,FlyingW→W8
open Array renaming length_toList→P9,getElem?_toList→Sk,toList_append→SM,getElem?_eq_none_iff→TZ,getElem?_eq_getElem→T7,size_append→Ub,size_extract→VQ,toList_push→V0,any_toList→Wj
open Option renaming map_eq_some_iff→Qa,bind_eq_some_iff→Qh,map_some→Qj,isSome_iff_exists→Qt,bind_some→QM,bind→Uh,map→WX
open Int renaming natCast_nonneg→Qe,fmod→Rh,ofNat_lt→RF,natCast_pos→Se,toNat_natCast→Sm,fdiv_eq_ediv_of_nonneg→Sx,toNat_of_nonneg→SO,max_eq_right→Tt,le_of_not_le→Tu,fmod_eq_emod_of_nonneg→TX,emod_eq_of_lt→Ug,fdiv→Uq,eq_ofNat_of_zero_le→Uy,ofNat_sub→VE,not_lt→VJ,toNat_le_toNat→VO,lt_of_le_of_lt→VY,le_trans→V8,ofNat→Wo,ediv_le_self→Wq,min_eq_left→Wx,max_eq_left→Wy,ediv_nonneg→WG,le_antisymm→WH
open PySem.W.Fast renaming te14364793385576792824→Qq,te10110043849684766642→QR,te17119622794617984870→RG,te8326940854005059898→T6
open Ne renaming symm→Qu
open PySem.PyData renaming keyHash→QS,eqvAll→Rz,eqv→SJ,eqv→TR,tuple→VX,depthAll→Ww
open PySem.Calls renaming Name_function_global→QT,spliced_cons→Rc,evalArgs_plain→Rt,spliced_nil→Rw,callWith_builtin→RA,loadGlobal_global→RR,loadGlobal_builtin→VL
open PyProof.Rows renaming IsTup→Q3,assignInOrder_cons→Rd,subscriptTail→Sf,assignInOrder_nil→Ti,bindName_→Vp,slot_tuple_getitem→VH,Subscript_→VI,assign_Tuple_tuple→VT
open List.cons renaming inj→Q5
open PySem.Challenge renaming rw_nm0152_01→Ra
open PySem.NameKind renaming free→Rg,cell→WZ,casesOn→Xc
open PySem.F renaming excBase_Exception→Rm,args_tuple_add_2→SQ,entry_tuple_add→SY,slot_tuple_add→Tb,slot_list_extend→Uk,slot_list_pop→U2
open PySem.Env renaming kindOf→Rx
open PySem.Builtin.List renaming listSubscript?→RC,listTooLong→Ul,listItems→US
open PySem.W.WData renaming int→RN,tuple→Xj
open PySem.W renaming looks_subIn→RU,looks_pair→R9,dictOf→Si,findIn→Sj,Looks→Sv,looks_clsIn→Ud,hasDictIn→Ur,subIn→UB,piecesOf→UH,TopRead→UI,looks_findIn→UP,segRunT→Vq,keepIn→VG,specialIn→We,plainOver→Wf,typeIn→Wg,namesMeet→Wr,callWith_of→Wu,hideAll_get→Wv,codeIn→WN,codeRec_of→WS,clsIn→W6,takerIn→W7,looseW→Xe,mg_of→Xf
open PySem.Heap.IsSliceOf renaming new→R8
open PySem.Value renaming casesOn→SP,type→UW
open Int.ofNat renaming inj→SS
open PySem.Builtin.Range renaming rangeSize→S8
open PySem.UnaryOp renaming casesOn→Tq
open PySem.W.Looks renaming ld→TF,of_pure→VB,of_peek→W4
open PySem.Heap.SameBut renaming update→TJ
open PySem.Const renaming casesOn→TK
open PySem.swappedStores renaming match_8→TN,match_5→WJ
open PySem.Stmt renaming casesOn→T1
open PySem.Data renaming casesOn→T5
open Function renaming comp_def→Ui
open PySem.Operator renaming casesOn→UK
open List.eraseDupsBy renaming loop→U4
open PySem.AutoSeq1 renaming list_extend_list_list_0→Va
open PySem.BoolOp renaming casesOn→Vi
open PySem.Around renaming frames_deeper→Vj
open PySem.CmpOp renaming casesOn→Vt
open PySem.Heap.FunFrames renaming cons→Vv
open PySem.Obj renaming mapSeq→VK
open PySem.Flow renaming casesOn→VM
open PySem.Code renaming quiet_builtin→VW
open PySem.callAny renaming viaDunder→V7
open PySem.AutoIntOps renaming pow_4→Wh
open PySem.W.OpenLaw renaming wellSaid→Ws
open PySem.MeetsSeq renaming list_pop_last→Wz
open ForInStep renaming yield→WA
open PySem.Bind renaming staticBase→WB,checkArgs→WW
open PySem.Manifest renaming isStub→WE
open Eq renaming symm→WL
open Except renaming casesOn→WR
open Prod.mk renaming injEq→WY,inj→Xi
open PySem.BindsTo renaming of_eq→W3
open PySem.SeqAt renaming shaped→W9
open Prod renaming casesOn→Xb
open PySem.W.WShape renaming has→Xk
set_option autoImplicit true
open PySem PySem.W PySem.Calls PyProof.Rows
namespace Nm.Internal
section
theorem nZ{a b:Nat}(e:a<=b:=by left):a<=b:=e
theorem nA{a b x y:Nat}(h:x<=y)(e:a+y<=b+x:=by left):a<=b:=by omega
theorem nK(k:Nat)(h:x<=y)(e:a+k * y<=b+k * x:=by left):a<=b:=by
 have:=SK k h;omega
theorem nQ{a b x y:Nat}(h:x=y)(e:a+y<=b+x:=by left):a<=b:=by omega
theorem nR{a b x y:Nat}(h:x=y)(e:a+x<=b+y:=by left):a<=b:=by omega
theorem Oy(k:Nat)(h:x=y)(e:a+k * y<=b+k * x:=by left):a<=b:=nK k (QQ h) e
theorem PF(k:Nat)(h:x=y)(e:a+k * x<=b+k * y:=by left):a<=b:=nK k (QQ h.symm) e
theorem nN(h:¬ x<=y)(e:a+x<=b+(y+1):=by left):a<=b:=by omega
theorem nF(h:1<=0):False:=by omega
theorem nS(a b:Nat):a<=a - b+b:=by omega
theorem nT(a b:Nat)(h:b<=a):a - b+b<=a:=by omega
theorem iZ{a b:Int}(e:a<=b:=by left):a<=b:=e
theorem iA{a b x y:Int}(h:x<=y)(e:a+y<=b+x:=by left):a<=b:=by omega
theorem iK(k:Nat){a b x y:Int}(h:x<=y)(e:a+k * y<=b+k * x:=by left):a<=b:=by
 have:=Int.mul_le_mul_of_nonneg_left h (Qe k);omega
theorem iQ{a b x y:Int}(h:x=y)(e:a+y<=b+x:=by left):a<=b:=by omega
theorem iR{a b x y:Int}(h:x=y)(e:a+x<=b+y:=by left):a<=b:=by omega
theorem PD(k:Nat){a b x y:Int}(h:x=y)(e:a+k * y<=b+k * x:=by left):a<=b:=iK k (Int.le_of_eq h) e
theorem PE(k:Nat){a b x y:Int}(h:x=y)(e:a+k * x<=b+k * y:=by left):a<=b:=iK k (Int.le_of_eq h.symm) e
theorem iN{a b x y:Int}(h:¬ x<=y)(e:a+x<=b+(y+1):=by left):a<=b:=by omega
theorem iF(h:(1:Int)<=0):False:=by omega
theorem bf{α:Type}{x:α}{G:Prop}(h:none=some x):G:=nomatch h
theorem b8{α:Type}{x:α}{G:Prop}(h:some x=none):G:=nomatch h
theorem cy{G:Prop}(h:false=true):G:=nomatch h
theorem ax(h:(a && b)=true):a=true/\b=true:=by induction a using PU<;>induction b using PU<;>first |exact⟨rfl,rfl⟩ |exact cy h
theorem ec(h:(!a)=true):a=false:=by induction a using PU<;>first |rfl |exact cy h
theorem jr{G:Prop}(h:true=false):G:=nomatch h
theorem LY[Decidable c](h:(if c then some a else none)=some b):c/\a=b:=by
 by_cases q:c
 ·rw[if_pos q] at h;exact⟨q,PG h⟩
 ·rw[if_neg q] at h;cases h
theorem eJ{α β:Type}{o:Option α}{f:α->Option β}{b:β}{G:Prop}(h:o.bind f=some b)(k:∀a,o=some a->f a=some b->G):G:=by
 cases o with
 |none=>cases h
 |some a=>exact k a rfl h
theorem tc{α β:Type}{o:Option α}{f:α->β}{b:β}{G:Prop}(h:o.map f=some b)(k:∀a,o=some a->f a=b->G):G:=by
 cases o with
 |none=>cases h
 |some a=>exact k a rfl (PG h)
theorem xA{p0 p1 G:Prop}(h:p0/\p1)(k:p0->p1->G):G:=k h.1 h.2
theorem kr{p0 p1 p2 G:Prop}(h:p0/\p1/\p2)(k:p0->p1->p2->G):G:=k h.1 h.2.1 h.2.2
theorem q7{p0 p1 p2 p3 G:Prop}(h:p0/\p1/\p2/\p3)(k:p0->p1->p2->p3->G):G:=k h.1 h.2.1 h.2.2.1 h.2.2.2
theorem Hz{p0 p1 p2 p3 p4 G:Prop}(h:p0/\p1/\p2/\p3/\p4)(k:p0->p1->p2->p3->p4->G):G:=k h.1 h.2.1 h.2.2.1 h.2.2.2.1 h.2.2.2.2
theorem K4{p0 p1 p2 p3 p4 p5:Prop}{t6:Sort _}{p7:t6->Prop}{G:Prop}(h:p0/\p1/\p2/\p3/\p4/\p5/\(∃a6,p7 a6))(k:p0->p1->p2->p3->p4->p5->∀a6,p7 a6->G):G:=h.2.2.2.2.2.2.elim λa6 z6=>k h.1 h.2.1 h.2.2.1 h.2.2.2.1 h.2.2.2.2.1 h.2.2.2.2.2.1 a6 z6
theorem nY{p0 p1 p2:Prop}{t3 t4 t5 t6 t7 t8 t9:Sort _}{p10 p11 p12 p13:t3->t4->t5->t6->t7->t8->t9->Prop}{G:Prop}(h:p0/\p1/\p2/\(∃a3,∃a4,∃a5,∃a6,∃a7,∃a8,∃a9,p10 a3 a4 a5 a6 a7 a8 a9/\p11 a3 a4 a5 a6 a7 a8 a9/\p12 a3 a4 a5 a6 a7 a8 a9/\p13 a3 a4 a5 a6 a7 a8 a9))(k:p0->p1->p2->∀a3,∀a4,∀a5,∀a6,∀a7,∀a8,∀a9,p10 a3 a4 a5 a6 a7 a8 a9->p11 a3 a4 a5 a6 a7 a8 a9->p12 a3 a4 a5 a6 a7 a8 a9->p13 a3 a4 a5 a6 a7 a8 a9->G):G:=h.2.2.2.elim λa3 z3=>z3.elim λa4 z4=>z4.elim λa5 z5=>z5.elim λa6 z6=>z6.elim λa7 z7=>z7.elim λa8 z8=>z8.elim λa9 z9=>k h.1 h.2.1 h.2.2.1 a3 a4 a5 a6 a7 a8 a9 z9.1 z9.2.1 z9.2.2.1 z9.2.2.2
theorem Lm{p0 p1:Prop}{t2:Sort _}{p3 p4:t2->Prop}{G:Prop}(h:p0/\p1/\(∃a2,p3 a2/\p4 a2))(k:p0->p1->∀a2,p3 a2->p4 a2->G):G:=h.2.2.elim λa2 z2=>k h.1 h.2.1 a2 z2.1 z2.2
theorem dV{p0 p1:Prop}{t2:Sort _}{p3 p4:t2->Prop}{t5 t6 t7 t8 t9 t10 t11:Sort _}{p12 p13 p14 p15:t2->t5->t6->t7->t8->t9->t10->t11->Prop}{G:Prop}(h:p0/\p1/\(∃a2,p3 a2/\p4 a2/\(∃a5,∃a6,∃a7,∃a8,∃a9,∃a10,∃a11,p12 a2 a5 a6 a7 a8 a9 a10 a11/\p13 a2 a5 a6 a7 a8 a9 a10 a11/\p14 a2 a5 a6 a7 a8 a9 a10 a11/\p15 a2 a5 a6 a7 a8 a9 a10 a11)))(k:p0->p1->∀a2,p3 a2->p4 a2->∀a5,∀a6,∀a7,∀a8,∀a9,∀a10,∀a11,p12 a2 a5 a6 a7 a8 a9 a10 a11->p13 a2 a5 a6 a7 a8 a9 a10 a11->p14 a2 a5 a6 a7 a8 a9 a10 a11->p15 a2 a5 a6 a7 a8 a9 a10 a11->G):G:=h.2.2.elim λa2 z2=>z2.2.2.elim λa5 z5=>z5.elim λa6 z6=>z6.elim λa7 z7=>z7.elim λa8 z8=>z8.elim λa9 z9=>z9.elim λa10 z10=>z10.elim λa11 z11=>k h.1 h.2.1 a2 z2.1 z2.2.1 a5 a6 a7 a8 a9 a10 a11 z11.1 z11.2.1 z11.2.2.1 z11.2.2.2
theorem jQ{p0 p1:Prop}{t2 t3:Sort _}{p4 p5 p6 p7:t2->t3->Prop}{G:Prop}(h:p0/\p1/\(∃a2,∃a3,p4 a2 a3/\p5 a2 a3/\p6 a2 a3/\p7 a2 a3))(k:p0->p1->∀a2,∀a3,p4 a2 a3->p5 a2 a3->p6 a2 a3->p7 a2 a3->G):G:=h.2.2.elim λa2 z2=>z2.elim λa3 z3=>k h.1 h.2.1 a2 a3 z3.1 z3.2.1 z3.2.2.1 z3.2.2.2
theorem Cf{p0 p1:Prop}{t2 t3 t4:Sort _}{p5 p6 p7:t2->t3->t4->Prop}{G:Prop}(h:p0/\p1/\(∃a2,∃a3,∃a4,p5 a2 a3 a4/\p6 a2 a3 a4/\p7 a2 a3 a4))(k:p0->p1->∀a2,∀a3,∀a4,p5 a2 a3 a4->p6 a2 a3 a4->p7 a2 a3 a4->G):G:=h.2.2.elim λa2 z2=>z2.elim λa3 z3=>z3.elim λa4 z4=>k h.1 h.2.1 a2 a3 a4 z4.1 z4.2.1 z4.2.2
theorem fN{p0 p1:Prop}{t2 t3 t4 t5 t6 t7 t8:Sort _}{p9 p10 p11 p12:t2->t3->t4->t5->t6->t7->t8->Prop}{G:Prop}(h:p0/\p1/\(∃a2,∃a3,∃a4,∃a5,∃a6,∃a7,∃a8,p9 a2 a3 a4 a5 a6 a7 a8/\p10 a2 a3 a4 a5 a6 a7 a8/\p11 a2 a3 a4 a5 a6 a7 a8/\p12 a2 a3 a4 a5 a6 a7 a8))(k:p0->p1->∀a2,∀a3,∀a4,∀a5,∀a6,∀a7,∀a8,p9 a2 a3 a4 a5 a6 a7 a8->p10 a2 a3 a4 a5 a6 a7 a8->p11 a2 a3 a4 a5 a6 a7 a8->p12 a2 a3 a4 a5 a6 a7 a8->G):G:=h.2.2.elim λa2 z2=>z2.elim λa3 z3=>z3.elim λa4 z4=>z4.elim λa5 z5=>z5.elim λa6 z6=>z6.elim λa7 z7=>z7.elim λa8 z8=>k h.1 h.2.1 a2 a3 a4 a5 a6 a7 a8 z8.1 z8.2.1 z8.2.2.1 z8.2.2.2
theorem NS{p0:Prop}{t1:Sort _}{p2:t1->Prop}{G:Prop}(h:p0/\(∃a1,p2 a1))(k:p0->∀a1,p2 a1->G):G:=h.2.elim λa1 z1=>k h.1 a1 z1
theorem xC{p0:Prop}{t1:Sort _}{p2 p3:t1->Prop}{G:Prop}(h:p0/\(∃a1,p2 a1/\p3 a1))(k:p0->∀a1,p2 a1->p3 a1->G):G:=h.2.elim λa1 z1=>k h.1 a1 z1.1 z1.2
theorem JZ{p0:Prop}{t1 t2:Sort _}{p3 p4 p5:t1->t2->Prop}{G:Prop}(h:p0/\(∃a1,∃a2,p3 a1 a2/\p4 a1 a2/\p5 a1 a2))(k:p0->∀a1,∀a2,p3 a1 a2->p4 a1 a2->p5 a1 a2->G):G:=h.2.elim λa1 z1=>z1.elim λa2 z2=>k h.1 a1 a2 z2.1 z2.2.1 z2.2.2
theorem xE{t0:Sort _}{p1:t0->Prop}{G:Prop}(h:∃a0,p1 a0)(k:∀a0,p1 a0->G):G:=h.elim λa0 z0=>k a0 z0
theorem aT{t0:Sort _}{p1 p2:t0->Prop}{G:Prop}(h:∃a0,p1 a0/\p2 a0)(k:∀a0,p1 a0->p2 a0->G):G:=h.elim λa0 z0=>k a0 z0.1 z0.2
theorem j8{t0:Sort _}{p1 p2 p3:t0->Prop}{G:Prop}(h:∃a0,p1 a0/\p2 a0/\p3 a0)(k:∀a0,p1 a0->p2 a0->p3 a0->G):G:=h.elim λa0 z0=>k a0 z0.1 z0.2.1 z0.2.2
theorem BK{t0:Sort _}{p1 p2 p3 p4:t0->Prop}{G:Prop}(h:∃a0,p1 a0/\p2 a0/\p3 a0/\p4 a0)(k:∀a0,p1 a0->p2 a0->p3 a0->p4 a0->G):G:=h.elim λa0 z0=>k a0 z0.1 z0.2.1 z0.2.2.1 z0.2.2.2
theorem N2{t0:Sort _}{p1 p2 p3 p4 p5:t0->Prop}{G:Prop}(h:∃a0,p1 a0/\p2 a0/\p3 a0/\p4 a0/\p5 a0)(k:∀a0,p1 a0->p2 a0->p3 a0->p4 a0->p5 a0->G):G:=h.elim λa0 z0=>k a0 z0.1 z0.2.1 z0.2.2.1 z0.2.2.2.1 z0.2.2.2.2
theorem qc{t0:Sort _}{p1 p2:t0->Prop}{t3:Sort _}{p4:t0->t3->Prop}{G:Prop}(h:∃a0,p1 a0/\p2 a0/\(∃a3,p4 a0 a3))(k:∀a0,p1 a0->p2 a0->∀a3,p4 a0 a3->G):G:=h.elim λa0 z0=>z0.2.2.elim λa3 z3=>k a0 z0.1 z0.2.1 a3 z3
theorem vY{t0 t1:Sort _}{p2:t0->t1->Prop}{G:Prop}(h:∃a0,∃a1,p2 a0 a1)(k:∀a0,∀a1,p2 a0 a1->G):G:=h.elim λa0 z0=>z0.elim λa1 z1=>k a0 a1 z1
theorem sd{t0 t1:Sort _}{p2 p3:t0->t1->Prop}{G:Prop}(h:∃a0,∃a1,p2 a0 a1/\p3 a0 a1)(k:∀a0,∀a1,p2 a0 a1->p3 a0 a1->G):G:=h.elim λa0 z0=>z0.elim λa1 z1=>k a0 a1 z1.1 z1.2
theorem cI{t0 t1:Sort _}{p2 p3 p4:t0->t1->Prop}{G:Prop}(h:∃a0,∃a1,p2 a0 a1/\p3 a0 a1/\p4 a0 a1)(k:∀a0,∀a1,p2 a0 a1->p3 a0 a1->p4 a0 a1->G):G:=h.elim λa0 z0=>z0.elim λa1 z1=>k a0 a1 z1.1 z1.2.1 z1.2.2
theorem aX{t0 t1:Sort _}{p2 p3 p4 p5:t0->t1->Prop}{G:Prop}(h:∃a0,∃a1,p2 a0 a1/\p3 a0 a1/\p4 a0 a1/\p5 a0 a1)(k:∀a0,∀a1,p2 a0 a1->p3 a0 a1->p4 a0 a1->p5 a0 a1->G):G:=h.elim λa0 z0=>z0.elim λa1 z1=>k a0 a1 z1.1 z1.2.1 z1.2.2.1 z1.2.2.2
theorem cA{t0 t1:Sort _}{p2 p3 p4 p5 p6:t0->t1->Prop}{G:Prop}(h:∃a0,∃a1,p2 a0 a1/\p3 a0 a1/\p4 a0 a1/\p5 a0 a1/\p6 a0 a1)(k:∀a0,∀a1,p2 a0 a1->p3 a0 a1->p4 a0 a1->p5 a0 a1->p6 a0 a1->G):G:=h.elim λa0 z0=>z0.elim λa1 z1=>k a0 a1 z1.1 z1.2.1 z1.2.2.1 z1.2.2.2.1 z1.2.2.2.2
theorem pM{t0 t1:Sort _}{p2 p3 p4 p5:t0->t1->Prop}{t6:Sort _}{p7 p8:t0->t1->t6->Prop}{G:Prop}(h:∃a0,∃a1,p2 a0 a1/\p3 a0 a1/\p4 a0 a1/\p5 a0 a1/\(∃a6,p7 a0 a1 a6/\p8 a0 a1 a6))(k:∀a0,∀a1,p2 a0 a1->p3 a0 a1->p4 a0 a1->p5 a0 a1->∀a6,p7 a0 a1 a6->p8 a0 a1 a6->G):G:=h.elim λa0 z0=>z0.elim λa1 z1=>z1.2.2.2.2.elim λa6 z6=>k a0 a1 z1.1 z1.2.1 z1.2.2.1 z1.2.2.2.1 a6 z6.1 z6.2
theorem og{t0 t1 t2:Sort _}{p3:t0->t1->t2->Prop}{G:Prop}(h:∃a0,∃a1,∃a2,p3 a0 a1 a2)(k:∀a0,∀a1,∀a2,p3 a0 a1 a2->G):G:=h.elim λa0 z0=>z0.elim λa1 z1=>z1.elim λa2 z2=>k a0 a1 a2 z2
theorem cY{t0 t1 t2:Sort _}{p3 p4:t0->t1->t2->Prop}{G:Prop}(h:∃a0,∃a1,∃a2,p3 a0 a1 a2/\p4 a0 a1 a2)(k:∀a0,∀a1,∀a2,p3 a0 a1 a2->p4 a0 a1 a2->G):G:=h.elim λa0 z0=>z0.elim λa1 z1=>z1.elim λa2 z2=>k a0 a1 a2 z2.1 z2.2
theorem nu{t0 t1 t2:Sort _}{p3 p4 p5:t0->t1->t2->Prop}{G:Prop}(h:∃a0,∃a1,∃a2,p3 a0 a1 a2/\p4 a0 a1 a2/\p5 a0 a1 a2)(k:∀a0,∀a1,∀a2,p3 a0 a1 a2->p4 a0 a1 a2->p5 a0 a1 a2->G):G:=h.elim λa0 z0=>z0.elim λa1 z1=>z1.elim λa2 z2=>k a0 a1 a2 z2.1 z2.2.1 z2.2.2
theorem rV{t0 t1 t2:Sort _}{p3 p4 p5 p6:t0->t1->t2->Prop}{G:Prop}(h:∃a0,∃a1,∃a2,p3 a0 a1 a2/\p4 a0 a1 a2/\p5 a0 a1 a2/\p6 a0 a1 a2)(k:∀a0,∀a1,∀a2,p3 a0 a1 a2->p4 a0 a1 a2->p5 a0 a1 a2->p6 a0 a1 a2->G):G:=h.elim λa0 z0=>z0.elim λa1 z1=>z1.elim λa2 z2=>k a0 a1 a2 z2.1 z2.2.1 z2.2.2.1 z2.2.2.2
theorem b6{t0 t1 t2:Sort _}{p3 p4 p5 p6 p7 p8:t0->t1->t2->Prop}{G:Prop}(h:∃a0,∃a1,∃a2,p3 a0 a1 a2/\p4 a0 a1 a2/\p5 a0 a1 a2/\p6 a0 a1 a2/\p7 a0 a1 a2/\p8 a0 a1 a2)(k:∀a0,∀a1,∀a2,p3 a0 a1 a2->p4 a0 a1 a2->p5 a0 a1 a2->p6 a0 a1 a2->p7 a0 a1 a2->p8 a0 a1 a2->G):G:=h.elim λa0 z0=>z0.elim λa1 z1=>z1.elim λa2 z2=>k a0 a1 a2 z2.1 z2.2.1 z2.2.2.1 z2.2.2.2.1 z2.2.2.2.2.1 z2.2.2.2.2.2
theorem f9{t0 t1 t2 t3:Sort _}{p4:t0->t1->t2->t3->Prop}{G:Prop}(h:∃a0,∃a1,∃a2,∃a3,p4 a0 a1 a2 a3)(k:∀a0,∀a1,∀a2,∀a3,p4 a0 a1 a2 a3->G):G:=h.elim λa0 z0=>z0.elim λa1 z1=>z1.elim λa2 z2=>z2.elim λa3 z3=>k a0 a1 a2 a3 z3
theorem IS{t0 t1 t2 t3:Sort _}{p4 p5:t0->t1->t2->t3->Prop}{G:Prop}(h:∃a0,∃a1,∃a2,∃a3,p4 a0 a1 a2 a3/\p5 a0 a1 a2 a3)(k:∀a0,∀a1,∀a2,∀a3,p4 a0 a1 a2 a3->p5 a0 a1 a2 a3->G):G:=h.elim λa0 z0=>z0.elim λa1 z1=>z1.elim λa2 z2=>z2.elim λa3 z3=>k a0 a1 a2 a3 z3.1 z3.2
theorem aQ{t0 t1 t2 t3:Sort _}{p4 p5 p6 p7 p8:t0->t1->t2->t3->Prop}{G:Prop}(h:∃a0,∃a1,∃a2,∃a3,p4 a0 a1 a2 a3/\p5 a0 a1 a2 a3/\p6 a0 a1 a2 a3/\p7 a0 a1 a2 a3/\p8 a0 a1 a2 a3)(k:∀a0,∀a1,∀a2,∀a3,p4 a0 a1 a2 a3->p5 a0 a1 a2 a3->p6 a0 a1 a2 a3->p7 a0 a1 a2 a3->p8 a0 a1 a2 a3->G):G:=h.elim λa0 z0=>z0.elim λa1 z1=>z1.elim λa2 z2=>z2.elim λa3 z3=>k a0 a1 a2 a3 z3.1 z3.2.1 z3.2.2.1 z3.2.2.2.1 z3.2.2.2.2
theorem cM{t0 t1 t2 t3:Sort _}{p4 p5 p6 p7 p8 p9 p10:t0->t1->t2->t3->Prop}{G:Prop}(h:∃a0,∃a1,∃a2,∃a3,p4 a0 a1 a2 a3/\p5 a0 a1 a2 a3/\p6 a0 a1 a2 a3/\p7 a0 a1 a2 a3/\p8 a0 a1 a2 a3/\p9 a0 a1 a2 a3/\p10 a0 a1 a2 a3)(k:∀a0,∀a1,∀a2,∀a3,p4 a0 a1 a2 a3->p5 a0 a1 a2 a3->p6 a0 a1 a2 a3->p7 a0 a1 a2 a3->p8 a0 a1 a2 a3->p9 a0 a1 a2 a3->p10 a0 a1 a2 a3->G):G:=h.elim λa0 z0=>z0.elim λa1 z1=>z1.elim λa2 z2=>z2.elim λa3 z3=>k a0 a1 a2 a3 z3.1 z3.2.1 z3.2.2.1 z3.2.2.2.1 z3.2.2.2.2.1 z3.2.2.2.2.2.1 z3.2.2.2.2.2.2
theorem AK{t0 t1 t2 t3 t4:Sort _}{p5 p6 p7 p8:t0->t1->t2->t3->t4->Prop}{G:Prop}(h:∃a0,∃a1,∃a2,∃a3,∃a4,p5 a0 a1 a2 a3 a4/\p6 a0 a1 a2 a3 a4/\p7 a0 a1 a2 a3 a4/\p8 a0 a1 a2 a3 a4)(k:∀a0,∀a1,∀a2,∀a3,∀a4,p5 a0 a1 a2 a3 a4->p6 a0 a1 a2 a3 a4->p7 a0 a1 a2 a3 a4->p8 a0 a1 a2 a3 a4->G):G:=h.elim λa0 z0=>z0.elim λa1 z1=>z1.elim λa2 z2=>z2.elim λa3 z3=>z3.elim λa4 z4=>k a0 a1 a2 a3 a4 z4.1 z4.2.1 z4.2.2.1 z4.2.2.2
theorem cN{t0 t1 t2 t3 t4:Sort _}{p5 p6 p7 p8 p9 p10:t0->t1->t2->t3->t4->Prop}{G:Prop}(h:∃a0,∃a1,∃a2,∃a3,∃a4,p5 a0 a1 a2 a3 a4/\p6 a0 a1 a2 a3 a4/\p7 a0 a1 a2 a3 a4/\p8 a0 a1 a2 a3 a4/\p9 a0 a1 a2 a3 a4/\p10 a0 a1 a2 a3 a4)(k:∀a0,∀a1,∀a2,∀a3,∀a4,p5 a0 a1 a2 a3 a4->p6 a0 a1 a2 a3 a4->p7 a0 a1 a2 a3 a4->p8 a0 a1 a2 a3 a4->p9 a0 a1 a2 a3 a4->p10 a0 a1 a2 a3 a4->G):G:=h.elim λa0 z0=>z0.elim λa1 z1=>z1.elim λa2 z2=>z2.elim λa3 z3=>z3.elim λa4 z4=>k a0 a1 a2 a3 a4 z4.1 z4.2.1 z4.2.2.1 z4.2.2.2.1 z4.2.2.2.2.1 z4.2.2.2.2.2
theorem j1{t0 t1 t2 t3 t4 t5:Sort _}{p6 p7:t0->t1->t2->t3->t4->t5->Prop}{G:Prop}(h:∃a0,∃a1,∃a2,∃a3,∃a4,∃a5,p6 a0 a1 a2 a3 a4 a5/\p7 a0 a1 a2 a3 a4 a5)(k:∀a0,∀a1,∀a2,∀a3,∀a4,∀a5,p6 a0 a1 a2 a3 a4 a5->p7 a0 a1 a2 a3 a4 a5->G):G:=h.elim λa0 z0=>z0.elim λa1 z1=>z1.elim λa2 z2=>z2.elim λa3 z3=>z3.elim λa4 z4=>z4.elim λa5 z5=>k a0 a1 a2 a3 a4 a5 z5.1 z5.2
theorem gr{t0 t1 t2 t3 t4 t5:Sort _}{p6 p7 p8:t0->t1->t2->t3->t4->t5->Prop}{G:Prop}(h:∃a0,∃a1,∃a2,∃a3,∃a4,∃a5,p6 a0 a1 a2 a3 a4 a5/\p7 a0 a1 a2 a3 a4 a5/\p8 a0 a1 a2 a3 a4 a5)(k:∀a0,∀a1,∀a2,∀a3,∀a4,∀a5,p6 a0 a1 a2 a3 a4 a5->p7 a0 a1 a2 a3 a4 a5->p8 a0 a1 a2 a3 a4 a5->G):G:=h.elim λa0 z0=>z0.elim λa1 z1=>z1.elim λa2 z2=>z2.elim λa3 z3=>z3.elim λa4 z4=>z4.elim λa5 z5=>k a0 a1 a2 a3 a4 a5 z5.1 z5.2.1 z5.2.2
theorem wQ{t0 t1 t2 t3 t4 t5:Sort _}{p6 p7 p8 p9:t0->t1->t2->t3->t4->t5->Prop}{G:Prop}(h:∃a0,∃a1,∃a2,∃a3,∃a4,∃a5,p6 a0 a1 a2 a3 a4 a5/\p7 a0 a1 a2 a3 a4 a5/\p8 a0 a1 a2 a3 a4 a5/\p9 a0 a1 a2 a3 a4 a5)(k:∀a0,∀a1,∀a2,∀a3,∀a4,∀a5,p6 a0 a1 a2 a3 a4 a5->p7 a0 a1 a2 a3 a4 a5->p8 a0 a1 a2 a3 a4 a5->p9 a0 a1 a2 a3 a4 a5->G):G:=h.elim λa0 z0=>z0.elim λa1 z1=>z1.elim λa2 z2=>z2.elim λa3 z3=>z3.elim λa4 z4=>z4.elim λa5 z5=>k a0 a1 a2 a3 a4 a5 z5.1 z5.2.1 z5.2.2.1 z5.2.2.2
theorem iD{t0 t1 t2 t3 t4 t5:Sort _}{p6 p7 p8 p9 p10 p11 p12 p13:t0->t1->t2->t3->t4->t5->Prop}{G:Prop}(h:∃a0,∃a1,∃a2,∃a3,∃a4,∃a5,p6 a0 a1 a2 a3 a4 a5/\p7 a0 a1 a2 a3 a4 a5/\p8 a0 a1 a2 a3 a4 a5/\p9 a0 a1 a2 a3 a4 a5/\p10 a0 a1 a2 a3 a4 a5/\p11 a0 a1 a2 a3 a4 a5/\p12 a0 a1 a2 a3 a4 a5/\p13 a0 a1 a2 a3 a4 a5)(k:∀a0,∀a1,∀a2,∀a3,∀a4,∀a5,p6 a0 a1 a2 a3 a4 a5->p7 a0 a1 a2 a3 a4 a5->p8 a0 a1 a2 a3 a4 a5->p9 a0 a1 a2 a3 a4 a5->p10 a0 a1 a2 a3 a4 a5->p11 a0 a1 a2 a3 a4 a5->p12 a0 a1 a2 a3 a4 a5->p13 a0 a1 a2 a3 a4 a5->G):G:=h.elim λa0 z0=>z0.elim λa1 z1=>z1.elim λa2 z2=>z2.elim λa3 z3=>z3.elim λa4 z4=>z4.elim λa5 z5=>k a0 a1 a2 a3 a4 a5 z5.1 z5.2.1 z5.2.2.1 z5.2.2.2.1 z5.2.2.2.2.1 z5.2.2.2.2.2.1 z5.2.2.2.2.2.2.1 z5.2.2.2.2.2.2.2
theorem eD{t0 t1 t2 t3 t4 t5:Sort _}{p6 p7 p8 p9 p10 p11 p12 p13 p14:t0->t1->t2->t3->t4->t5->Prop}{G:Prop}(h:∃a0,∃a1,∃a2,∃a3,∃a4,∃a5,p6 a0 a1 a2 a3 a4 a5/\p7 a0 a1 a2 a3 a4 a5/\p8 a0 a1 a2 a3 a4 a5/\p9 a0 a1 a2 a3 a4 a5/\p10 a0 a1 a2 a3 a4 a5/\p11 a0 a1 a2 a3 a4 a5/\p12 a0 a1 a2 a3 a4 a5/\p13 a0 a1 a2 a3 a4 a5/\p14 a0 a1 a2 a3 a4 a5)(k:∀a0,∀a1,∀a2,∀a3,∀a4,∀a5,p6 a0 a1 a2 a3 a4 a5->p7 a0 a1 a2 a3 a4 a5->p8 a0 a1 a2 a3 a4 a5->p9 a0 a1 a2 a3 a4 a5->p10 a0 a1 a2 a3 a4 a5->p11 a0 a1 a2 a3 a4 a5->p12 a0 a1 a2 a3 a4 a5->p13 a0 a1 a2 a3 a4 a5->p14 a0 a1 a2 a3 a4 a5->G):G:=h.elim λa0 z0=>z0.elim λa1 z1=>z1.elim λa2 z2=>z2.elim λa3 z3=>z3.elim λa4 z4=>z4.elim λa5 z5=>k a0 a1 a2 a3 a4 a5 z5.1 z5.2.1 z5.2.2.1 z5.2.2.2.1 z5.2.2.2.2.1 z5.2.2.2.2.2.1 z5.2.2.2.2.2.2.1 z5.2.2.2.2.2.2.2.1 z5.2.2.2.2.2.2.2.2
theorem bU{t0 t1 t2 t3 t4 t5:Sort _}{p6 p7 p8 p9 p10 p11 p12 p13 p14 p15 p16 p17 p18 p19:t0->t1->t2->t3->t4->t5->Prop}{G:Prop}(h:∃a0,∃a1,∃a2,∃a3,∃a4,∃a5,p6 a0 a1 a2 a3 a4 a5/\p7 a0 a1 a2 a3 a4 a5/\p8 a0 a1 a2 a3 a4 a5/\p9 a0 a1 a2 a3 a4 a5/\p10 a0 a1 a2 a3 a4 a5/\p11 a0 a1 a2 a3 a4 a5/\p12 a0 a1 a2 a3 a4 a5/\p13 a0 a1 a2 a3 a4 a5/\p14 a0 a1 a2 a3 a4 a5/\p15 a0 a1 a2 a3 a4 a5/\p16 a0 a1 a2 a3 a4 a5/\p17 a0 a1 a2 a3 a4 a5/\p18 a0 a1 a2 a3 a4 a5/\p19 a0 a1 a2 a3 a4 a5)(k:∀a0,∀a1,∀a2,∀a3,∀a4,∀a5,p6 a0 a1 a2 a3 a4 a5->p7 a0 a1 a2 a3 a4 a5->p8 a0 a1 a2 a3 a4 a5->p9 a0 a1 a2 a3 a4 a5->p10 a0 a1 a2 a3 a4 a5->p11 a0 a1 a2 a3 a4 a5->p12 a0 a1 a2 a3 a4 a5->p13 a0 a1 a2 a3 a4 a5->p14 a0 a1 a2 a3 a4 a5->p15 a0 a1 a2 a3 a4 a5->p16 a0 a1 a2 a3 a4 a5->p17 a0 a1 a2 a3 a4 a5->p18 a0 a1 a2 a3 a4 a5->p19 a0 a1 a2 a3 a4 a5->G):G:=h.elim λa0 z0=>z0.elim λa1 z1=>z1.elim λa2 z2=>z2.elim λa3 z3=>z3.elim λa4 z4=>z4.elim λa5 z5=>k a0 a1 a2 a3 a4 a5 z5.1 z5.2.1 z5.2.2.1 z5.2.2.2.1 z5.2.2.2.2.1 z5.2.2.2.2.2.1 z5.2.2.2.2.2.2.1 z5.2.2.2.2.2.2.2.1 z5.2.2.2.2.2.2.2.2.1 z5.2.2.2.2.2.2.2.2.2.1 z5.2.2.2.2.2.2.2.2.2.2.1 z5.2.2.2.2.2.2.2.2.2.2.2.1 z5.2.2.2.2.2.2.2.2.2.2.2.2.1 z5.2.2.2.2.2.2.2.2.2.2.2.2.2
theorem Be{t0 t1 t2 t3 t4 t5 t6:Sort _}{p7 p8 p9 p10 p11 p12 p13 p14:t0->t1->t2->t3->t4->t5->t6->Prop}{G:Prop}(h:∃a0,∃a1,∃a2,∃a3,∃a4,∃a5,∃a6,p7 a0 a1 a2 a3 a4 a5 a6/\p8 a0 a1 a2 a3 a4 a5 a6/\p9 a0 a1 a2 a3 a4 a5 a6/\p10 a0 a1 a2 a3 a4 a5 a6/\p11 a0 a1 a2 a3 a4 a5 a6/\p12 a0 a1 a2 a3 a4 a5 a6/\p13 a0 a1 a2 a3 a4 a5 a6/\p14 a0 a1 a2 a3 a4 a5 a6)(k:∀a0,∀a1,∀a2,∀a3,∀a4,∀a5,∀a6,p7 a0 a1 a2 a3 a4 a5 a6->p8 a0 a1 a2 a3 a4 a5 a6->p9 a0 a1 a2 a3 a4 a5 a6->p10 a0 a1 a2 a3 a4 a5 a6->p11 a0 a1 a2 a3 a4 a5 a6->p12 a0 a1 a2 a3 a4 a5 a6->p13 a0 a1 a2 a3 a4 a5 a6->p14 a0 a1 a2 a3 a4 a5 a6->G):G:=h.elim λa0 z0=>z0.elim λa1 z1=>z1.elim λa2 z2=>z2.elim λa3 z3=>z3.elim λa4 z4=>z4.elim λa5 z5=>z5.elim λa6 z6=>k a0 a1 a2 a3 a4 a5 a6 z6.1 z6.2.1 z6.2.2.1 z6.2.2.2.1 z6.2.2.2.2.1 z6.2.2.2.2.2.1 z6.2.2.2.2.2.2.1 z6.2.2.2.2.2.2.2
theorem IF{t0 t1 t2 t3 t4 t5 t6 t7:Sort _}{p8 p9:t0->t1->t2->t3->t4->t5->t6->t7->Prop}{G:Prop}(h:∃a0,∃a1,∃a2,∃a3,∃a4,∃a5,∃a6,∃a7,p8 a0 a1 a2 a3 a4 a5 a6 a7/\p9 a0 a1 a2 a3 a4 a5 a6 a7)(k:∀a0,∀a1,∀a2,∀a3,∀a4,∀a5,∀a6,∀a7,p8 a0 a1 a2 a3 a4 a5 a6 a7->p9 a0 a1 a2 a3 a4 a5 a6 a7->G):G:=h.elim λa0 z0=>z0.elim λa1 z1=>z1.elim λa2 z2=>z2.elim λa3 z3=>z3.elim λa4 z4=>z4.elim λa5 z5=>z5.elim λa6 z6=>z6.elim λa7 z7=>k a0 a1 a2 a3 a4 a5 a6 a7 z7.1 z7.2
end
section
open PySem (PyData)
theorem no{p:Prop}(h:false=true):p:=Bool.noConfusion h
theorem nX{p:Prop}{α:Type}{x:α}(h:(none:Option α)=some x):p:=by exact bf h
inductive V where
 |none |bool (b:Bool) |int (i:Int) |str (s:String) |tup (vs:List V) |lst (a:Nat) |obj (a:Nat) |hJ (a:Nat) |fn (k:Nat)
 deriving Inhabited
inductive cz where
 |list (vs:List V)
 |av (p f s:V)
 |dict (es:List (Int × Int))
abbrev Mem:=Nat->Option cz
noncomputable def Mem.set(M:Mem)(a:Nat)(o:cz):Mem:=λb=>if b=a then some o else M b
inductive Fl where
 |next |brk |cont |ret (v:V)
abbrev Loc:=List (Option V)
abbrev Call:=Nat->List V->(V->Mem->Prop)->(Mem->Prop)->Mem->Prop
abbrev ME:=Call->Loc->Mem->(V->Mem->Prop)->(Mem->Prop)->Prop
abbrev MB:=Call->Loc->Mem->(Bool->Mem->Prop)->(Mem->Prop)->Prop
abbrev MS:=Call->Loc->Mem->(Fl->Loc->Mem->Prop)->(Mem->Prop)->Prop
noncomputable def bh:Nat:=1000000
noncomputable def Mem.list?(M:Mem)(a:Nat):Option (List V):=match M a with |some (.list vs)=>some vs |_=>none
noncomputable def Mem.piece?(M:Mem)(a:Nat):Option (V × V × V):=match M a with |some (.av p f s)=>some (p,f,s) |_=>none
noncomputable def Mem.dict?(M:Mem)(a:Nat):Option (List (Int × Int)):=match M a with |some (.dict es)=>some es |_=>none
def bw(M:Mem)(vs:List V)(Q:V->Mem->Prop):Prop:=vs.length<=bh/\∀r,M r=none->Q (.lst r) (M.set r (.list vs))
def cW{α:Type}(o:Option α)(f:α->Prop):Prop:=match o with |some x=>f x |none=>False
def gG(v:V)(f:Int->Prop):Prop:=match v with |.int i=>f i |_=>False
def lstK(v:V)(f:Nat->Prop):Prop:=match v with |.lst r=>f r |_=>False
def CI(v:V)(f:Nat->Prop):Prop:=match v with |.obj r=>f r |_=>False
def tupK(v:V)(f:List V->Prop):Prop:=match v with |.tup vs=>f vs |_=>False
theorem bg(h:cW o f):∃x,o=some x/\f x:=by
 induction o using Option.casesOn with
 |none=>exact h.elim
 |some x=>exact⟨x,rfl,h⟩
theorem aS(e:o=some x)(h:f x):cW o f:=by cases e;exact h
theorem bE(h:gG v f):∃x,v = .int x/\f x:=by
 induction v using V.casesOn
 case int i=>exact⟨i,rfl,h⟩
 all_goals exact h.elim
theorem cp(h:lstK v f):∃x,v = .lst x/\f x:=by
 induction v using V.casesOn
 case lst i=>exact⟨i,rfl,h⟩
 all_goals exact h.elim
theorem j2(h:CI v f):∃x,v = .obj x/\f x:=by
 induction v using V.casesOn
 case obj i=>exact⟨i,rfl,h⟩
 all_goals exact h.elim
theorem nx(h:tupK v f):∃x,v = .tup x/\f x:=by
 induction v using V.casesOn
 case tup i=>exact⟨i,rfl,h⟩
 all_goals exact h.elim
inductive Ha where
 |add |sub |fdiv |mod |shl |shr |band |pow
def F1(a b:List V)(M:Mem)(Q:V->Mem->Prop):Prop:=a.length+b.length<=bh/\Q (.tup (a++b)) M
def I2(a b:Nat)(M:Mem)(Q:V->Mem->Prop):Prop:=cW (M.list? a) λxs=>cW (M.list? b) λys=>bw M (xs++ys) Q
def Li(va vb:V)(M:Mem)(Q:V->Mem->Prop):Prop:=match va with
 |.int a=>gG vb λb=>Q (.int (a+b)) M
 |.tup a=>tupK vb λb=>True->F1 a b M Q
 |.lst a=>lstK vb λb=>True->I2 a b M Q
 |_=>False
def Hn(a b:Int)(M:Mem)(Q:V->Mem->Prop):Prop:=0 < b/\b < 2 ^ 62/\Q (.int (Uq a b)) M
def KI(a b:Int)(M:Mem)(Q:V->Mem->Prop):Prop:=b≠0/\Q (.int (Rh a b)) M
def K6(a b:Int)(M:Mem)(Q:V->Mem->Prop):Prop:=a=1/\b=32/\Q (.int (2 ^ 32)) M
def LI(a b:Int)(M:Mem)(Q:V->Mem->Prop):Prop:=b=31/\Q (.int (Uq a (2 ^ 31))) M
def Hy(a b:Int)(M:Mem)(Q:V->Mem->Prop):Prop:=b=2 ^ 32 - 1/\Q (.int (Rh a (2 ^ 32))) M
def Ig(a b:Int)(M:Mem)(Q:V->Mem->Prop):Prop:=a=2/\((b=31/\Q (.int (2 ^ 31)) M)\/(b=32/\Q (.int (2 ^ 32)) M))
def OZ(op:Ha)(a b:Int)(M:Mem)(Q:V->Mem->Prop):Prop:=match op with
 |.add=>False
 |.sub=>Q (.int (a - b)) M
 |.fdiv=>True->Hn a b M Q
 |.mod=>True->KI a b M Q
 |.shl=>True->K6 a b M Q
 |.shr=>True->LI a b M Q
 |.band=>True->Hy a b M Q
 |.pow=>True->Ig a b M Q
def binop(op:Ha)(va vb:V)(M:Mem)(Q:V->Mem->Prop):Prop:=match op with
 |.add=>Li va vb M Q
 |op=>gG va λa=>gG vb λb=>OZ op a b M Q
noncomputable def kT(f:V->Option PyData):List V->Option (List PyData)
 |[]=>some []
 |v::vs=>(f v).bind λd=>(kT f vs).map (d::·)
noncomputable def toD(M:Mem):Nat->V->Option PyData
 |0,_=>none
 |n+1,v=>match v with
  |.none=>some .none
  |.bool b=>some (.bool b)
  |.int i=>some (.int i)
  |.str s=>if s = "trap"\/s = "long" then some (.str (R7 s)) else none
  |.tup vs=>(kT (toD M n) vs).map .tuple
  |.lst a=>(M.list? a).bind λxs=>(kT (toD M n) xs).map .list
  |_=>none
noncomputable def J4:V->Option Nat
 |.lst a=>some a
 |_=>none
noncomputable def mw(xs ys:List V):Option Bool:=if xs.isEmpty || ys.isEmpty then some (xs.isEmpty && ys.isEmpty) else none
noncomputable def eP(M:Mem)(v w:V):Option Bool:=(J4 v).bind λa=>(J4 w).bind λb=>(M.list? a).bind λxs=>(M.list? b).bind λys=>mw xs ys
noncomputable def ML(M:Mem)(v w:V):Option Bool:=(toD M 5 v).bind λa=>(toD M 5 w).map λb=>TR a b
noncomputable def qW(M:Mem)(v w:V):Option Bool:=match eP M v w with
 |some b=>some b
 |none=>ML M v w
@[irreducible] noncomputable def vA(M:Mem)(x:V)(ys:List V):Option Bool:=(toD M 5 x).bind λd=>(kT (toD M 5) ys).map λds=>ds.any λy=>TR y d
theorem Ed:vA M x ys=(toD M 5 x).bind λd=>(kT (toD M 5) ys).map λds=>ds.any λy=>TR y d:=by unfold vA;rfl
theorem Dg(h:toD M 5 x=some d)(hs:kT (toD M 5) ys=some ds):vA M x ys=some (ds.any λy=>TR y d):=by rw[Ed,h,hs];rfl
theorem xJ(h:toD M 5 v=some a)(g:toD M 5 w=some b):ML M v w=some (TR a b):=by
 unfold ML;rw[h,g];rfl
inductive yp where
 |eq |ne |lt |le |gt |ge |isin |eI
noncomputable def OM(M:Mem)(va vb:V):Option Bool:=match va with
 |.int a=>match vb with
  |.int b=>some (a == b)
  |vb=>qW M (.int a) vb
 |va=>qW M va vb
noncomputable def Ow(M:Mem)(va vb:V):Option Bool:=match va with
 |.int a=>match vb with
  |.int b=>some (!(a == b))
  |vb=>(qW M (.int a) vb).map (!·)
 |va=>(qW M va vb).map (!·)
noncomputable def OG(va vb:V):Option Bool:=match va with
 |.int a=>match vb with |.int b=>some (decide (a < b)) |_=>none
 |_=>none
noncomputable def Ov(va vb:V):Option Bool:=match va with
 |.int a=>match vb with |.int b=>some (decide (a<=b)) |_=>none
 |_=>none
noncomputable def OR(va vb:V):Option Bool:=match va with
 |.int a=>match vb with |.int b=>some (decide (a > b)) |_=>none
 |_=>none
noncomputable def OU(va vb:V):Option Bool:=match va with
 |.int a=>match vb with |.int b=>some (decide (a >= b)) |_=>none
 |_=>none
noncomputable def Es(M:Mem)(va vb:V):Option Bool:=match vb with
 |.tup ys=>vA M va ys
 |.lst a=>(M.list? a).bind λys=>vA M va ys
 |.hJ a=>match va with |.int k=>(M.dict? a).map λes=>(es.lookup k).isSome |_=>none
 |_=>none
noncomputable def Me(M:Mem)(va vb:V):Option Bool:=match vb with
 |.tup ys=>(vA M va ys).map (!·)
 |.lst a=>((M.list? a).bind λys=>vA M va ys).map (!·)
 |_=>none
noncomputable def yO(op:yp)(va vb:V)(M:Mem):Option Bool:=match op with
 |.eq=>OM M va vb
 |.ne=>Ow M va vb
 |.lt=>OG va vb
 |.le=>Ov va vb
 |.gt=>OR va vb
 |.ge=>OU va vb
 |.isin=>Es M va vb
 |.eI=>Me M va vb
def eL(op:yp)(va vb:V)(M:Mem)(K:Bool->Mem->Prop):Prop:=cW (yO op va vb M) λr=>K r M
noncomputable def JO:V->Option Bool
 |.bool b=>some b
 |.int i=>some (i != 0)
 |_=>none
def sZ(v:V)(f:Bool->Prop):Prop:=match v with
 |.bool b=>f b
 |.int i=>f (i != 0)
 |_=>False
theorem Ks(h:sZ v f):∃b,JO v=some b/\f b:=by
 induction v using V.casesOn
 case bool b=>exact⟨b,rfl,h⟩
 case int i=>exact⟨_,rfl,h⟩
 all_goals exact h.elim
noncomputable def idx?(i:Int)(n:Nat):Option Nat:=
 if 0<=i then(if i < n then some i.toNat else none) else if -(n:Int)<=i then some (i+n).toNat else none
noncomputable def bA(i:Int)(n:Nat):Nat:=if i < 0 then(i+n).toNat else min i.toNat n
noncomputable def bW(xs:List V)(lo hi:Option Int):List V:=
 let n:=xs.length;let a:=match lo with |some i=>bA i n |none=>0
 let b:=match hi with |some i=>bA i n |none=>n
 (xs.take b).drop a
noncomputable def cu(xs ys:List V)(lo hi:Option Int):List V:=
 let n:=xs.length;let a:=match lo with |some i=>bA i n |none=>0
 let b:=match hi with |some i=>bA i n |none=>n
 xs.take a++ys++xs.drop (max a b)
noncomputable def dictPut(es:List (Int × Int))(k v:Int):List (Int × Int):=(k,v)::es
def bH:ME:=λ_ _ _ _ _=>False
def aa(v:V):ME:=λ_ _ M Q _=>Q v M
def ab(i:Nat):ME:=λ_ l M Q _=>match l[i]? with |some (some v)=>Q v M |_=>False
def aB(op:Ha)(a b:ME):ME:=λc l M Q X=>a c l M (λva M1=>b c l M1 (λvb M2=>binop op va vb M2 Q) X) X
def ba(a:ME):ME:=λc l M Q X=>a c l M (λva M1=>gG va λi=>Q (.int (-i)) M1) X
noncomputable def En:List ME->Call->Loc->Mem->(List V->Mem->Prop)->(Mem->Prop)->Prop
 |[],_,_,M,Q,_=>Q [] M
 |e::es,c,l,M,Q,X=>e c l M (λv M1=>En es c l M1 (λvs M2=>Q (v::vs) M2) X) X
def ag(es:List ME):ME:=λc l M Q X=>if es.length<=30 then En es c l M (λvs M1=>Q (.tup vs) M1) X else False
def aG(es:List ME):ME:=λc l M Q X=>En es c l M (λvs M1=>True->bw M1 vs Q) X
def yv:ME:=λ_ _ M Q _=>∀r,M r=none->Q (.hJ r) (M.set r (.dict []))
def aq(op:yp)(a b:ME):MB:=λc l M Q X=>a c l M (λva M1=>b c l M1 (λvb M2=>True->eL op va vb M2 Q) X) X
def fA(op:yp)(a b:ME):ME:=λc l M Q X=>aq op a b c l M (λr M1=>Q (.bool r) M1) X
def f7(o1 o2:yp)(a b d:ME):MB:=λc l M Q X=>a c l M (λva M1=>b c l M1 (λvb M2=>True->eL o1 va vb M2 λr M3=>
 if r then d c l M3 (λvd M4=>True->eL o2 vb vd M4 Q) X else Q false M3) X) X
def Br(v:V)(M:Mem)(K:Bool->Mem->Prop):Prop:=match v with |.none=>K true M |_=>K false M
def DG(v:V)(M:Mem)(K:Bool->Mem->Prop):Prop:=match v with |.none=>K false M |_=>K true M
def eM(a:ME):MB:=λc l M Q X=>a c l M (λv M1=>True->Br v M1 Q) X
def bQ(a:ME):MB:=λc l M Q X=>a c l M (λv M1=>True->DG v M1 Q) X
def mW(b:MB):ME:=λc l M Q X=>b c l M (λr M1=>Q (.bool r) M1) X
def bR(t:MB)(a b:ME):ME:=λc l M Q X=>t c l M (λr M1=>if r then a c l M1 Q X else b c l M1 Q X) X
def pX(a b:ME):ME:=λc l M Q X=>a c l M (λv M1=>sZ v λr=>if r then b c l M1 Q X else Q v M1) X
def DR(a b:ME):ME:=λc l M Q X=>a c l M (λv M1=>sZ v λr=>if r then Q v M1 else b c l M1 Q X) X
def mz(a:ME):ME:=λc l M Q X=>a c l M (λv M1=>sZ v λr=>Q (.bool (!r)) M1) X
def Iu(r:Nat)(k:Int)(M:Mem)(Q:V->Mem->Prop):Prop:=cW (M.list? r) λxs=>cW ((idx? k xs.length).bind λj=>xs[j]?) λx=>Q x M
def Bh(xs:List V)(k:Int)(M:Mem)(Q:V->Mem->Prop):Prop:=cW ((idx? k xs.length).bind λj=>xs[j]?) λx=>Q x M
def Ii(r:Nat)(k:Int)(M:Mem)(Q:V->Mem->Prop):Prop:=cW ((M.dict? r).bind λes=>es.lookup k) λx=>Q (.int x) M
def K9(va vi:V)(M:Mem)(Q:V->Mem->Prop):Prop:=match va with
 |.lst r=>gG vi λk=>True->Iu r k M Q
 |.tup xs=>gG vi λk=>True->Bh xs k M Q
 |.hJ r=>gG vi λk=>True->Ii r k M Q
 |_=>False
def ao(a i:ME):ME:=λc l M Q X=>a c l M (λva M1=>i c l M1 (λvi M2=>K9 va vi M2 Q) X) X
def BL:Option ME->Call->Loc->Mem->(Option Int->Mem->Prop)->(Mem->Prop)->Prop
 |none,_,_,M,Q,_=>Q none M
 |some e,c,l,M,Q,X=>e c l M (λv M1=>gG v λi=>Q (some i) M1) X
def NB(r:Nat)(lo hi:Option Int)(M:Mem)(Q:V->Mem->Prop):Prop:=cW (M.list? r) λxs=>bw M (bW xs lo hi) Q
def J6(xs:List V)(lo hi:Option Int)(M:Mem)(Q:V->Mem->Prop):Prop:=∃i,lo=some i/\hi=none/\1<=i/\i<=xs.length/\Q (.tup (xs.drop i.toNat)) M
def Pl(va:V)(lo hi:Option Int)(M:Mem)(Q:V->Mem->Prop):Prop:=match va with
 |.lst r=>True->NB r lo hi M Q
 |.tup xs=>True->J6 xs lo hi M Q
 |_=>False
def ck(a:ME)(lo hi:Option ME):ME:=λc l M Q X=>a c l M (λva M1=>BL lo c l M1 (λilo M2=>BL hi c l M2 (λihi M3=>Pl va ilo ihi M3 Q) X) X) X
def KS(r:Nat)(M:Mem)(Q:V->Mem->Prop):Prop:=cW (M.list? r) λxs=>bw M xs.reverse Q
def FA(a:ME):ME:=λc l M Q X=>a c l M (λva M1=>lstK va λr=>True->KS r M1 Q) X
inductive vz where |plain |first |second
noncomputable def LR(f:vz)(p q s:V):V:=match f with |.plain=>p |.first=>q |.second=>s
noncomputable def Nq(f:vz)(p q s v:V):cz:=match f with |.plain=>.av v q s |.first=>.av p v s |.second=>.av p q v
def zv(f:vz)(r:Nat)(M:Mem)(Q:V->Mem->Prop):Prop:=cW (M.piece? r) λx=>Q (LR f x.1 x.2.1 x.2.2) M
def bF(f:vz)(a:ME):ME:=λc l M Q X=>a c l M (λva M1=>CI va λr=>True->zv f r M1 Q) X
def Lr(vs:List V)(M:Mem)(Q:V->Mem->Prop):Prop:=match vs with
 |[p]=>∀r,M r=none->Q (.obj r) (M.set r (.av p .none .none))
 |[p,f]=>∀r,M r=none->Q (.obj r) (M.set r (.av p f .none))
 |_=>False
def ia(es:List ME):ME:=λc l M Q X=>En es c l M (λvs M1=>Lr vs M1 Q) X
def ah(k:Nat)(es:List ME):ME:=λc l M Q X=>En es c l M (λvs M1=>c k vs Q X M1) X
def B6(r:Nat)(c:Call)(M:Mem)(Q:V->Mem->Prop):Prop:=(M.piece? r).isSome=true/\c 13 [.obj r] Q (λ_=>False) M
def cq(a:ME):ME:=λc l M Q X=>a c l M (λv M1=>CI v λr=>True->B6 r c M1 Q) X
def C8(k r:Nat)(c:Call)(M:Mem)(Q:V->Mem->Prop)(X:Mem->Prop):Prop:=(M.piece? r).isSome=true/\c k [.obj r] Q X M
def dw(k:Nat)(a:ME):ME:=λc l M Q X=>a c l M (λv M1=>CI v λr=>True->C8 k r c M1 Q X) X
def Lg(v:V)(f:Nat->Prop):Prop:=match v with |.fn k=>f k |_=>False
theorem GU(h:Lg v f):∃x,v = .fn x/\f x:=by
 induction v using V.casesOn
 case fn i=>exact⟨i,rfl,h⟩
 all_goals exact h.elim
def m7(f:ME)(es:List ME):ME:=λc l M Q X=>f c l M (λvf M1=>Lg vf λk=>En es c l M1 (λvs M2=>c k vs Q X M2) X) X
def Km(r:Nat)(M:Mem)(Q:V->Mem->Prop):Prop:=cW (M.list? r) λxs=>Q (.int xs.length) M
def N4(va:V)(M:Mem)(Q:V->Mem->Prop):Prop:=match va with
 |.lst r=>True->Km r M Q
 |.tup xs=>Q (.int xs.length) M
 |_=>False
def cj(a:ME):ME:=λc l M Q X=>a c l M (λva M1=>N4 va M1 Q) X
def nV(r:Nat)(vb:V)(M:Mem)(Q:V->Mem->Prop):Prop:=cW (M.list? r) λxs=>xs.length<=bh/\Q .none (M.set r (.list (xs++[vb])))
def L2(r:Nat)(b:ME)(c:Call)(l:Loc)(M:Mem)(Q:V->Mem->Prop)(X:Mem->Prop):Prop:=(M.list? r).isSome=true/\b c l M (λvb M2=>True->nV r vb M2 Q) X
def az(a b:ME):ME:=λc l M Q X=>a c l M (λva M1=>lstK va λr=>True->L2 r b c l M1 Q X) X
def zI(r r':Nat)(M:Mem)(Q:V->Mem->Prop):Prop:=cW (M.list? r) λxs=>cW (M.list? r') λys=>r≠r'/\xs.length+ys.length<=bh/\Q .none (M.set r (.list (xs++ys)))
def Ky(r:Nat)(b:ME)(c:Call)(l:Loc)(M:Mem)(Q:V->Mem->Prop)(X:Mem->Prop):Prop:=(M.list? r).isSome=true/\b c l M (λvb M2=>lstK vb λr'=>True->zI r r' M2 Q) X
def bD(a b:ME):ME:=λc l M Q X=>a c l M (λva M1=>lstK va λr=>True->Ky r b c l M1 Q X) X
def Jr(r:Nat)(M:Mem)(Q:V->Mem->Prop):Prop:=cW (M.list? r) λxs=>cW xs.getLast? λx=>Q x (M.set r (.list xs.dropLast))
def fU(a:ME):ME:=λc l M Q X=>a c l M (λva M1=>lstK va λr=>True->Jr r M1 Q) X
def KJ(r:Nat)(M:Mem)(Q:V->Mem->Prop):Prop:=cW (M.list? r) λxs=>∃bs:List Bool,xs=bs.map V.bool/\Q (.bool (bs.any id)) M
def JF(a:ME):ME:=λc l M Q X=>a c l M (λva M1=>lstK va λr=>True->KJ r M1 Q) X
def Ki(r:Nat)(M:Mem)(Q:V->Mem->Prop):Prop:=cW (M.list? r) λxs=>Q (.tup xs) M
def w7(a:ME):ME:=λc l M Q X=>a c l M (λva M1=>lstK va λr=>True->Ki r M1 Q) X
def Mn(r:Nat)(M:Mem)(Q:V->Mem->Prop):Prop:=cW (M.list? r) λxs=>bw M xs Q
def fC(a:ME):ME:=λc l M Q X=>a c l M (λva M1=>lstK va λr=>True->Mn r M1 Q) X
def Iz(a b:ME):ME:=λc l M Q X=>a c l M (λva M1=>b c l M1 (λvb M2=>gG va λi=>gG vb λj=>Q (.int (if j < i then j else i)) M2) X) X
def HD(v:V)(f:Bool->Prop):Prop:=match v with |.bool b=>f b |_=>False
theorem Ax(h:HD v f):∃x,v = .bool x/\f x:=by
 induction v using V.casesOn
 case bool i=>exact⟨i,rfl,h⟩
 all_goals exact h.elim
def fi(a:ME):ME:=λc l M Q X=>a c l M (λva M1=>HD va λb=>Q (.int (if b then 1 else 0)) M1) X
def Aq:MB:=λ_ _ _ _ _=>False
def kq(a:ME):MB:=λc l M Q X=>a c l M (λv M1=>sZ v λr=>Q r M1) X
def ve(a:MB):MB:=λc l M Q X=>a c l M (λr M1=>Q (!r) M1) X
noncomputable def cD:List MB->MB
 |[],_,_,M,Q,_=>Q true M
 |a::r,c,l,M,Q,X=>a c l M (λb M1=>if b then cD r c l M1 Q X else Q false M1) X
noncomputable def sU:List MB->MB
 |[],_,_,M,Q,_=>Q false M
 |a::r,c,l,M,Q,X=>a c l M (λb M1=>if b then Q true M1 else sU r c l M1 Q X) X
inductive It where
 |lst (a:Nat) |tup (vs:List V) |uu (n:Nat) |kG (a:Nat)
noncomputable def cS(M:Mem)(it:It)(k:Nat):Option (Option V):=
 match it with
 |.lst a=>(M.list? a).map λvs=>vs[k]?
 |.tup vs=>some vs[k]?
 |.uu n=>some (if k < n then some (.int k) else none)
 |.kG a=>(M.list? a).map λvs=>(vs[k]?).map λv=>.tup [.int k,v]
abbrev MI:=Call->Loc->Mem->(It->Mem->Prop)->(Mem->Prop)->Prop
def OJ(r:Nat)(M:Mem)(Q:It->Mem->Prop):Prop:=(M.list? r).isSome=true/\Q (.lst r) M
def Pd(v:V)(M:Mem)(Q:It->Mem->Prop):Prop:=match v with
 |.lst r=>True->OJ r M Q
 |.tup vs=>Q (.tup vs) M
 |_=>False
def g5(a:ME):MI:=λc l M Q X=>a c l M (λv M1=>Pd v M1 Q) X
def Ou(i:Int)(M:Mem)(Q:It->Mem->Prop):Prop:=-bh<=i/\i<=bh/\Q (.uu i.toNat) M
def eG(a:ME):MI:=λc l M Q X=>a c l M (λv M1=>gG v λi=>True->Ou i M1 Q) X
def OA(r:Nat)(M:Mem)(Q:It->Mem->Prop):Prop:=(M.list? r).isSome=true/\Q (.kG r) M
def yC(a:ME):MI:=λc l M Q X=>a c l M (λv M1=>lstK v λr=>True->OA r M1 Q) X
inductive l6 where
 |one (i:Nat) |two (i j:Nat)
def l6.ok:l6->It->Prop
 |.one _,.kG _=>False
 |.one _,_=>True
 |.two _ _,.kG _=>True
 |.two _ _,_=>False
noncomputable def l6.set:l6->Loc->V->Option Loc
 |.one i,l,v=>some (l.set i (some v))
 |.two i j,l,.tup [v,w]=>some ((l.set i (some v)).set j (some w))
 |_,_,_=>none
def He(cond:Option MB)(c:Call)(l:Loc)(M:Mem)(yes no X:Mem->Prop):Prop:=match cond with
 |none=>yes M
 |some t=>t c l M (λb M1=>if b then yes M1 else no M1) X
noncomputable def dE(c:Call)(l:Loc)(elt:ME)(cond:Option MB)(it:It)(X:Mem->Prop):Nat->Nat->List V->Mem->(V->Mem->Prop)->Prop
 |0,_,_,_,_=>False
 |n+1,k,acc,M,Q=>cW (cS M it k) λo=>match o with
  |some v=>acc.length<=bh/\He cond c (l++[some v]) M (λM1=>elt c (l++[some v]) M1 (λx M2=>dE c l elt cond it X n (k+1) (acc++[x]) M2 Q) X) (λM1=>dE c l elt cond it X n (k+1) acc M1 Q) X
  |none=>bw M acc Q
@[irreducible] def dP(elt:ME)(it:MI)(cond:Option MB):ME:=λc l M Q X=>it c l M (λi M1=>(l6.one 0).ok i/\∃n,dE c l elt cond i (λ_=>False) n 0 [] M1 Q) X
def cQ:MS:=λ_ _ _ _ _=>False
def iP:MS:=λ_ l M Q _=>Q .next l M
def j7(c:Call)(b:MS)(P:Fl->Loc->Mem->Prop)(X:Mem->Prop):Fl->Loc->Mem->Prop:=λf l1 M1=>match f with |.next=>b c l1 M1 P X |f=>P f l1 M1
def LQ(a b:MS):MS:=λc l M Q X=>a c l M (j7 c b Q X) X
noncomputable def ae:List MS->MS
 |[]=>iP
 |a::r=>LQ a (ae r)
def aV(i:Nat)(e:ME):MS:=λc l M Q X=>e c l M (λv M1=>Q .next (l.set i (some v)) M1) X
noncomputable def jy:Loc->List Nat->List V->Option Loc
 |l,[],[]=>some l
 |l,i::is,v::vs=>jy (l.set i (some v)) is vs
 |_,_,_=>none
def Ox(l:Loc)(is:List Nat)(vs:List V)(M:Mem)(P:Fl->Loc->Mem->Prop):Prop:=cW (jy l is vs) λl'=>P .next l' M
def bu(is:List Nat)(e:ME):MS:=λc l M Q X=>e c l M (λv M1=>tupK v λvs=>True->Ox l is vs M1 Q) X
def NK(f:vz)(r:Nat)(v:V)(l:Loc)(M:Mem)(P:Fl->Loc->Mem->Prop):Prop:=cW (M.piece? r) λx=>P .next l (M.set r (Nq f x.1 x.2.1 x.2.2 v))
def fu(f:vz)(o e:ME):MS:=λc l M Q X=>e c l M (λv M1=>o c l M1 (λvo M2=>CI vo λr=>True->NK f r v l M2 Q) X) X
def N7(r:Nat)(k:Int)(v:V)(l:Loc)(M:Mem)(P:Fl->Loc->Mem->Prop):Prop:=cW (M.list? r) λxs=>cW (idx? k xs.length) λj=>P .next l (M.set r (.list (xs.set j v)))
def NC(r:Nat)(k x:Int)(l:Loc)(M:Mem)(P:Fl->Loc->Mem->Prop):Prop:=cW (M.dict? r) λes=>es.length<=bh/\P .next l (M.set r (.dict (dictPut es k x)))
def O9(vo vi v:V)(l:Loc)(M:Mem)(P:Fl->Loc->Mem->Prop):Prop:=match vo with
 |.lst r=>gG vi λk=>True->N7 r k v l M P
 |.hJ r=>gG vi λk=>gG v λx=>True->NC r k x l M P
 |_=>False
def ew(o i e:ME):MS:=λc l M Q X=>e c l M (λv M1=>o c l M1 (λvo M2=>i c l M2 (λvi M3=>O9 vo vi v l M3 Q) X) X) X
def Ih(r r':Nat)(lo hi:Option Int)(l:Loc)(M:Mem)(P:Fl->Loc->Mem->Prop):Prop:=cW (M.list? r) λxs=>cW (M.list? r') λys=>r≠r'/\xs.length+ys.length<=bh/\P .next l (M.set r (.list (cu xs ys lo hi)))
def aZ(o:ME)(lo hi:Option ME)(e:ME):MS:=λc l M Q X=>e c l M (λv M1=>o c l M1 (λvo M2=>BL lo c l M2 (λilo M3=>BL hi c l M3 (λihi M4=>lstK vo λr=>lstK v λr'=>True->Ih r r' ilo ihi l M4 Q) X) X) X) X
def bj(e:ME):MS:=λc l M Q X=>e c l M (λ_ M1=>Q .next l M1) X
def bl(t:MB)(a b:MS):MS:=λc l M Q X=>t c l M (λr M1=>if r then a c l M1 Q X else b c l M1 Q X) X
def aL(e:ME):MS:=λc l M Q X=>e c l M (λv M1=>Q (.ret v) l M1) X
def N3(op:Ha)(i:Nat)(va vb:V)(l:Loc)(M:Mem)(P:Fl->Loc->Mem->Prop):Prop:=match op with
 |.add=>gG va λa=>gG vb λb=>P .next (l.set i (some (.int (a+b)))) M
 |.sub=>gG va λa=>gG vb λb=>P .next (l.set i (some (.int (a - b)))) M
 |_=>False
def uT(op:Ha)(i:Nat)(e:ME):MS:=λc l M Q X=>ab i c l M (λva M1=>e c l M1 (λvb M2=>N3 op i va vb l M2 Q) X) X
def lE(R:Loc->Mem->Prop)(P:Fl->Loc->Mem->Prop):Fl->Loc->Mem->Prop:=λf l M=>match f with
 |.next=>R l M
 |.cont=>R l M
 |.brk=>P .next l M
 |.ret v=>P (.ret v) l M
noncomputable def fj(c:Call)(t:MB)(body:MS):Nat->Loc->Mem->(Fl->Loc->Mem->Prop)->Prop
 |0,_,_,_=>False
 |n+1,l,M,Q=>t c l M (λr M1=>if r then body c l M1 (lE (λl M=>fj c t body n l M Q) Q) (λ_=>False) else Q .next l M1) (λ_=>False)
def fq(t:MB)(body:MS):MS:=λc l M Q _=>∃n,fj c t body n l M Q
noncomputable def ct(c:Call)(t:l6)(body:MS)(it:It):Nat->Nat->Loc->Mem->(Fl->Loc->Mem->Prop)->Prop
 |0,_,_,_,_=>False
 |n+1,k,l,M,Q=>cW (cS M it k) λo=>match o with
  |some v=>cW (t.set l v) λl1=>body c l1 M (lE (λl M=>ct c t body it n (k+1) l M Q) Q) (λ_=>False)
  |none=>Q .next l M
@[irreducible] def bX(t:l6)(it:MI)(body:MS):MS:=λc l M Q X=>it c l M (λi M1=>t.ok i/\∃n,ct c t body i n 0 l M1 Q) X
def qJ:MS:=λ_ _ M _ X=>X M
def Fp(body hand:MS):MS:=λc l M Q X=>body c l M Q (λM1=>hand c l M1 Q X)
structure Fn where
 params:Nat
 locals:Nat
 body:MS
def rt(Q:V->Mem->Prop):Fl->Loc->Mem->Prop:=λfl _ M=>match fl with
 |.ret v=>Q v M
 |_=>Q .none M
noncomputable def aj(fns:Nat->Option Fn):Nat->Call
 |0,_,_,_,_,_=>False
 |n+1,k,vs,Q,X,M=>cW (fns k) λf=>vs.length=f.params/\f.body (aj fns n) (vs.map some++Qi (f.locals - f.params) none) M (rt Q) X
end
section
def zu:MS:=ae [bl (kq (ah 19 [ab 3,aB .add (ab 1) (aa (.int 1))])) (ae [aL (aa (.bool true))]) (ae [])]
def F8:MS:=ae [bl (aq .isin (ab 1) (dw 15 (ab 2))) (ae [aL (aa (.bool true))]) (ae []),bX (.one 3) (g5 (dw 14 (ab 2))) zu]
def Dw:MS:=ae [bj (ah 20 [ab 3,aB .add (ab 1) (aa (.int 1))])]
def IG:MS:=ae [bl (aq .ne (dw 15 (ab 2)) (ag [])) (ae [fu .plain (ab 2) (aB .add (ag [cq (ab 2)]) (w7 (dP (bR (aq .gt (ab 4) (ab 1)) (aB .sub (ab 4) (aa (.int 1))) (ab 4)) (g5 (dw 15 (ab 2))) none)))]) (ae []),bX (.one 3) (g5 (dw 14 (ab 2))) Dw]
def EB:MS:=ae [bj (az (ab 1) (bF .plain (ab 2))),bl (bQ (bF .first (ab 2))) (ae [bj (ah 17 [bF .first (ab 2),ab 1]),bl (bQ (bF .second (ab 2))) (ae [bj (az (ab 1) (ag [aa (.int 5)])),bj (ah 17 [bF .second (ab 2),ab 1])]) (ae []),bj (az (ab 1) (ag [aa (.int 11)]))]) (ae [])]
def MC:MB:=aq .gt (ab 1) (aa (.int 0))
def Nk:MS:=(ae [aV 2 (bR (aq .ne (ab 0) (aG [])) (cq (ao (ab 0) (ba (aa (.int 1))))) (aa (.int 1))),aV 3 (ah 21 [ab 2]),bl (aq .isin (ab 2) (aa (.tup [.int 32,.int 35,.int 65,.int 66,.int 63,.int 64528,.int 208,.int 210]))) (ae [bj (fU (ab 0)),uT .sub 1 (aa (.int 1))]) (ae [bl (aq .gt (ab 3) (aa (.int 0))) (ae [bj (fU (ab 0)),uT .add 1 (aB .sub (ab 3) (aa (.int 1)))]) (ae [bl (aq .eq (ab 2) (aa (.int 34))) (ae [ew (ab 0) (ba (aa (.int 1))) (ia [ag [aa (.int 33),ao (bF .plain (ao (ab 0) (ba (aa (.int 1))))) (aa (.int 1))]]),uT .sub 1 (aa (.int 1))]) (ae [bj (az (ab 0) (ia [ag [aa (.int 26)]])),uT .sub 1 (aa (.int 1))])])])])
def MF:MS:=bl (aq .eq (bF .second (ab 2)) (aG [])) (ae [fu .second (ab 2) (aa .none)]) (ae [])
def FN:MS:=bl (cD [aq .eq (cq (ab 2)) (aa (.int 4)),aq .eq (bF .first (ab 2)) (aG [])]) (ae [bl (eM (bF .second (ab 2))) (ae [bj (az (ab 1) (ia [ag [aa (.int 26)]]))]) (ae [bj (bD (ab 1) (aG [ia [ag [aa (.int 69)]],ia [bF .plain (ab 2),bF .second (ab 2)]]))])]) (ae [bl (cD [aq .ne (cq (ab 2)) (aa (.int 1)),aq .ne (bF .first (ab 2)) (aG [])]) (ae [bj (az (ab 1) (ab 2))]) (ae [])])
def Jj:MS:=bl (cD [aq .isin (cq (ab 2)) (ag [aa (.int 2),aa (.int 3)]),ve (kq (ah 19 [bF .first (ab 2),aa (.int 0)]))]) (ae [bj (ah 20 [bF .first (ab 2),aa (.int 0)]),bj (bD (ab 1) (bF .first (ab 2)))]) (ae [bj (az (ab 1) (ab 2))])
def MJ:MS:=(ae [bX (.one 3) (g5 (dw 14 (ab 2))) (ae [bj (ah 35 [ab 3])]),bl (aq .isin (cq (ab 2)) (aa (.tup [.int 0,.int 12,.int 14,.int 15,.int 18,.int 19]))) (ae [aZ (ab 0) (some (aB .add (ab 1) (aa (.int 1)))) none (aG []),aL (aa .none)]) (ae []),bl (cD [aq .lt (aB .add (ab 1) (aa (.int 1))) (cj (ab 0)),kq (ah 34 [ab 2])]) (ae [aZ (ab 0) (some (aB .add (ab 1) (aa (.int 1)))) none (aG [ia [ag [aa (.int 0)]]]),aL (aa .none)]) (ae [])])
def xX:MS:=(ae [bl (aq .isin (ao (ab 3) (aa (.int 0))) (ag [aa (.int 2),aa (.int 3),aa (.int 4)])) (ae [aV 4 (ia [ab 3,aG []]),bj (az (ab 1) (ab 4)),bj (az (ab 2) (ag [ab 4,ab 1])),aV 1 (bF .first (ab 4))]) (ae [bl (aq .eq (ao (ab 3) (aa (.int 0))) (aa (.int 5))) (ae [aV 4 (ao (ao (ab 2) (ba (aa (.int 1)))) (aa (.int 0))),fu .second (ab 4) (aG []),aV 1 (bF .second (ab 4))]) (ae [bl (aq .eq (ao (ab 3) (aa (.int 0))) (aa (.int 11))) (ae [bu [4,1] (fU (ab 2))]) (ae [bj (az (ab 1) (ia [ab 3]))])])])])
def ie:MS:=bl (aq .eq (ab 4) (aa (.int 0))) (ae [bj (az (ab 1) (ag [aa (.int 65),ao (aG [aa (.int 0),aa (.int 1),aa (.int 5),ba (aa (.int 1)),aB .sub (aB .pow (aa (.int 2)) (aa (.int 31))) (aa (.int 1)),ba (aB .pow (aa (.int 2)) (aa (.int 31)))]) (aB .mod (ah 42 [ab 0]) (aa (.int 6)))]))]) (ae [bl (aq .eq (ab 4) (aa (.int 1))) (ae [bj (az (ab 1) (ag [aa (.int 32),aB .mod (ah 42 [ab 0]) (aa (.int 4))]))]) (ae [bl (sU [aq .eq (ab 4) (aa (.int 2)),aq .eq (ab 4) (aa (.int 3))]) (ae [bj (ah 43 [ab 0,ab 1,aB .sub (ab 2) (aa (.int 1)),ab 3]),bj (ah 43 [ab 0,ab 1,aB .sub (ab 2) (aa (.int 1)),ab 3]),bj (az (ab 1) (bR (aq .eq (ab 4) (aa (.int 2))) (ag [aa (.int 106)]) (ag [aa (.int 110)])))]) (ae [bl (aq .eq (ab 4) (aa (.int 7))) (ae [bX (.one 5) (eG (aa (.int 3))) (ae [bj (ah 43 [ab 0,ab 1,aB .sub (ab 2) (aa (.int 1)),ab 3])]),bj (az (ab 1) (ag [aa (.int 27)]))]) (ae [bl (aq .eq (ab 4) (aa (.int 8))) (ae [bj (az (ab 1) (ag [aa (.int 2),ba (aa (.int 1))])),bj (ah 44 [ab 0,ab 1,aB .sub (ab 2) (aa (.int 1)),aB .add (ab 3) (aG [aa (.int 1)])]),bj (ah 43 [ab 0,ab 1,aB .sub (ab 2) (aa (.int 1)),aB .add (ab 3) (aG [aa (.int 1)])]),bj (az (ab 1) (ag [aa (.int 11)]))]) (ae [bj (ah 43 [ab 0,ab 1,aB .sub (ab 2) (aa (.int 1)),ab 3]),bl (aq .eq (ab 4) (aa (.int 9))) (ae [bj (az (ab 1) (ag [aa (.int 4),ba (aa (.int 1))])),bj (ah 43 [ab 0,ab 1,aB .sub (ab 2) (aa (.int 1)),aB .add (ab 3) (aG [aa (.int 1)])]),bj (az (ab 1) (ag [aa (.int 5)])),bj (ah 43 [ab 0,ab 1,aB .sub (ab 2) (aa (.int 1)),aB .add (ab 3) (aG [aa (.int 1)])]),bj (az (ab 1) (ag [aa (.int 11)]))]) (ae [bj (az (ab 1) (ao (aG [ag [aa (.int 69)],ag [aa (.int 34),aB .mod (ah 42 [ab 0]) (aa (.int 4))],ag [aa (.int 16),aa (.int 0)]]) (aB .sub (ab 4) (aa (.int 4)))))])])])])])])
def xZ:MS:=(ae [bl (aq .isin (ao (ab 5) (aa (.int 0))) (ag [aa (.int 2),aa (.int 3),aa (.int 4)])) (ae [bj (az (ab 3) (ab 4))]) (ae [bl (aq .eq (ao (ab 5) (aa (.int 0))) (aa (.int 5))) (ae [ew (ab 2) (ao (ab 3) (ba (aa (.int 1)))) (ab 4)]) (ae [bl (aq .eq (ao (ab 5) (aa (.int 0))) (aa (.int 11))) (ae [aV 6 (fU (ab 3)),ew (ab 1) (ab 6) (ab 4),bl (aq .isin (ab 6) (ab 2)) (ae [ew (ab 1) (ao (ab 2) (ab 6)) (ab 4)]) (ae [])]) (ae [])])])])
def HH:MS:=bl (aq .ge (ab 12) (aa (.int 0))) (ae [bu [6,15,16,17] (ao (ab 7) (aB .sub (ba (aa (.int 1))) (ab 12))),aV 4 (aB .add (ck (ab 4) none (some (ab 15))) (ck (ab 4) (some (aB .sub (cj (ab 4)) (ab 16))) none)),aV 7 (ck (ab 7) none (some (aB .sub (aB .sub (cj (ab 7)) (ab 12)) (fi (mz (ab 17))))))]) (ae [])
def tE:MS:=bl (aq .isin (ab 11) (ag [aa (.int 2),aa (.int 3),aa (.int 4)])) (ae [aV 13 (DR (fA .ne (ab 11) (aa (.int 4))) (fA .ne (fU (ab 4)) (aa (.int 0)))),aV 14 (bR (aq .eq (ab 11) (aa (.int 3))) (ab 6) (aB .add (ao (ab 2) (ab 9)) (aa (.int 1)))),bj (az (ab 7) (ag [ab 14,cj (ab 4),fi (fA .eq (ao (ab 10) (aa (.int 1))) (ba (aa (.int 1)))),fA .eq (ab 11) (aa (.int 3))])),bl (ve (kq (ab 13))) (ae [aV 6 (bR (aq .isin (ab 9) (ab 3)) (aB .add (ao (ab 3) (ab 9)) (aa (.int 1))) (ao (ab 2) (ab 9)))]) (ae [])]) (ae [bl (aq .eq (ab 11) (aa (.int 5))) (ae [aV 6 (ao (ab 2) (ab 9))]) (ae [bl (aq .eq (ab 11) (aa (.int 11))) (ae [bj (fU (ab 7))]) (ae [bl (aq .eq (ab 11) (aa (.int 0))) (ae [aL (ag [aa (.str "trap"),ab 5])]) (ae [bl (aq .eq (ab 11) (aa (.int 12))) (ae [aV 12 (ao (ab 10) (aa (.int 1)))]) (ae [bl (aq .eq (ab 11) (aa (.int 13))) (ae [aV 12 (bR (aq .ne (fU (ab 4)) (aa (.int 0))) (ao (ab 10) (aa (.int 1))) (ba (aa (.int 1))))]) (ae [bl (aq .eq (ab 11) (aa (.int 14))) (ae [aV 12 (ao (ab 10) (aB .add (aa (.int 1)) (Iz (fU (ab 4)) (aB .sub (cj (ab 10)) (aa (.int 2))))))]) (ae [bl (aq .eq (ab 11) (aa (.int 15))) (ae [aV 12 (aB .sub (cj (ab 7)) (aa (.int 1)))]) (ae [bl (kq (ah 49 [ab 10,ab 4,ab 1,ab 5])) (ae [aL (ag [aa (.str "trap"),ab 5])]) (ae [])])])])])])])])])
def HC:MS:=ae [bl (aq .ge (ab 6) (cj (ab 0))) (ae [aL (ag [ab 4,ab 5])]) (ae []),bu [9,10,11,12] (ag [ab 6,ao (ab 0) (ab 6),ao (ao (ab 0) (ab 6)) (aa (.int 0)),ba (aa (.int 1))]),aV 6 (aB .add (ab 6) (aa (.int 1))),tE,HH]
def J5:MS:=(ae [bl (cD [aq .isin (ao (ab 3) (aa (.int 0))) (ag [aa (.int 12),aa (.int 13),aa (.int 14)]),aq .isin (ab 2) (ck (ab 3) (some (aa (.int 1))) none)]) (ae [aL (aa (.bool true))]) (ae []),bl (cD [aq .eq (ao (ab 3) (aa (.int 0))) (aa (.int 11)),aq .eq (ab 2) (aa (.int 0))]) (ae [aL (aa (.bool false))]) (ae []),aV 2 (aB .sub (aB .add (ab 2) (fi (fA .isin (ao (ab 3) (aa (.int 0))) (ag [aa (.int 2),aa (.int 3),aa (.int 4)])))) (fi (fA .eq (ao (ab 3) (aa (.int 0))) (aa (.int 11)))))])
def leB:MS:=(ae [bu [4,5] (ag [ao (ao (ab 0) (ab 3)) (aa (.int 0)),ao (ao (ab 0) (aB .add (ab 3) (aa (.int 1)))) (aa (.int 0))]),bl (cD [aq .eq (ab 1) (aa (.int 0)),aq .isin (ab 4) (ag [aa (.int 0),aa (.int 12),aa (.int 14),aa (.int 15)]),aq .eI (ab 5) (ag [aa (.int 5),aa (.int 11)])]) (ae [aL (aa (.bool true))]) (ae []),bl (cD [aq .eq (ab 1) (aa (.int 1)),aq .eq (ab 5) (aa (.int 26)),aq .isin (ab 4) (ag [aa (.int 32),aa (.int 65),aa (.int 34),aa (.int 69),aa (.int 106),aa (.int 107),aa (.int 27)])]) (ae [aL (aa (.bool true))]) (ae []),bl (cD [aq .eq (ab 1) (aa (.int 2)),aq .eq (ck (ao (ab 0) (ab 3)) (some (aa (.int 1))) none) (ck (ao (ab 0) (aB .add (ab 3) (aa (.int 1)))) (some (aa (.int 1))) none),aq .isin (ag [ab 4,ab 5]) (ab 2)]) (ae [aL (aa (.bool true))]) (ae []),bl (cD [aq .eq (ab 1) (aa (.int 3)),sU [aq .eq (ab 4) (aa (.int 1)),cD [aq .isin (ab 4) (ag [aa (.int 2),aa (.int 3),aa (.int 4),aa (.int 5)]),aq .eq (ab 5) (aa (.int 11))],cD [aq .eq (ab 4) (aa (.int 4)),aq .eq (ab 5) (aa (.int 5))]]]) (ae [aL (aa (.bool true))]) (ae []),bl (cD [aq .eq (ab 1) (aa (.int 4)),aq .isin (ab 4) (ag [aa (.int 2),aa (.int 3)]),ve (kq (ah 51 [ab 0,ab 3]))]) (ae [aL (aa (.bool true))]) (ae []),bl (cD [aq .eq (ab 1) (aa (.int 5)),aq .eq (ab 4) (aa (.int 65)),aq .isin (ab 5) (ag [aa (.int 69),aa (.int 4),aa (.int 13),aa (.int 14)])]) (ae [aL (aa (.bool true))]) (ae [])])
def Lz:MS:=(ae [bj (ah 53 [ab 8,ab 6])])
def MT:MB:=cD [aq .ne (ab 1) (aG []),aq .lt (cj (ab 5)) (aa (.int 110))]
def MG:MS:=ae [bj (ah 47 [ab 1,ab 5,aa (.int 2),aG [aa (.int 1)]])]
def wj:MS:=ae [aL (aB .band (ab 0) (aB .sub (aB .shl (aa (.int 1)) (ab 1)) (aa (.int 1))))]
def D0:MS:=ae [aL (bR (kq (aB .shr (ab 0) (aB .sub (ab 1) (aa (.int 1))))) (aB .sub (ab 0) (aB .shl (aa (.int 1)) (ab 1))) (ab 0))]
def Lw:MS:=ae [aL (bR (aq .eq (ab 0) (aa (.int 0))) (aa (.int 1)) (aa (.int 0)))]
def Mm:MS:=ae [aL (ah 0 [aB .add (ab 0) (ab 1),ab 2])]
def LK:MS:=ae [aL (ah 0 [aB .sub (ab 0) (ab 1),ab 2])]
def FR:MS:=ae [bl (aq .eq (ab 1) (aa (.int 0))) (ae [qJ]) (ae []),aL (aB .fdiv (ab 0) (ab 1))]
def wm:MS:=ae [bl (f7 .le .lt (ab 1) (ab 0) (aB .add (ab 1) (ab 3))) (ae [aL (ag [aB .sub (ab 0) (ab 1),aa (.int 32)])]) (ae []),bl (f7 .le .lt (ab 2) (ab 0) (aB .add (ab 2) (ab 3))) (ae [aL (ag [aB .sub (ab 0) (ab 2),aa (.int 64)])]) (ae []),aL (aa .none)]
def ug:MS:=ae [bl (f7 .le .lt (aa (.int 192)) (ab 0) (aa (.int 194))) (ae [aL (ag [aB .shl (aa (.int 8)) (aB .sub (ab 0) (aa (.int 192))),aa (.int 32)])]) (ae []),bl (f7 .le .lt (aa (.int 194)) (ab 0) (aB .add (aa (.int 194)) (aa (.int 3)))) (ae [aL (ag [aB .shl (aa (.int 8)) (aB .sub (ab 0) (aa (.int 194))),aa (.int 64)])]) (ae []),aL (bR (aq .eq (ab 0) (aa (.int 172))) (ag [aa (.int 32),aa (.int 64)]) (aa .none))]
def vR:MS:=ae [bl (aq .isin (ab 0) (ag [aa (.int 69),aa (.int 80),aa (.int 167),aa (.int 173)])) (ae [aL (aa (.bool true))]) (ae []),aL (DR (mW (bQ (ah 6 [ab 0,aa (.int 103),aa (.int 121),cj (aa (.tup [.fn 100,.fn 101,.fn 102]))]))) (mW (bQ (ah 7 [ab 0]))))]
def sR:MS:=ae [bl (bQ (ah 6 [ab 0,aa (.int 70),aa (.int 81),cj (aa (.tup [.fn 115,.fn 116,.fn 117,.fn 118,.fn 119,.fn 120,.fn 121,.fn 122,.fn 123,.fn 124]))])) (ae [aL (aa (.bool true))]) (ae []),aL (mW (bQ (ah 6 [ab 0,aa (.int 106),aa (.int 124),cj (aa (.tup [.fn 3,.fn 4,.fn 103,.fn 104,.fn 5,.fn 105,.fn 106,.fn 107,.fn 108,.fn 109,.fn 110,.fn 111,.fn 112,.fn 113,.fn 114]))])))]
def wK:MS:=ae [aV 1 (ah 6 [ab 0,aa (.int 106),aa (.int 124),cj (aa (.tup [.fn 3,.fn 4,.fn 103,.fn 104,.fn 5,.fn 105,.fn 106,.fn 107,.fn 108,.fn 109,.fn 110,.fn 111,.fn 112,.fn 113,.fn 114]))]),aL (pX (mW (bQ (ab 1))) (mW (f7 .le .le (aa (.int 3)) (ao (ab 1) (aa (.int 0))) (aa (.int 6)))))]
def AY:MS:=ae [bl (sU [aq .eq (ab 0) (aa (.int 69)),aq .eq (ab 0) (aa (.int 80))]) (ae [aL (ah 2 [ab 1,aa (.int 32)])]) (ae []),bl (aq .eq (ab 0) (aa (.int 167))) (ae [aL (ah 0 [ab 1,aa (.int 32)])]) (ae []),bl (aq .eq (ab 0) (aa (.int 173))) (ae [aL (ab 1)]) (ae []),aV 2 (ah 6 [ab 0,aa (.int 103),aa (.int 121),cj (aa (.tup [.fn 100,.fn 101,.fn 102]))]),bl (bQ (ab 2)) (ae [aL (m7 (ao (aa (.tup [.fn 100,.fn 101,.fn 102])) (ao (ab 2) (aa (.int 0)))) [ab 1,ao (ab 2) (aa (.int 1))])]) (ae []),aV 3 (ah 7 [ab 0]),bl (eM (ab 3)) (ae [cQ]) (ae []),aL bH]
def AA:MS:=ae [aV 3 (ah 6 [ab 0,aa (.int 106),aa (.int 124),cj (aa (.tup [.fn 3,.fn 4,.fn 103,.fn 104,.fn 5,.fn 105,.fn 106,.fn 107,.fn 108,.fn 109,.fn 110,.fn 111,.fn 112,.fn 113,.fn 114]))]),bl (bQ (ab 3)) (ae [aL (m7 (ao (aa (.tup [.fn 3,.fn 4,.fn 103,.fn 104,.fn 5,.fn 105,.fn 106,.fn 107,.fn 108,.fn 109,.fn 110,.fn 111,.fn 112,.fn 113,.fn 114])) (ao (ab 3) (aa (.int 0)))) [ab 1,ab 2,ao (ab 3) (aa (.int 1))])]) (ae []),aV 3 (ah 6 [ab 0,aa (.int 70),aa (.int 81),cj (aa (.tup [.fn 115,.fn 116,.fn 117,.fn 118,.fn 119,.fn 120,.fn 121,.fn 122,.fn 123,.fn 124]))]),bl (eM (ab 3)) (ae [cQ]) (ae []),aL (m7 (ao (aa (.tup [.fn 115,.fn 116,.fn 117,.fn 118,.fn 119,.fn 120,.fn 121,.fn 122,.fn 123,.fn 124])) (ao (ab 3) (aa (.int 0)))) [ab 1,ab 2,ao (ab 3) (aa (.int 1))])]
def I7:MS:=ae [aL (ao (bF .plain (ab 0)) (aa (.int 0)))]
def F0:MS:=ae [aL (dP (ab 1) (g5 (ag [bF .first (ab 0),bF .second (ab 0)])) (some (bQ (ab 1))))]
def Ca:MS:=ae [aL (bR (aq .isin (cq (ab 0)) (ag [aa (.int 12),aa (.int 13),aa (.int 14)])) (ck (bF .plain (ab 0)) (some (aa (.int 1))) none) (ag []))]
def tq:MS:=ae [bu [1,2] (ag [aG [],aG []]),bX (.one 3) (g5 (ck (ab 0) none (some (aB .sub (cj (ab 0)) (aa (.int 1)))))) xX,aL (ab 1)]
def qR:MS:=ae [bX (.one 2) (g5 (ab 0)) EB]
def AN:MS:=ae [aV 1 (aG []),bj (ah 17 [ab 0,ab 1]),bj (az (ab 1) (ag [aa (.int 11)])),aL (ab 1)]
def xG:MS:=ae [bX (.one 2) (g5 (ab 0)) F8,aL (aa (.bool false))]
def mJ:MS:=ae [bX (.one 2) (g5 (ab 0)) IG]
def xj:MS:=ae [bl (sU [aq .eq (ab 0) (aa (.int 209)),kq (ah 8 [ab 0])]) (ae [aL (aa (.int 1))]) (ae []),bl (aq .isin (ab 0) (ag [aa (.int 27),aa (.int 28)])) (ae [aL (aa (.int 3))]) (ae []),aL (bR (cD [kq (ah 9 [ab 0]),ve (kq (ah 10 [ab 0]))]) (aa (.int 2)) (aa (.int 0)))]
def qX:MS:=ae [aV 1 (bR (f7 .le .le (aa (.int 121)) (ab 0) (aa (.int 138))) (aB .sub (ab 0) (aa (.int 18))) (ab 0)),bl (sU [aq .isin (ab 1) (ag [aa (.int 106),aa (.int 107)]),f7 .le .le (aa (.int 114)) (ab 1) (aa (.int 120))]) (ae [aL (aa (.int 0))]) (ae []),bl (f7 .le .le (aa (.int 108)) (ab 1) (aa (.int 110))) (ae [aL (aa (.int 1))]) (ae []),aL (bR (aq .eq (ab 1) (aa (.int 113))) (ba (aa (.int 1))) (aa .none))]
def ov:MS:=ae [aL (bR (aq .isin (cq (ab 0)) (ag [aa (.int 65),aa (.int 66)])) (ao (bF .plain (ab 0)) (aa (.int 1))) (aa .none))]
def vD:MS:=ae [aL (ia [ag [bR (aq .eq (ab 0) (aa (.int 32))) (aa (.int 65)) (aa (.int 66)),ah 1 [ab 1,ab 0]]])]
def tH:MS:=ae [bl (aq .eq (ab 0) (aa (.int 167))) (ae [aL (ag [aa (.int 64),aa (.int 32)])]) (ae []),bl (aq .isin (ab 0) (ag [aa (.int 172),aa (.int 173)])) (ae [aL (ag [aa (.int 32),aa (.int 64)])]) (ae []),aV 1 (bR (sU [f7 .le .le (aa (.int 80)) (ab 0) (aa (.int 90)),f7 .le .le (aa (.int 121)) (ab 0) (aa (.int 138)),aq .ge (ab 0) (aa (.int 194))]) (aa (.int 64)) (aa (.int 32))),aL (ag [ab 1,bR (aq .le (ab 0) (aa (.int 90))) (aa (.int 32)) (ab 1)])]
def xS:MS:=ae [bu [2,3] (ah 25 [ab 0]),aV 4 (dP (ah 0 [ab 6,ab 2]) (g5 (ab 1)) none),Fp (aV 5 (bR (aq .eq (cj (ab 4)) (aa (.int 1))) (ah 11 [ab 0,ao (ab 4) (aa (.int 0))]) (ah 12 [ab 0,ao (ab 4) (aa (.int 0)),ao (ab 4) (aa (.int 1))]))) (aL (aa .none)),aL (ah 24 [ab 3,ab 5])]
def o7:MS:=ae [aV 1 (cq (ao (ab 0) (ba (aa (.int 1))))),aV 2 (bR (kq (ah 8 [ab 1])) (aa (.int 1)) (aa (.int 2))),aV 4 (dP (ah 23 [ab 5]) (g5 (ck (ck (ab 0) none (some (ba (aa (.int 1))))) (some (ba (ab 2))) none)) none),bl (cD [aq .eq (cj (ab 4)) (ab 2),aq .eI (aa .none) (ab 4)]) (ae [aV 3 (ah 26 [ab 1,ab 4]),bl (bQ (ab 3)) (ae [aZ (ab 0) (some (aB .sub (ba (aa (.int 1))) (ab 2))) none (aG [ab 3]),aL (aa (.bool true))]) (ae [])]) (ae []),bl (cD [aq .eq (ab 2) (aa (.int 2)),aq .ne (ab 4) (aG []),bQ (ao (ab 4) (ba (aa (.int 1)))),aq .eq (ao (ab 4) (ba (aa (.int 1)))) (ah 22 [ab 1])]) (ae [aZ (ab 0) (some (ba (aa (.int 2)))) none (aG []),aL (aa (.bool true))]) (ae []),aL (aa (.bool false))]
def nM:MS:=ae [aV 2 (ah 0 [ab 1,aa (.int 32)]),aL (bR (aq .lt (ab 2) (aB .sub (cj (ab 0)) (aa (.int 1)))) (ao (ab 0) (ab 2)) (ao (ab 0) (ba (aa (.int 1)))))]
def o5:MS:=ae [bl (aq .ne (ab 1) (aa (.int 0))) (ae [aZ (ab 0) (some (ba (aa (.int 2)))) none (aG [ia [ag [aa (.int 26)]]]),aL (aa (.bool true))]) (ae []),bl (cD [aq .gt (cj (ab 0)) (aa (.int 2)),aq .isin (cq (ao (ab 0) (ba (aa (.int 3))))) (aa (.tup [.int 32,.int 35,.int 65,.int 66,.int 63,.int 64528,.int 208,.int 210]))]) (ae [aZ (ab 0) (some (ba (aa (.int 3)))) none (aG [ia [ag [aa (.int 26)]],ao (ab 0) (ba (aa (.int 3)))]),aL (aa (.bool true))]) (ae []),aL (aa (.bool false))]
def oY:MS:=ae [bu [1,2] (ag [ao (ab 0) (ba (aa (.int 1))),ah 23 [ao (ab 0) (ba (aa (.int 2)))]]),bl (eM (ab 2)) (ae [aL (aa (.bool false))]) (ae []),bl (aq .isin (cq (ab 1)) (ag [aa (.int 27),aa (.int 28)])) (ae [aL (ah 29 [ab 0,ab 2])]) (ae []),bl (aq .eq (cq (ab 1)) (aa (.int 4))) (ae [aV 3 (bR (aq .ne (ab 2) (aa (.int 0))) (bF .first (ab 1)) (bF .second (ab 1))),aZ (ab 0) (some (ba (aa (.int 2)))) none (aG [ia [ag [aa (.int 2),ao (bF .plain (ab 1)) (aa (.int 1))],bR (bQ (ab 3)) (ab 3) (aG [])]])]) (ae [bl (aq .eq (cq (ab 1)) (aa (.int 14))) (ae [aZ (ab 0) (some (ba (aa (.int 2)))) none (aG [ia [ag [aa (.int 12),ah 28 [dw 15 (ab 1),ab 2]]]])]) (ae [bl (aq .ne (ab 2) (aa (.int 0))) (ae [aZ (ab 0) (some (ba (aa (.int 2)))) none (aG [ia [ag [aa (.int 12),ao (bF .plain (ab 1)) (aa (.int 1))]]])]) (ae [aZ (ab 0) (some (ba (aa (.int 2)))) none (aG [])])])]),aL (aa (.bool true))]
def sG:MS:=ae [bl (aq .lt (cj (ab 0)) (aa (.int 2))) (ae [aL (aa (.bool false))]) (ae []),bl (sU [kq (ah 8 [cq (ao (ab 0) (ba (aa (.int 1))))]),kq (ah 9 [cq (ao (ab 0) (ba (aa (.int 1))))])]) (ae [aL (ah 27 [ab 0])]) (ae []),bl (aq .isin (cq (ao (ab 0) (ba (aa (.int 1))))) (ag [aa (.int 27),aa (.int 28),aa (.int 4),aa (.int 13),aa (.int 14)])) (ae [aL (ah 30 [ab 0])]) (ae []),aL (aa (.bool false))]
def ph:MS:=ae [aV 1 (aG []),bX (.one 2) (g5 (ab 0)) (ae [bX (.one 3) (g5 (dw 14 (ab 2))) (ae [bj (ah 32 [ab 3])]),bj (az (ab 1) (ab 2)),fq (kq (ah 31 [ab 1])) (ae [iP])]),aZ (ab 0) none none (ab 1)]
def rY:MS:=ae [bl (aq .eq (ab 0) (aG [])) (ae [aL (aa (.bool false))]) (ae []),aV 1 (ao (ab 0) (ba (aa (.int 1)))),aL (DR (fA .isin (cq (ab 1)) (aa (.tup [.int 0,.int 12,.int 14,.int 15,.int 18,.int 19]))) (ah 34 [ab 1]))]
def lQ:MS:=ae [bl (sU [eM (bF .first (ab 0)),ve (kq (ah 33 [bF .first (ab 0)]))]) (ae [aL (aa (.bool false))]) (ae []),bl (aq .eq (cq (ab 0)) (aa (.int 3))) (ae [aL (aa (.bool true))]) (ae []),bl (cD [aq .eq (cq (ab 0)) (aa (.int 4)),sU [eM (bF .second (ab 0)),ve (kq (ah 33 [bF .second (ab 0)]))]]) (ae [aL (aa (.bool false))]) (ae []),aL (mz (JF (dP (ah 19 [ab 1,aa (.int 0)]) (g5 (dw 14 (ab 0))) none)))]
def xF:MS:=ae [bX (.two 1 2) (yC (ab 0)) MJ]
def xU:MS:=ae [aV 1 (aa (.int 1)),fq MC Nk]
def sN:MS:=ae [aV 1 (aG []),bX (.one 2) (g5 (ab 0)) (ae [bX (.one 3) (g5 (dw 14 (ab 2))) (ae [bj (ah 37 [ab 3])]),bl (aq .eq (cq (ab 2)) (aa (.int 26))) (ae [bj (ah 36 [ab 1])]) (ae [bj (az (ab 1) (ab 2))])]),aZ (ab 0) none none (ab 1)]
def tC:MS:=ae [bl (sU [aq .lt (cj (ab 0)) (aa (.int 2)),aq .ne (ck (bF .plain (ao (ab 0) (ba (aa (.int 1))))) (some (aa (.int 1))) none) (ck (bF .plain (ao (ab 0) (ba (aa (.int 2))))) (some (aa (.int 1))) none)]) (ae [aL (aa (.bool false))]) (ae []),bu [1,2] (ag [ag [cq (ao (ab 0) (ba (aa (.int 2)))),cq (ao (ab 0) (ba (aa (.int 1))))],ck (bF .plain (ao (ab 0) (ba (aa (.int 1))))) (some (aa (.int 1))) none]),bl (aq .eq (ab 1) (ag [aa (.int 33),aa (.int 32)])) (ae [aZ (ab 0) (some (ba (aa (.int 2)))) none (aG [ia [aB .add (ag [aa (.int 34)]) (ab 2)]])]) (ae [bl (aq .eq (ab 1) (ag [aa (.int 32),aa (.int 33)])) (ae [aZ (ab 0) (some (ba (aa (.int 2)))) none (aG [])]) (ae [bl (aq .eq (ab 1) (ag [aa (.int 34),aa (.int 33)])) (ae [aZ (ab 0) (some (ba (aa (.int 2)))) none (aG [ia [aB .add (ag [aa (.int 33)]) (ab 2)]])]) (ae [bl (aq .isin (ab 1) (ag [ag [aa (.int 32),aa (.int 34)],ag [aa (.int 34),aa (.int 34)]])) (ae [bj (fU (ab 0))]) (ae [aL (aa (.bool false))])])])]),aL (aa (.bool true))]
def oq:MS:=ae [aV 1 (aG []),bX (.one 2) (g5 (ab 0)) (ae [bX (.one 3) (g5 (dw 14 (ab 2))) (ae [bj (ah 39 [ab 3])]),bj (az (ab 1) (ab 2)),fq (kq (ah 38 [ab 1])) (ae [iP])]),aZ (ab 0) none none (ab 1)]
def uh:MS:=ae [aV 1 (aG []),bX (.one 2) (g5 (ab 0)) (ae [bX (.one 3) (g5 (dw 14 (ab 2))) (ae [bj (ah 40 [ab 3])]),MF,FN]),aZ (ab 0) none none (ab 1)]
def oH:MS:=ae [aV 1 (aG []),bX (.one 2) (g5 (ab 0)) (ae [bX (.one 3) (g5 (dw 14 (ab 2))) (ae [bj (ah 41 [ab 3])]),Jj]),aZ (ab 0) none none (ab 1)]
def wh:MS:=ae [aL (bR (aq .ne (ab 0) (aG [])) (fU (ab 0)) (aa (.int 0)))]
def ti:MS:=ae [aV 4 (aB .mod (ah 42 [ab 0]) (bR (aq .gt (ab 2) (aa (.int 0))) (aa (.int 10)) (aa (.int 2)))),ie]
def xN:MS:=ae [bX (.one 4) (eG (aB .mod (ah 42 [ab 0]) (aa (.int 3)))) (ae [bj (ah 47 [ab 0,ab 1,ab 2,ab 3])])]
def vV:MS:=ae [aV 4 (aB .mod (ah 42 [ab 0]) (cj (ab 3))),aV 5 (fA .eq (ao (ab 3) (aB .sub (ba (aa (.int 1))) (ab 4))) (aa (.int 1))),bl (kq (ab 5)) (ae [bj (ah 43 [ab 0,ab 1,aa (.int 1),ab 3])]) (ae []),bl (aq .eq (ab 2) (aa (.int 6))) (ae [bj (az (ab 1) (ag [aa (.int 12),ab 4])),aL (aa .none)]) (ae []),bj (ah 43 [ab 0,ab 1,aa (.int 1),ab 3]),bl (aq .eq (ab 2) (aa (.int 7))) (ae [bj (az (ab 1) (ag [aa (.int 13),ab 4])),bj (bD (ab 1) (bR (kq (ab 5)) (aG [ag [aa (.int 26)]]) (aG [])))]) (ae [aV 6 (aB .mod (ah 42 [ab 0]) (cj (ab 3))),bj (az (ab 1) (ag [aa (.int 14),bR (aq .eq (fA .eq (ao (ab 3) (aB .sub (ba (aa (.int 1))) (ab 6))) (aa (.int 1))) (ab 5)) (ab 6) (ab 4),ab 4]))])]
def rZ:MS:=ae [bl (aq .eq (ab 2) (aa (.int 3))) (ae [bj (az (ab 1) (ag [aa (.int 2),ba (aa (.int 64))])),bj (ah 44 [ab 0,ab 1,aB .sub (ab 3) (aa (.int 1)),aB .add (ab 4) (aG [aa (.int 0)])]),bj (az (ab 1) (ag [aa (.int 11)]))]) (ae [bl (aq .eq (ab 2) (aa (.int 4))) (ae [bj (ah 43 [ab 0,ab 1,aa (.int 1),ab 4]),bj (az (ab 1) (ag [aa (.int 4),ba (aa (.int 64))])),bj (ah 44 [ab 0,ab 1,aB .sub (ab 3) (aa (.int 1)),aB .add (ab 4) (aG [aa (.int 0)])]),bl (aq .eq (aB .mod (ah 42 [ab 0]) (aa (.int 2))) (aa (.int 1))) (ae [bj (az (ab 1) (ag [aa (.int 5)])),bj (ah 44 [ab 0,ab 1,aB .sub (ab 3) (aa (.int 1)),aB .add (ab 4) (aG [aa (.int 0)])])]) (ae []),bj (az (ab 1) (ag [aa (.int 11)]))]) (ae [bj (bD (ab 1) (aG [ag [aa (.int 65),aa (.int 2)],ag [aa (.int 33),aa (.int 4)],ag [aa (.int 2),ba (aa (.int 64))],ag [aa (.int 3),ba (aa (.int 64))],ag [aa (.int 32),aa (.int 4)],ag [aa (.int 69)],ag [aa (.int 13),aa (.int 1)]])),bj (bD (ab 1) (aG [ag [aa (.int 32),aa (.int 4)],ag [aa (.int 65),aa (.int 1)],ag [aa (.int 107)],ag [aa (.int 33),aa (.int 4)]])),bj (ah 44 [ab 0,ab 1,aB .sub (ab 3) (aa (.int 1)),aB .add (ab 4) (aG [aa (.int 0),aa (.int 2)])]),bj (bD (ab 1) (aG [ag [aa (.int 12),aa (.int 0)],ag [aa (.int 11)],ag [aa (.int 11)]]))])])]
def uf:MS:=ae [aV 4 (aB .mod (ah 42 [ab 0]) (aa (.int 12))),bl (cD [aq .isin (ab 4) (ag [aa (.int 3),aa (.int 4),aa (.int 5)]),aq .gt (ab 2) (aa (.int 0)),sU [aq .lt (ab 4) (aa (.int 5)),aq .eI (aa (.int 2)) (ab 3)]]) (ae [bj (ah 46 [ab 0,ab 1,ab 4,ab 2,ab 3])]) (ae [bl (sU [aq .isin (ab 4) (ag [aa (.int 7),aa (.int 8)]),cD [aq .eq (ab 4) (aa (.int 6)),aq .gt (cj (ab 3)) (aa (.int 1))]]) (ae [bj (ah 45 [ab 0,ab 1,ab 4,ab 3])]) (ae [bl (aq .eq (ab 4) (aa (.int 2))) (ae [bj (az (ab 1) (ag [aa (.int 1)]))]) (ae [bl (cD [aq .eq (ab 4) (aa (.int 10)),aq .gt (cj (ab 3)) (aa (.int 1))]) (ae [bj (az (ab 1) (ag [aa (.int 0)]))]) (ae [bj (ah 43 [ab 0,ab 1,bR (aq .eq (ab 4) (aa (.int 1))) (aa (.int 2)) (aa (.int 1)),ab 3]),aV 5 (aB .mod (ah 42 [ab 0]) (aa (.int 4))),bl (aq .eq (ab 4) (aa (.int 1))) (ae [bj (az (ab 1) (ag [aa (.int 26)]))]) (ae [bl (cD [aq .eq (ab 4) (aa (.int 9)),aq .gt (cj (ab 3)) (aa (.int 1))]) (ae [bj (az (ab 1) (ag [aa (.int 15)]))]) (ae [bj (az (ab 1) (ag [aa (.int 33),ab 5])),bj (bD (ab 1) (bR (aq .eq (ab 4) (aa (.int 11))) (aG [ag [aa (.int 32),ab 5],ag [aa (.int 33),aB .mod (aB .add (ab 5) (ah 42 [ab 0])) (aa (.int 4))]]) (aG [])))])])])])])])]
def uo:MS:=ae [bu [1,2,3] (ag [yv,yv,aG []]),bX (.two 4 5) (yC (ck (ab 0) none (some (ba (aa (.int 1)))))) xZ,aL (ag [ab 1,ab 2])]
def sV:MS:=ae [aV 4 (ao (ab 0) (aa (.int 0))),bl (aq .eq (ab 4) (aa (.int 65))) (ae [bj (az (ab 1) (aB .mod (ao (ab 0) (aa (.int 1))) (aB .pow (aa (.int 2)) (aa (.int 32)))))]) (ae [bl (aq .eq (ab 4) (aa (.int 32))) (ae [bj (az (ab 1) (ao (ab 2) (ao (ab 0) (aa (.int 1)))))]) (ae [bl (aq .eq (ab 4) (aa (.int 33))) (ae [ew (ab 2) (ao (ab 0) (aa (.int 1))) (fU (ab 1))]) (ae [bl (aq .eq (ab 4) (aa (.int 34))) (ae [ew (ab 2) (ao (ab 0) (aa (.int 1))) (ao (ab 1) (ba (aa (.int 1))))]) (ae [bl (aq .eq (ab 4) (aa (.int 69))) (ae [bj (az (ab 1) (fi (fA .eq (fU (ab 1)) (aa (.int 0)))))]) (ae [bl (aq .eq (ab 4) (aa (.int 16))) (ae [bj (az (ab 3) (ao (ab 1) (ba (aa (.int 1))))),bj (az (ab 1) (aB .mod (aB .add (fU (ab 1)) (aa (.int 1))) (aB .pow (aa (.int 2)) (aa (.int 32)))))]) (ae [bl (aq .eq (ab 4) (aa (.int 27))) (ae [bu [5,6,7] (ag [fU (ab 1),fU (ab 1),fU (ab 1)]),bj (az (ab 1) (bR (aq .ne (ab 5) (aa (.int 0))) (ab 7) (ab 6)))]) (ae [bl (aq .eq (ab 4) (aa (.int 26))) (ae [bj (fU (ab 1))]) (ae [bl (aq .ne (ab 4) (aa (.int 1))) (ae [bu [6,7] (ag [fU (ab 1),fU (ab 1)]),bl (cD [aq .eq (ab 4) (aa (.int 110)),aq .eq (ab 6) (aa (.int 0))]) (ae [aL (aa (.bool true))]) (ae []),bj (az (ab 1) (bR (aq .eq (ab 4) (aa (.int 110))) (aB .fdiv (ab 7) (ab 6)) (aB .mod (aB .add (ab 7) (bR (aq .eq (ab 4) (aa (.int 106))) (ab 6) (ba (ab 6)))) (aB .pow (aa (.int 2)) (aa (.int 32))))))]) (ae [])])])])])])])])]),aL (aa (.bool false))]
def pR:MS:=ae [bu [2,3] (ah 48 [ab 0]),bu [4,5,6,7] (ag [aG [],aG [],aa (.int 0),aG [ag [cj (ab 0),aa (.int 0),aa (.int 1),aa (.bool false)]]]),bX (.one 8) (eG (aa (.int 3000))) HC,aL (ag [aa (.str "long"),ab 5])]
def ig:MS:=ae [aV 2 (aa (.int 0)),bX (.one 3) (g5 (ck (ab 0) (some (aB .add (ab 1) (aa (.int 1)))) none)) J5,aL (aa (.bool false))]
def mP:MS:=ae [aV 2 (aG [ag [aa (.int 33),aa (.int 32)],ag [aa (.int 32),aa (.int 33)],ag [aa (.int 34),aa (.int 33)],ag [aa (.int 32),aa (.int 34)],ag [aa (.int 34),aa (.int 34)]]),bX (.one 3) (eG (aB .sub (cj (ab 0)) (aa (.int 1)))) leB,aL (aa (.bool false))]
def w8:MS:=ae [bl (aq .eq (ab 0) (aa (.int 0))) (ae [bj (ah 35 [ab 1])]) (ae [bl (aq .eq (ab 0) (aa (.int 1))) (ae [bj (ah 37 [ab 1])]) (ae [bl (aq .eq (ab 0) (aa (.int 2))) (ae [bj (ah 39 [ab 1])]) (ae [bl (aq .eq (ab 0) (aa (.int 3))) (ae [bj (ah 40 [ab 1])]) (ae [bl (aq .eq (ab 0) (aa (.int 4))) (ae [bj (ah 41 [ab 1])]) (ae [bj (ah 32 [ab 1])])])])])])]
def K3:MS:=ae [aV 0 (ck (ab 0) none (some (aa (.int 63)))),aV 1 (FA (ab 0)),bu [2,3] (ag [aB .mod (ah 42 [ab 1]) (aa (.int 8)),aB .mod (ah 42 [ab 1]) (aa (.int 6))]),aV 4 (aG [aB .mod (aB .add (ah 42 [ab 1]) (aa (.int 1))) (aB .pow (aa (.int 2)) (aa (.int 32))),aB .mod (aB .add (ah 42 [ab 1]) (aa (.int 1))) (aB .pow (aa (.int 2)) (aa (.int 32))),aa (.int 0),aa (.int 0),aa (.int 0)]),aV 5 (aG [ag [aa (.int 32),aa (.int 0)],ag [aa (.int 16),aa (.int 0)],ag [aa (.int 26)],ag [aa (.int 2),ba (aa (.int 64))],ag [aa (.int 2),ba (aa (.int 64))],ag [aa (.int 32),aa (.int 0)],ag [aa (.int 13),aa (.int 1)],ag [aa (.int 11)],ag [aa (.int 65),aa (.int 7)],ag [aa (.int 33),aa (.int 1)]]),bj (az (ab 5) (ag [aa (.int 11)])),bj (bD (ab 5) (aG [ag [aa (.int 32),aa (.int 0)],ag [aa (.int 4),ba (aa (.int 64))],ag [aa (.int 5)],ag [aa (.int 65),aa (.int 3)],ag [aa (.int 33),aa (.int 2)],ag [aa (.int 11)]])),bj (bD (ab 5) (aG [ag [aa (.int 2),ba (aa (.int 64))],ag [aa (.int 2),ba (aa (.int 64))],ag [aa (.int 65),aa (.int 1)],ag [aa (.int 14),aa (.int 0),aa (.int 1)],ag [aa (.int 11)],ag [aa (.int 65),aa (.int 9)],ag [aa (.int 33),aa (.int 3)],ag [aa (.int 11)]])),bj (bD (ab 5) (aG [ag [aa (.int 2),ba (aa (.int 64))],ag [aa (.int 65),aa (.int 1)],ag [aa (.int 13),aa (.int 0)],ag [aa (.int 65),aa (.int 8)],ag [aa (.int 33),aa (.int 3)],ag [aa (.int 11)]])),bj (bD (ab 5) (aG [ag [aa (.int 2),ba (aa (.int 64))],ag [aa (.int 65),aa (.int 0)],ag [aa (.int 13),aa (.int 0)],ag [aa (.int 32),aa (.int 3)],ag [aa (.int 65),aa (.int 5)],ag [aa (.int 106)],ag [aa (.int 33),aa (.int 3)],ag [aa (.int 11)]])),fq MT MG,bj (ah 43 [ab 1,ab 5,aa (.int 2),aG [aa (.int 1)]]),bj (bD (ab 5) (aG [ag [aa (.int 32),aa (.int 1)],ag [aa (.int 106)],ag [aa (.int 32),aa (.int 2)],ag [aa (.int 106)],ag [aa (.int 32),aa (.int 3)],ag [aa (.int 106)],ag [aa (.int 11)]])),aV 6 (ah 16 [ab 5]),bl (aq .ne (ah 18 [ab 6]) (ab 5)) (ae [aL (aa (.bool false))]) (ae []),aV 7 (bR (aq .lt (ab 2) (aa (.int 2))) (dP (aB .mod (aB .add (ab 3) (ab 11)) (aa (.int 6))) (eG (aa (.int 6))) none) (aG [aB .sub (ab 2) (aa (.int 2))])),bX (.one 8) (g5 (ab 7)) Lz,bu [9,10] (ag [ah 18 [ab 6],ao (ab 7) (ba (aa (.int 1)))]),aL (pX (fA .eq (ah 50 [ab 9,fC (ab 4)]) (ah 50 [ab 5,fC (ab 4)])) (mz (ah 52 [ab 9,ab 10])))]
def gT:MS:=ae [aV 1 (FA (ab 0)),bu [2,3] (ag [aB .mod (ah 42 [ab 1]) (aa (.int 8)),aB .mod (ah 42 [ab 1]) (aa (.int 6))]),aV 4 (aG [aB .mod (aB .add (ah 42 [ab 1]) (aa (.int 1))) (aB .pow (aa (.int 2)) (aa (.int 32))),aB .mod (aB .add (ah 42 [ab 1]) (aa (.int 1))) (aB .pow (aa (.int 2)) (aa (.int 32))),aa (.int 0),aa (.int 0),aa (.int 0)]),aV 5 (aG [ag [aa (.int 32),aa (.int 0)],ag [aa (.int 16),aa (.int 0)],ag [aa (.int 26)],ag [aa (.int 2),ba (aa (.int 64))],ag [aa (.int 2),ba (aa (.int 64))],ag [aa (.int 32),aa (.int 0)],ag [aa (.int 13),aa (.int 1)],ag [aa (.int 11)],ag [aa (.int 65),aa (.int 7)],ag [aa (.int 33),aa (.int 1)]]),bj (az (ab 5) (ag [aa (.int 11)])),bj (bD (ab 5) (aG [ag [aa (.int 32),aa (.int 0)],ag [aa (.int 4),ba (aa (.int 64))],ag [aa (.int 5)],ag [aa (.int 65),aa (.int 3)],ag [aa (.int 33),aa (.int 2)],ag [aa (.int 11)]])),bj (bD (ab 5) (aG [ag [aa (.int 2),ba (aa (.int 64))],ag [aa (.int 2),ba (aa (.int 64))],ag [aa (.int 65),aa (.int 1)],ag [aa (.int 14),aa (.int 0),aa (.int 1)],ag [aa (.int 11)],ag [aa (.int 65),aa (.int 9)],ag [aa (.int 33),aa (.int 3)],ag [aa (.int 11)]])),bj (bD (ab 5) (aG [ag [aa (.int 2),ba (aa (.int 64))],ag [aa (.int 65),aa (.int 1)],ag [aa (.int 13),aa (.int 0)],ag [aa (.int 65),aa (.int 8)],ag [aa (.int 33),aa (.int 3)],ag [aa (.int 11)]])),bj (bD (ab 5) (aG [ag [aa (.int 2),ba (aa (.int 64))],ag [aa (.int 65),aa (.int 0)],ag [aa (.int 13),aa (.int 0)],ag [aa (.int 32),aa (.int 3)],ag [aa (.int 65),aa (.int 5)],ag [aa (.int 106)],ag [aa (.int 33),aa (.int 3)],ag [aa (.int 11)]])),fq MT MG,bj (ah 43 [ab 1,ab 5,aa (.int 2),aG [aa (.int 1)]]),bj (bD (ab 5) (aG [ag [aa (.int 32),aa (.int 1)],ag [aa (.int 106)],ag [aa (.int 32),aa (.int 2)],ag [aa (.int 106)],ag [aa (.int 32),aa (.int 3)],ag [aa (.int 106)],ag [aa (.int 11)]])),aV 6 (ah 16 [ab 5]),bl (aq .ne (ah 18 [ab 6]) (ab 5)) (ae [aL (aa (.bool false))]) (ae []),aV 7 (bR (aq .lt (ab 2) (aa (.int 2))) (dP (aB .mod (aB .add (ab 3) (ab 11)) (aa (.int 6))) (eG (aa (.int 6))) none) (aG [aB .sub (ab 2) (aa (.int 2))])),bX (.one 8) (g5 (ab 7)) Lz,bu [9,10] (ag [ah 18 [ab 6],ao (ab 7) (ba (aa (.int 1)))]),aL (pX (fA .eq (ah 50 [ab 9,fC (ab 4)]) (ah 50 [ab 5,fC (ab 4)])) (mz (ah 52 [ab 9,ab 10])))]
noncomputable def Iv{α:Type}(l:List α)(k:Nat):Option α:=match l with
 |[]=>none
 |x::l=>match k with
  |0=>some x
  |k+1=>Iv l k
noncomputable def Jq:List Fn:=
 [⟨2,2,wj⟩,⟨2,2,D0⟩,⟨2,2,Lw⟩,⟨3,3,Mm⟩,⟨3,3,LK⟩,⟨3,3,FR⟩,⟨4,4,wm⟩,⟨1,1,ug⟩,⟨1,1,vR⟩,⟨1,1,sR⟩,⟨1,2,wK⟩,⟨2,4,AY⟩,⟨3,4,AA⟩,⟨1,1,I7⟩,⟨1,1,F0⟩,⟨1,1,Ca⟩,⟨1,5,tq⟩,⟨2,3,qR⟩,⟨1,2,AN⟩,⟨2,4,xG⟩,⟨2,4,mJ⟩,⟨1,1,xj⟩,⟨1,2,qX⟩,⟨1,1,ov⟩,⟨2,2,vD⟩,⟨1,2,tH⟩,⟨2,6,xS⟩,⟨1,5,o7⟩,⟨2,3,nM⟩,⟨2,2,o5⟩,⟨1,4,oY⟩,⟨1,1,sG⟩,⟨1,4,ph⟩,⟨1,2,rY⟩,⟨1,1,lQ⟩,⟨1,4,xF⟩,⟨1,4,xU⟩,⟨1,4,sN⟩,⟨1,3,tC⟩,⟨1,4,oq⟩,⟨1,4,uh⟩,⟨1,4,oH⟩,⟨1,1,wh⟩,⟨4,6,ti⟩,⟨4,5,xN⟩,⟨4,7,vV⟩,⟨5,5,rZ⟩,⟨4,6,uf⟩,⟨1,7,uo⟩,⟨4,8,sV⟩,⟨2,18,pR⟩,⟨2,4,ig⟩,⟨2,6,mP⟩,⟨2,2,w8⟩,⟨1,11,K3⟩]
noncomputable def fns(k:Nat):Option Fn:=Iv Jq k
noncomputable def KA:List (String × V):=
 [("I32_EQZ_arith",(.int 69)),
  ("I32_EQ",(.int 70)),
  ("I64_EQZ",(.int 80)),
  ("I64_EQ",(.int 81)),
  ("I32_CLZ",(.int 103)),
  ("I32_ADD",(.int 106)),
  ("I64_CLZ",(.int 121)),
  ("I64_ADD",(.int 124)),
  ("WRAP",(.int 167)),
  ("EXTEND_S",(.int 172)),
  ("EXTEND_U",(.int 173)),
  ("I32_EXTEND8",(.int 192)),
  ("I64_EXTEND8",(.int 194)),
  ("COUNTS",(.tup [(.fn 100),(.fn 101),(.fn 102)])),
  ("COMPARES",(.tup [(.fn 115),(.fn 116),(.fn 117),(.fn 118),(.fn 119),(.fn 120),(.fn 121),(.fn 122),(.fn 123),(.fn 124)])),
  ("REST",(.tup [(.fn 3),(.fn 4),(.fn 103),(.fn 104),(.fn 5),(.fn 105),(.fn 106),(.fn 107),(.fn 108),(.fn 109),(.fn 110),(.fn 111),(.fn 112),(.fn 113),(.fn 114)])),
  ("FIRST_DIVISION",(.int 3)),
  ("LAST_DIVISION",(.int 6)),
  ("UNREACHABLE",(.int 0)),
  ("NOP",(.int 1)),
  ("BLOCK",(.int 2)),
  ("LOOP",(.int 3)),
  ("IF",(.int 4)),
  ("ELSE",(.int 5)),
  ("END",(.int 11)),
  ("BR",(.int 12)),
  ("BR_IF",(.int 13)),
  ("BR_TABLE",(.int 14)),
  ("RETURN",(.int 15)),
  ("RETURN_CALL",(.int 18)),
  ("RETURN_CALL_INDIRECT",(.int 19)),
  ("DROP",(.int 26)),
  ("SELECT",(.int 27)),
  ("SELECT_KINDS",(.int 28)),
  ("LOCAL_GET",(.int 32)),
  ("LOCAL_SET",(.int 33)),
  ("LOCAL_TEE",(.int 34)),
  ("GLOBAL_GET",(.int 35)),
  ("MEMORY_SIZE",(.int 63)),
  ("I32_CONST",(.int 65)),
  ("I64_CONST",(.int 66)),
  ("REF_NULL",(.int 208)),
  ("REF_IS_NULL",(.int 209)),
  ("REF_FUNC",(.int 210)),
  ("TABLE_SIZE",(.int 64528)),
  ("LAST",(.tup [(.int 0),(.int 12),(.int 14),(.int 15),(.int 18),(.int 19)])),
  ("I32_EQZ_passes",(.int 69)),
  ("PUTS",(.tup [(.int 32),(.int 35),(.int 65),(.int 66),(.int 63),(.int 64528),(.int 208),(.int 210)])),
  ("unsigned",.fn 0),
  ("signed",.fn 1),
  ("eqz",.fn 2),
  ("add",.fn 3),
  ("sub",.fn 4),
  ("div_u",.fn 5),
  ("place_in",.fn 6),
  ("narrow_of",.fn 7),
  ("is_unary",.fn 8),
  ("is_binary",.fn 9),
  ("can_trap",.fn 10),
  ("reckon1",.fn 11),
  ("reckon2",.fn 12),
  ("pieces_of",.fn 16),
  ("put_pieces",.fn 17),
  ("body_of",.fn 18),
  ("is_named",.fn 19),
  ("lower_labels",.fn 20),
  ("takes_of",.fn 21),
  ("neutral_of",.fn 22),
  ("constant_of",.fn 23),
  ("constant",.fn 24),
  ("widths_of",.fn 25),
  ("reckoned",.fn 26),
  ("fold_number",.fn 27),
  ("chosen_label",.fn 28),
  ("fold_select",.fn 29),
  ("fold_choice",.fn 30),
  ("fold_last",.fn 31),
  ("fold_pieces",.fn 32),
  ("never_ends",.fn 33),
  ("never_goes_on",.fn 34),
  ("cut_dead",.fn 35),
  ("put_drop",.fn 36),
  ("cut_drops",.fn 37),
  ("join_last",.fn 38),
  ("join_locals",.fn 39),
  ("cut_empty",.fn 40),
  ("open_blocks",.fn 41),
  ("_law_next",.fn 42),
  ("_law_value",.fn 43),
  ("_law_list",.fn 44),
  ("_law_jump",.fn 45),
  ("_law_nested",.fn 46),
  ("_law_do",.fn 47),
  ("_law_marks",.fn 48),
  ("_law_plain",.fn 49),
  ("_law_run",.fn 50),
  ("_law_is_named",.fn 51),
  ("_law_left",.fn 52),
  ("_law_pass",.fn 53),
  ("law",.fn 54),
  ("clz",.fn 100),
  ("ctz",.fn 101),
  ("popcnt",.fn 102),
  ("mul",.fn 103),
  ("div_s",.fn 104),
  ("rem_s",.fn 105),
  ("rem_u",.fn 106),
  ("bits_and",.fn 107),
  ("bits_or",.fn 108),
  ("bits_xor",.fn 109),
  ("shl",.fn 110),
  ("shr_s",.fn 111),
  ("shr_u",.fn 112),
  ("rotl",.fn 113),
  ("rotr",.fn 114),
  ("eq",.fn 115),
  ("ne",.fn 116),
  ("lt_s",.fn 117),
  ("lt_u",.fn 118),
  ("gt_s",.fn 119),
  ("gt_u",.fn 120),
  ("le_s",.fn 121),
  ("le_u",.fn 122),
  ("ge_s",.fn 123),
  ("ge_u",.fn 124),
  ("Piece",.obj 0),
  ("Trap",.obj 1),
  ("DIVIDE_BY_ZERO",.str "integer divide by zero")]
end
section
open PySem (Str NameKind Scope)
structure Cx where
 sc:Rb
 idx:List (Qd × Nat)
 glob:List (Qd × V)
noncomputable def HQ(x:Qd):Bool:=x == (R7 "__debug__")
noncomputable def Cx.loc(cx:Cx)(x:Qd):Option Nat:=
 if HQ x then none else match cx.sc.names.lookup x with
 |some .local=>cx.idx.lookup x
 |some .cell=>cx.idx.lookup x
 |_=>none
noncomputable def Cx.gl(cx:Cx)(x:Qd):Option V:=
 if HQ x then none else match cx.sc.names.lookup x with
 |some .globalImplicit=>cx.glob.lookup x
 |_=>none
noncomputable def Cx.blt(cx:Cx)(x:Qd)(s:String):Bool:=x == PR s && cx.sc.names.lookup x == some .globalImplicit
def kR(cx:Cx)(x:Qd):ME:=match cx.loc x with
 |some i=>ab i
 |none=>match cx.gl x with |some (.obj _)=>bH |some v=>aa v |none=>bH
noncomputable def lu:U5->Option Ha
 |.Add=>some .add |.Sub=>some .sub |.FloorDiv=>some .fdiv |.Mod=>some .mod |.LShift=>some .shl |.RShift=>some .shr |.BitAnd=>some .band |.Pow=>some .pow
 |_=>none
noncomputable def eu:T9->Option yp
 |.Eq=>some .eq |.NotEq=>some .ne |.Lt=>some .lt |.LtE=>some .le |.Gt=>some .gt |.GtE=>some .ge |.In=>some .isin |.NotIn=>some .eI
 |_=>none
def yH:Wt->ME
 |.int i=>aa (.int i)
 |.none=>aa .none
 |.bool b=>aa (.bool b)
 |.str s=>if s == PR "trap" then aa (.str "trap") else if s == PR "long" then aa (.str "long") else bH
 |_=>bH
noncomputable def isSet:PO->Bool
 |.Set ..=>true
 |_=>false
noncomputable def isStar:PO->Bool
 |.Starred ..=>true
 |_=>false
noncomputable def eF:PO->Bool
 |.Call (.Name _ _) [] [] _=>true
 |_=>false
noncomputable def yM(f:ME->ME->ME):List ME->ME
 |[]=>bH
 |[a]=>a
 |a::r=>f a (yM f r)
noncomputable def dZ(outer inner:Rb):Rb:=
 {inner with names:=inner.names.map λ(n,k)=>if(k == .free && outer.kind == .function && outer.names.lookup n == some .cell) then(n,.cell) else(n,k)}
noncomputable def Cx.inner(cx:Cx)(sc:Rb)(x:Qd)(n:Nat):Cx:={sc:=dZ cx.sc sc,idx:=(x,n)::cx.idx,glob:=cx.glob}
noncomputable def fresh?(cx:Cx)(sc:Rb)(x:Qd):Bool:=
 (sc.names.all λ(n,k)=>match k with
  |.local=>(n == x || n == PR ".0") && (dZ cx.sc sc).names.lookup n == some .local
  |.free=>cx.sc.names.lookup n == some .cell && n != x
  |.globalImplicit=>true
  |_=>false) && (sc.names.lookup x == some .local) && (cx.idx.lookup (PR ".0") == none) && !HQ x && (sc.kind == .function) && (cx.sc.kind == .function) && cx.idx.all λp=>decide (p.2 < cx.idx.length)
noncomputable def vI(cx:Cx)(sc:Rb)(x:Qd)(iter:PO):Bool:=
 fresh? cx sc x && (sc.names.all λ(n,k)=>k != .local || sc.names.lookup n == some .local) && !isSet iter
def N8:PySem.BoolOp->ME->ME->ME
 |.And=>pX
 |.Or=>DR
def BJ(op:U5)(a b:ME):ME:=match lu op with |some o=>aB o a b |none=>bH
def NO:PySem.UnaryOp->ME->ME
 |.USub,d=>ba d
 |.Not,d=>mz d
 |_,_=>bH
noncomputable def Hg:Wt->Bool
 |.none=>true
 |_=>false
noncomputable def rh:PO->Bool
 |.Constant c _ _=>Hg c
 |_=>false
noncomputable def L6:Wt->Bool
 |.int i=>i == 1
 |_=>false
noncomputable def BD:PO->Bool
 |.Constant c _ _=>L6 c
 |_=>false
noncomputable def Kl:PO->Bool
 |.UnaryOp op e _=>op == .USub && BD e
 |_=>false
noncomputable def E3:T9->Option Bool
 |.Is=>some true
 |.IsNot=>some false
 |_=>none
def Pu:Bool->ME->MB
 |true=>eM
 |false=>bQ
section
variable{α:Type}(bad:α)(g:yp->ME->ME->α)(k:MB->α)(f:PO->ME)
noncomputable def mj(l r:PO)(o:T9):α:=match E3 o with
 |some b=>if rh r then k (Pu b (f l)) else bad
 |none=>if isSet r then bad else match eu o with |some o=>g o (f l) (f r) |none=>bad
noncomputable def JT(l a b:PO)(o1 o2:T9):α:=
 if isSet b then bad else match eu o1,eu o2 with |some o1,some o2=>k (f7 o1 o2 (f l) (f a) (f b)) |_,_=>bad
noncomputable def yQ(l:PO)(ops:List T9)(cs:List PO):α:=match ops,cs with
 |[o],[r]=>mj bad g k f l r o
 |[o1,o2],[a,b]=>JT bad k f l a b o1 o2
 |_,_=>bad
end
def DP(v:PO)(d:ME)(a:Qd):ME:=if eF v then bH
 else if a == PR "plain" then bF .plain d
 else if a == PR "first" then bF .first d
 else if a == PR "second" then bF .second d
 else if a == PR "code" then cq d
 else bH
def IX:List (Option PO)->List PO->ME
 |[],[]=>yv
 |_,_=>bH
def LB(d:ME)(g:Option PO->Option ME)(lo hi:Option PO):Option PO->ME
 |none=>ck d (g lo) (g hi)
 |some s=>if Kl s && lo.isNone && hi.isNone then FA d else bH
def HJ(f:PO->ME)(g:Option PO->Option ME)(v i:PO):ME:=match i with
 |.Slice lo hi st _=>LB (f v) g lo hi st
 |i=>ao (f v) (f i)
def C7(f:PO->ME)(d:ME)(a:Qd):List PO->ME
 |[]=>if a == PR "pop" then fU d
  else if a == PR "parts" then dw 14 d
  else if a == PR "labels" then dw 15 d
  else bH
 |[x]=>if a == PR "append" then az d (f x)
  else if a == PR "extend" then bD d (f x)
  else bH
 |_=>bH
def Hl(cx:Cx)(h:PO->ME)(f:Qd):List PO->ME
 |[x]=>
  if cx.blt f "len" then cj (h x)
  else if cx.blt f "any" then JF (h x)
  else if cx.blt f "tuple" then w7 (h x)
  else if cx.blt f "list" then fC (h x)
  else if cx.blt f "int" then fi (h x)
  else bH
 |[x,y]=>if cx.blt f "min" then Iz (h x) (h y) else bH
 |_=>bH
def NR(h:PO->ME)(args:List PO):V->ME
 |.fn k=>ah k (args.map h)
 |.obj 0=>ia (args.map h)
 |_=>bH
def I6(cx:Cx)(h:PO->ME)(f:Qd)(args:List PO):ME:=match cx.gl f with
 |some v=>if args.isEmpty then bH else NR h args v
 |none=>Hl cx h f args
def Cp(cx:Cx)(h:PO->ME)(f:PO)(args:List PO)(pos:PySem.Pos):ME:=if args.any isStar then bH else match f with
 |.Attribute o a apos=>if eF o || !(apos.endLine == pos.line) then bH else C7 h (h o) a args
 |.Name f _=>I6 cx h f args
 |.Subscript v i p=>if args.isEmpty then bH else m7 (h (.Subscript v i p)) (args.map h)
 |_=>bH
def Nz(cx:Cx)(h:Cx->PO->ME)(hb:Cx->PO->MB)(hi:PO->MI)(elt:PO)(sc:Rb)(x:Qd)(iter:PO):List PO->ME
 |[]=>if vI cx sc x iter then dP (h (cx.inner sc x cx.idx.length) elt) (hi iter) none else bH
 |[t]=>if vI cx sc x iter then dP (h (cx.inner sc x cx.idx.length) elt) (hi iter) (some (hb (cx.inner sc x cx.idx.length) t)) else bH
 |_=>bH
def NV(cx:Cx)(h:Cx->PO->ME)(hb:Cx->PO->MB)(hi:PO->MI)(elt:PO)(sc:Rb)(iter:PO)(ifs:List PO):PO->ME
 |.Name x _=>Nz cx h hb hi elt sc x iter ifs
 |_=>bH
def xR(cx:Cx)(h:Cx->PO->ME)(hb:Cx->PO->MB)(hi:PO->MI)(elt:PO)(sc:Rb):List PySem.Comprehension->ME
 |[⟨t,iter,ifs,k⟩]=>if k == 0 then NV cx h hb hi elt sc iter ifs t else bH
 |_=>bH
def LW:MI:=λ_ _ _ _ _=>False
def MV(cx:Cx)(h:PO->ME)(e x:PO)(f:Qd):MI:=if isStar x then LW else match cx.gl f with
 |none=>if cx.blt f "range" then eG (h x) else if cx.blt f "enumerate" then yC (h x) else g5 (h e)
 |some _=>g5 (h e)
def K8(cx:Cx)(h:PO->ME)(e f:PO):List PO->MI
 |[x]=>match f with
  |.Name f _=>MV cx h e x f
  |_=>g5 (h e)
 |_=>g5 (h e)
mutual
noncomputable def eB:Nat->Cx->PO->ME
 |0,_,_=>bH
 |n+1,cx,e=>match e with
  |.Constant c _ _=>yH c
  |.Name x _=>kR cx x
  |.BinOp l op r _=>BJ op (eB n cx l) (eB n cx r)
  |.UnaryOp op x _=>NO op (eB n cx x)
  |.BoolOp op vs _=>yM (N8 op) (vs.map (eB n cx))
  |.IfExp t a b _=>bR (Eg n cx t) (eB n cx a) (eB n cx b)
  |.Tuple es _ _=>ag (es.map (eB n cx))
  |.List es _=>aG (es.map (eB n cx))
  |.Dict ks vs _=>IX ks vs
  |.Compare l ops cs _=>yQ bH fA mW (eB n cx) l ops cs
  |.Subscript v i _=>HJ (eB n cx) (JR n cx) v i
  |.Attribute v a _=>DP v (eB n cx v) a
  |.Call f args kws pos=>if kws.isEmpty then Cp cx (eB n cx) f args pos else bH
  |.ListComp elt gens sc _=>xR cx (eB n) (Eg n) (I0 n cx) elt sc gens
  |_=>bH
noncomputable def JR:Nat->Cx->Option PO->Option ME
 |0,_,_=>some bH
 |n+1,cx,e=>e.map (eB n cx)
noncomputable def Eg:Nat->Cx->PO->MB
 |0,_,_=>Aq
 |n+1,cx,e=>match e with
  |.UnaryOp op x p=>if op == .Not then ve (Eg n cx x) else kq (eB n cx (.UnaryOp op x p))
  |.BoolOp op vs _=>match op with
   |.And=>cD (vs.map (Eg n cx))
   |.Or=>sU (vs.map (Eg n cx))
  |.IfExp ..=>Aq
  |.Compare l ops cs _=>yQ Aq aq id (eB n cx) l ops cs
  |e=>kq (eB n cx e)
noncomputable def I0:Nat->Cx->PO->MI
 |0,_,_=>LW
 |n+1,cx,e=>match e with
  |.Call f xs kws q=>if kws.isEmpty then K8 cx (eB n cx) (.Call f xs kws q) f xs else g5 (eB n cx (.Call f xs kws q))
  |e=>g5 (eB n cx e)
end
noncomputable def f6(e:PO):Option Qd:=TN (λ_=>Option Qd) e (λx _=>some x) λ_=>none
noncomputable def idxs(cx:Cx)(ts:List PO):Option (List Nat):=match ts with
 |[]=>some []
 |t::r=>(f6 t).bind λx=>(cx.loc x).bind λi=>(idxs cx r).map (i::·)
noncomputable def HN(cx:Cx):List PO->Option l6
 |[a,b]=>match f6 a,f6 b with
  |some x,some y=>(cx.loc x).bind λi=>(cx.loc y).map λj=>.two i j
  |_,_=>none
 |_=>none
noncomputable def yV(cx:Cx):PO->Option l6
 |.Name x _=>(cx.loc x).map .one
 |.Tuple es _ _=>HN cx es
 |_=>none
noncomputable def gQ:PO->Bool
 |.ListComp ..=>true
 |.SetComp ..=>true
 |.DictComp ..=>true
 |_=>false
noncomputable def mX(sc:Rb)(ts:List PO):List Qd:=ts.filterMap λx=>TN (λ_=>Option Qd) x (λid pos=>if sc.names.lookup id == some .local && pos.line == (ts.head?.map (·.pos.line)).getD 0 then some id else none) λ_=>none
noncomputable def D7(sc:Rb)(ts vs:List PO):Option (Option (List Qd)):=
 if !(ts.length == 2 || ts.length == 3) || vs.length != ts.length then some none
 else if vs.any (λx=>WJ (λ_=>Bool) x (λ_ _=>true) λ_=>false) then some none
 else if(mX sc ts).length != ts.length || (mX sc ts).eraseDups.length != (mX sc ts).length then some none
 else if vs.all (PySem.foldedForSure 8) then some none
 else if vs.all (PySem.constantsAlone 8) then none
 else if mX sc ts == ts.filterMap f6 then some (some (mX sc ts)) else none
noncomputable def jj(cx:Cx)(ts:List PO)(v:PO):Option (Option (List Qd)):=match v with
 |.Tuple vs _ _=>D7 cx.sc ts vs
 |_=>some none
def CV(cx:Cx)(f:PO->ME)(g:Option PO->Option ME)(v:PO):PO->MS
 |.Name x _=>match cx.loc x with |some i=>aV i (f v) |none=>cQ
 |.Tuple ts _ _=>match idxs cx ts,jj cx ts v with |some is,some _=>bu is (f v) |_,_=>cQ
 |.Attribute o a _=>
   if a == PR "plain" then fu .plain (f o) (f v)
   else if a == PR "first" then fu .first (f o) (f v)
   else if a == PR "second" then fu .second (f o) (f v)
   else cQ
 |.Subscript o i _=>match i with
  |.Slice lo hi st _=>if st.isNone then aZ (f o) (g lo) (g hi) (f v) else cQ
  |i=>ew (f o) (f i) (f v)
 |_=>cQ
def Dh(cx:Cx)(f:PO->ME)(g:Option PO->Option ME)(v:PO):List PO->MS
 |[t]=>CV cx f g v t
 |_=>cQ
def Mh(cx:Cx)(op:U5)(d:ME):PO->MS
 |.Name x _=>match cx.loc x,lu op with |some i,some o=>uT o i d |_,_=>cQ
 |_=>cQ
def LG(f:PO->ME):Option PO->MS
 |none=>aL (aa .none)
 |some e=>aL (f e)
noncomputable def H7(cx:Cx):PO->Bool
 |.Name x _=>match cx.gl x with |some (.obj k)=>k == 1 |_=>false
 |_=>false
noncomputable def strN(cx:Cx):PO->Bool
 |.Name x _=>match cx.gl x with |some (.str _)=>true |_=>false
 |_=>false
noncomputable def Nb(cx:Cx):PO->Bool
 |.Call f [y] ks _=>H7 cx f && strN cx y && ks.isEmpty
 |_=>false
def yE(cx:Cx):Option PO->Option PO->MS
 |some e,none=>if Nb cx e then qJ else cQ
 |_,_=>cQ
noncomputable def l9:TS->Bool
 |.Return (some e) _=>rh e
 |_=>false
noncomputable def Ec(cx:Cx):Vr->Bool
 |.ExceptHandler (some x) none [r] _=>H7 cx x && l9 r
 |_=>false
def Nl(cx:Cx)(f:PO->ME)(e:PO):PO->MS
 |.Name y _=>if gQ e then cQ else match cx.loc y with |some i=>Fp (aV i (f e)) (aL (aa .none)) |none=>cQ
 |_=>cQ
def Np(cx:Cx)(f:PO->ME)(e:PO):List PO->MS
 |[t]=>Nl cx f e t
 |_=>cQ
def Nf(cx:Cx)(f:PO->ME):TS->MS
 |.Assign ts e _=>Np cx f e ts
 |_=>cQ
def HB(cx:Cx)(f:PO->ME):List TS->List Vr->MS
 |[s],[h]=>if Ec cx h then Nf cx f s else cQ
 |_,_=>cQ
mutual
noncomputable def Nw:Nat->Cx->TS->MS
 |0,_,_=>cQ
 |n+1,cx,s=>match s with
  |.Expr e _=>if gQ e then cQ else bj (eB n cx e)
  |.Pass _=>iP
  |.Assign ts v _=>Dh cx (eB n cx) (JR n cx) v ts
  |.AugAssign t op v _=>Mh cx op (eB n cx v) t
  |.Return e _=>LG (eB n cx) e
  |.If t a b _=>bl (Eg n cx t) (uk n cx a) (uk n cx b)
  |.While t b o _=>if o.isEmpty then fq (Eg n cx t) (uk n cx b) else cQ
  |.For t it b o _=>if isSet it || !o.isEmpty then cQ else match yV cx t with |some t=>bX t (I0 n cx it) (uk n cx b) |none=>cQ
  |.Raise e c _=>yE cx e c
  |.Try b hs o f _=>if o.isEmpty && f.isEmpty then HB cx (eB n cx) b hs else cQ
  |_=>cQ
noncomputable def uk:Nat->Cx->List TS->MS
 |0,_,_=>cQ
 |n+1,cx,b=>ae (b.map (Nw n cx))
end
noncomputable def bz(sc:Rb):List (Qd × Nat):=((sc.names.filter λx=>x.2 == .local || x.2 == .cell).map (·.1)).zipIdx
def Cj(glob:List (Qd × V))(sc:Rb)(body:List TS):MS:=uk 60 ⟨sc,bz sc,glob⟩ body
end
section
open PySem
set_option maxHeartbeats 0
noncomputable def j5:List (Qd × V):=KA.map λ(x,v)=>(PR x,v)
def Lx(x:Option (List Sp × Rb)):MS:=match x with |some (b,sc)=>Cj j5 sc b |none=>cQ
end
section
structure GX where
 prog:Rq
 w:Rf
 K:Frag
 base:Qk
 p:Rq
 loose:List Qd
 mg:Qd->Option Value
 mb:Qd->Option Value
 C:Addr
 TC:Addr
 dS:Nat->Addr
 glob:List (Qd × V)
 os:OsState
 gens:Array WM
section
variable(G:GX)(h:Qk)(as:List Addr)
mutual
inductive aF:V->Value->Prop
 |none:aF .none .none
 |bool (b:Bool):aF (.bool b) (.bool b)
 |int (i:Int) (t:Tok):aF (.int i) (.int i t)
 |str (s:String) (t:Tok):aF (.str s) (.str (PR s) t)
 |tup {vs:List V} {its:List Value} {a:Addr}:Q3 h a its.toArray->a∉as->its.length<=bh+1->aE vs its->aF (.tup vs) (.ref a)
 |lst {a:Addr}:a∈as->aF (.lst a) (.ref a)
 |obj {a:Addr}:a∈as->aF (.obj a) (.ref a)
 |hJ {a:Addr}:a∈as->aF (.hJ a) (.ref a)
 |fn (k:Nat):aF (.fn k) (.ref (G.dS k))
inductive aE:List V->List Value->Prop
 |nil:aE [] []
 |cons {v:V} {x:Value} {vs:List V} {xs:List Value}:aF v x->aE vs xs->aE (v::vs) (x::xs)
end
end
def FC(G:GX)(h:Qk)(as:List Addr)(v:V)(x:Value):Prop:=match v with
 |.none=>x = .none
 |.bool b=>x = .bool b
 |.int i=>∃t,x = .int i t
 |.str s=>∃t,x = .str (PR s) t
 |.tup vs=>∃(its:List Value)(a:Addr),x = .ref a/\Q3 h a its.toArray/\a∉as/\its.length<=bh+1/\aE G h as vs its
 |.lst a=>x = .ref a/\a∈as
 |.obj a=>x = .ref a/\a∈as
 |.hJ a=>x = .ref a/\a∈as
 |.fn k=>x = .ref (G.dS k)
theorem aF.inv(r:aF G h as v x):FC G h as v x:=by
 cases r
 case none=>rfl
 case bool=>rfl
 case int=>exact⟨_,rfl⟩
 case str=>exact⟨_,rfl⟩
 case tup e n z r=>exact⟨_,_,rfl,e,n,z,r⟩
 case lst m=>exact⟨rfl,m⟩
 case obj m=>exact⟨rfl,m⟩
 case hJ m=>exact⟨rfl,m⟩
 case fn=>rfl
section
variable{G:GX}{h:Qk}{as:List Addr}{x:Value}
theorem aF.int_inv(r:aF G h as (.int i) x):∃t,x = .int i t:=r.inv
theorem aF.bool_inv(r:aF G h as (.bool b) x):x = .bool b:=r.inv
theorem aF.eg(r:aF G h as (.tup vs) x):∃(its:List Value)(a:Addr),x = .ref a/\Q3 h a its.toArray/\a∉as/\its.length<=bh+1/\aE G h as vs its:=r.inv
theorem aF.lst_inv(r:aF G h as (.lst a) x):x = .ref a/\a∈as:=r.inv
theorem aF.lX(r:aF G h as (.obj a) x):x = .ref a/\a∈as:=r.inv
theorem aF.rF(r:aF G h as (.hJ a) x):x = .ref a/\a∈as:=r.inv
theorem aF.HT(r:aF G h as (.fn k) x):x = .ref (G.dS k):=r.inv
theorem aE.nil_inv(r:aE G h as [] xs):xs=[]:=by cases r;rfl
end
structure Step (fs xs:List Addr) (h:Qk) (as:List Addr) (h':Qk) (as':List Addr):Prop where
 keep:∀a o,h.get? a=some o->a∉as->a∉fs->a∉xs->h'.get? a=some o
 cK:∀a o,h.get? a=some o->a∈fs->a∉xs->∃sl,h'.get? a=some {o with slots:=sl}
 tup:∀a its,Q3 h a its->a∉as->Q3 h' a its
 cB:∀a,h.get? a≠none->h'.get? a≠none
 grow:∀a∈as',a∈as\/h.get? a=none
 more:∀a∈as,a∈as'
theorem Step.refl:Step fs xs h as h as:=
 ⟨λ_ _ e _ _ _=>e,λ_ o e _ _=>⟨o.slots,e⟩,λ_ _ e _=>e,λ_ e=>e,λ_ e=>.inl e,λ_ e=>e⟩
theorem Step.out(S:Step fs xs h as h' as')(e:h.get? a=some o)(n:a∉as):a∉as':=λq=>by
 rcases S.grow a q with q |q
 ·exact n q
 ·rw[e] at q;exact b8 q
theorem Step.trans(S:Step fs xs h as h' as')(T:Step fs xs h' as' h'' as''):Step fs xs h as h'' as'' where
 keep a o e n1 n2 n3:=T.keep a o (S.keep a o e n1 n2 n3) (S.out e n1) n2 n3
 cK a o e n1 n2:=by
  refine xE (S.cK a o e n1 n2) λsl e'=>?_;refine xE (T.cK a _ e' n1 n2) λsl' e''=>?_;exact⟨sl',e''⟩
 tup a its e n:=T.tup a its (S.tup a its e n) (let ⟨_,ho,_⟩:=e;S.out ho n)
 cB a e:=T.cB a (S.cB a e)
 grow a q:=by
  rcases T.grow a q with q |q
  ·exact S.grow a q
  ·induction e:h.get? a using Option.casesOn with
   |none=>exact .inr rfl
   |some o=>exact absurd q (S.cB a (by rw[e];exact λz=>by exact b8 z))
 more a q:=T.more a (S.more a q)
theorem Step.weaken(S:Step fs [] h as h' as'):Step fs xs h as h' as':=
 ⟨λa o e n1 n2 _=>S.keep a o e n1 n2 (P6),λa o e n1 _=>S.cK a o e n1 (P6),S.tup,S.cB,S.grow,S.more⟩
theorem aF.pL(ht:∀a its,Q3 h a its->a∉as->Q3 h' a its/\a∉as')(hm:∀a∈as,a∈as'):(∀{v x},aF G h as v x->aF G h' as' v x)/\∀{vs xs},aE G h as vs xs->aE G h' as' vs xs:=
 ⟨aF.rec (motive_1:=λv x _=>aF G h' as' v x) (motive_2:=λv x _=>aE G h' as' v x) .none .bool .int .str (λe n z _ r=>.tup (ht _ _ e n).1 (ht _ _ e n).2 z r) (λm=>.lst (hm _ m)) (λm=>.obj (hm _ m)) (λm=>.hJ (hm _ m)) .fn .nil (λ_ _ a b=>.cons a b),
  aE.rec (motive_1:=λv x _=>aF G h' as' v x) (motive_2:=λv x _=>aE G h' as' v x) .none .bool .int .str (λe n z _ r=>.tup (ht _ _ e n).1 (ht _ _ e n).2 z r) (λm=>.lst (hm _ m)) (λm=>.obj (hm _ m)) (λm=>.hJ (hm _ m)) .fn .nil (λ_ _ a b=>.cons a b)⟩
theorem aE.ind{G:GX}{h:Qk}{as:List Addr}{P:List V->List Value->Prop}(h0:P [] [])(h1:∀{v x vs xs},aF G h as v x->aE G h as vs xs->P vs xs->P (v::vs) (x::xs)):∀{vs xs},aE G h as vs xs->P vs xs:=
 aE.rec (motive_1:=λ_ _ _=>True) (motive_2:=λv x _=>P v x) trivial (λ_=>trivial) (λ_ _=>trivial) (λ_ _=>trivial) (λ_ _ _ _ _=>trivial) (λ_=>trivial) (λ_=>trivial) (λ_=>trivial) (λ_=>trivial) h0 (λa b _ p=>h1 a b p)
theorem aE.cons_inv(r:aE G h as (v::vs) xs):∃x ys,xs=x::ys/\aF G h as v x/\aE G h as vs ys:=by
 cases r with |cons a b=>exact⟨_,_,rfl,a,b⟩
theorem aF.step(S:Step fs xs h as h' as'):aF G h as v x->aF G h' as' v x:=
 (aF.pL (λ_ _ e n=>⟨S.tup _ _ e n,let ⟨_,ho,_⟩:=e;S.out ho n⟩) S.more).1
theorem aE.step(S:Step fs xs h as h' as'):aE G h as v x->aE G h' as' v x:=
 (aF.pL (λ_ _ e n=>⟨S.tup _ _ e n,let ⟨_,ho,_⟩:=e;S.out ho n⟩) S.more).2
section
variable{G:GX}{h:Qk}{as:List Addr}{vs:List V}{xs:List Value}
theorem aE.length(r:aE G h as vs xs):vs.length=xs.length:=r.ind (P:=λvs xs=>vs.length=xs.length) rfl λ_ _ e=>congrArg (· + 1) e
theorem aE.append(r:aE G h as vs xs)(q:aE G h as ws ys):aE G h as (vs++ws) (xs++ys):=r.ind (P:=λvs xs=>aE G h as (vs++ws) (xs++ys)) q λa _ b=>.cons a b
theorem aE.get(r:aE G h as vs xs):∀{i:Nat}{v:V},vs[i]?=some v->∃x,xs[i]?=some x/\aF G h as v x:=
 λ{i v}=>r.ind (P:=λvs xs=>∀(i:Nat)(v:V),vs[i]?=some v->∃x,xs[i]?=some x/\aF G h as v x) (λ_ _ e=>bf e) (λ{_ _ _ _} a _ ih i v e=>by
  induction i using P0 with
  |zero=>exact⟨_,rfl,PG e ▸ a⟩
  |succ i=>exact ih i v e) i v
theorem aE.take(r:aE G h as vs xs):∀n,aE G h as (vs.take n) (xs.take n):=
 r.ind (P:=λvs xs=>∀n,aE G h as (vs.take n) (xs.take n)) (λn=>by generalize n=z9;induction z9 using P0<;>exact .nil) λa _ ih n=>by
  induction n using P0 with
  |zero=>exact .nil
  |succ n=>exact .cons a (ih n)
theorem aE.drop(r:aE G h as vs xs):∀n,aE G h as (vs.drop n) (xs.drop n):=
 r.ind (P:=λvs xs=>∀n,aE G h as (vs.drop n) (xs.drop n)) (λn=>by generalize n=z9;induction z9 using P0<;>exact .nil) λa b ih n=>by
  induction n using P0 with
  |zero=>exact .cons a b
  |succ n=>exact ih n
theorem aE.set(r:aE G h as vs xs):∀n {v x},aF G h as v x->aE G h as (vs.set n v) (xs.set n x):=
 r.ind (P:=λvs xs=>∀n {v x},aF G h as v x->aE G h as (vs.set n v) (xs.set n x)) (λ_ _ _ _=>.nil) λ{_ _ _ _} a b ih n v x q=>by
  induction n using P0 with
  |zero=>exact .cons q b
  |succ n=>exact .cons a (ih n q)
theorem aE.reverse(r:aE G h as vs xs):aE G h as vs.reverse xs.reverse:=
 r.ind (P:=λvs xs=>aE G h as vs.reverse xs.reverse) .nil λa _ b=>by rw[Qn,Qn];exact b.append (.cons a .nil)
end
noncomputable def ei(P:Sq)(t1 t2 t3:Tok)(p f s:Value):List SD:=
 [⟨QS P "plain",.str "plain" t1,p⟩,⟨QS P "first",.str "first" t2,f⟩,⟨QS P "second",.str "second" t3,s⟩]
def dN(G:GX)(h:Qk)(as:List Addr)(dx a:Addr):cz->Prop
 |.list vs=>∃its n,h.get? a=some (listOf its n)/\its.size<=bh+1/\aE G h as vs its.toList
 |.av p f s=>dx∈as/\h.get? a=some (instObj G.C dx)/\∃n t1 t2 t3 xp xf xs,h.get? dx=some (Si (ei G.w.params t1 t2 t3 xp xf xs) n)/\aF G h as p xp/\aF G h as f xf/\aF G h as s xs
 |.dict es=>∃f n,h.IntMap a f/\h.DictLe a n/\n<=es.length/\∀k,match es.lookup k with |some v=>∃t,f k=some (.int v t) |none=>f k=none
structure vh (G:GX) (h:Qk) (as:List Addr) (M:Mem) (D:Addr->Addr):Prop where
 mem:∀a o,M a=some o->a∈as/\dN G h as (D a) a o
 off:∀a p f s,M a=some (.av p f s)->M (D a)=none
 inj:∀a p f s b p' f' s',M a=some (.av p f s)->M b=some (.av p' f' s')->D a=D b->a=b
def Rep(G:GX)(h:Qk)(as:List Addr)(M:Mem):Prop:=∃D,vh G h as M D
structure gw where
 env:Vs
 outer:List Vs
noncomputable def gw.L(fr:gw):Addr:=fr.env.locals
noncomputable def gw.fs(fr:gw):List Addr:=(fr.env::fr.outer).filterMap (·.frame)
structure qM (fr:gw):Prop where
 frame:fr.env.frame=some fr.env.locals
 kind:fr.env.scope.kind = .function
structure Inv (G:GX) (fr:gw) (s:PM) (m:Qd->Option Value) (as:List Addr) (M:Mem):Prop where
 F:Fr G.base fr.L s.heap m
 eE:s.heap.FunFrames G.base (fr.env::fr.outer)
 mem:∀a∈as,(∃o,s.heap.get? a=some o)/\G.base.get? a=none/\a∉fr.fs
 rep:Rep G s.heap as M
 os:s.os=G.os
 gens:s.gens=G.gens
theorem qM.iW(h:qM fr):fr.L∈fr.fs:=VF.mpr ⟨fr.env,.head _,h.frame⟩
theorem gw.iz{G:GX}{s:PM}{fr:gw}(hf:s.heap.FunFrames G.base (fr.env::fr.outer))(h:a∈fr.fs):G.base.get? a=none/\∃o,s.heap.get? a=some o/\∀vs,o.data≠.fields vs:=by
 refine NS (hf.mem h) λh1 o h2=>?_;exact⟨h1,o,h2⟩
noncomputable def mQ(p:Nat->Pos):List Sp:=
 [.Assign [.Attribute (.Name "self" (p 0)) "plain" (p 1)] (.Name "plain" (p 2)) (p 3),
  .Assign [.Attribute (.Name "self" (p 4)) "first" (p 5)] (.Name "first" (p 6)) (p 7),
  .Assign [.Attribute (.Name "self" (p 8)) "second" (p 9)] (.Name "second" (p 10)) (p 11)]
noncomputable def du(x:Addr)(v u:Value):List (Qd × Value):=[("self",.ref x),("plain",v),("first",u),("second",.none)]
structure Di (K:Frag) (fI:Addr) (fd:Rn) (p:Nat->Pos):Prop where
 at_:∃oc od sl,K.lookup fI=some ⟨oc,od,.func fd,sl⟩
 code:WN K fd.code fd.qualname=true
 body:fd.body = .stmts (mQ p)
 bind1:∀s:PM,K.In s.heap->∀x v,Vn s fd ⟨[.ref x,v],[]⟩ (du x v .none)
 Ko:∀s:PM,K.In s.heap->∀x v u,Vn s fd ⟨[.ref x,v,u],[]⟩ (du x v u)
 cells:∀x∈fd.scope.names,x.2≠.cell
 locs:∀x∈(["self","plain","first","second"]:List Qd),fd.scope.names.lookup x=some .local
 co:fd.scope.isCoroutine=false
 gen:fd.scope.isGenerator=false
 kind:fd.scope.kind = .function
structure CZ (G:GX):Prop where
 X:G.K.In G.base
 T:UI G.p G.loose G.mg G.mb G.base
 glob:∀x v,G.glob.lookup x=some v->(v = .obj 0/\nsIn G.K mainGlobals x=some (some (.ref G.C)))\/(v = .obj 1/\nsIn G.K mainGlobals x=some (some (.ref G.TC)))\/∃val,nsIn G.K mainGlobals x=some (some val)/\aF G G.base [] v val
 attr:∀x∈(["plain","first","second"]:List Qd),plainGet G.K G.C x=true/\Ur G.K G.C=true/\∃at_,Sj G.K (.ref G.C) x=some at_/\noGet G.K at_=true
 Lg:∀k,VG G.K (.ref (G.dS k))=true
 FI:∀x k,(x,k)∈([("parts",14),("labels",15)]:List (Qd × Nat))->plainGet G.K G.C x=true/\Sj G.K (.ref G.C) x=some (some (.ref (G.dS k)))/\isFn G.K (.ref (G.dS k))=true
 code:plainGet G.K G.C "code" = true/\Ur G.K G.C=true/\∃p rest,Sj G.K (.ref G.C) "code" = some (some (.ref p))/\We G.K (.ref p) "__get__" = some (some (.builtin "property.__get__"))/\takesIn G.K (.ref p)=some true/\recIn G.K p "property" = some (.ref (G.dS 13)::rest)
 Lf:Sj G.K (.ref G.C) "__setattr__" = some (some (.builtin "object.__setattr__"))/\Wf G.K G.C=true/\Ur G.K G.C=true/\∀x∈(["plain","first","second"]:List Qd),W7 G.K G.C x=some none
 new:makesIn G.K G.C=true/\VG G.K (.ref G.C)=true/\∃fI fd p,Sj G.K (.ref G.C) "__init__" = some (some (.ref fI))/\Wg G.K (.ref fI)=some (.type "function")/\Di G.K fI fd p
 Na:∀x∈(["len","any","tuple","list","int","min","range","enumerate"]:List Qd),nsIn G.K mainGlobals x=some none
end
section
structure KQ (fr:gw) (n:Nat) (A:QP):Prop where
 frames:A.frames=some (fr.env::fr.outer)
 handled:A.handled=none
 depth:A.depth+3 * n < 980
 units:A.units+20 * n < 9700
structure Cw (fr:gw) (n:Nat) (A:QP):Prop where
 frames:A.frames=some (fr.env::fr.outer)
 handled:A.handled=none
 depth:A.depth+3 * n < 982
 units:A.units+20 * n < 9710
theorem KQ.w(h:KQ fr n A):Cw fr n A:=⟨h.frames,h.handled,by have:=h.depth;exact nA this,by have:=h.units;exact nA this⟩
theorem KQ.in1(h:KQ fr n A):Cw fr n A.in1:=⟨h.frames,h.handled,by have:=h.depth;show A.depth+3 * n < 982;exact nA this,by have:=h.units;show A.units+1+20 * n < 9710;exact nA this⟩
def GQ(base:Qk)(l:List Vs)(e:Addr)(cls:Value)(t:Addr)(h:Qk):Prop:=
 W8 base l e cls (.ref t) h\/(base.StaysIn h/\base.get? e=none/\h.FunFrames base l/\∃oe vs,h.get? e=some oe/\oe.cls=cls/\oe.data = .fields vs/\vs[0]?=some (.ref t)/\vs[1]?=some .none)
theorem wo(hfr:A.frames=some (env::outer))(hf:env.frame=some L)(hfl:GQ base (env::outer) e cls t s.heap)(hQ:∀h',W8 base outer e cls (.ref t) h'->s.heap.UpToSlots h'->Q () {s with heap:=h'}):P2 M A (leaving env (.ref e)) Q E s:=by
 rcases hfl with hfl |⟨f1,f2,f3,oe,vs,he,rfl,hd,h0,h1⟩
 ·exact wpAny_leaves_onW hfr hf hfl hQ
 ·refine wpAny_leaving_firstW hfr f3 hf he f1 f2 hd h1 h0 λh' hL=>?_
  obtain⟨k1,⟨_,_,k2⟩,k3,k4⟩:=hL;exact hQ h' ⟨k1,f2,k2,k3⟩ k4
theorem Bc(hfr:A.frames=some (env::outer))(hf:env.frame=some L)(hfl:GQ base (env::outer) e cls t s.heap)(hQ:∀h',Heap.HeldW base (env::outer) e cls (.ref t) L h'->s.heap.UpToSlots h'->Q () {s with heap:=h'}):P2 M A (noteFrame (.ref e) env) Q E s:=by
 rcases hfl with hfl |⟨f1,f2,f3,oe,vs,he,rfl,hd,h0,h1⟩
 ·exact wpAny_looks_onW hfr hf hfl hQ
 ·unfold noteFrame
  simp only[hf];refine wpAny_bind (Ua he hd h1 ?_);rw[if_neg (by decide)];refine wpAny_entryW hfr f3 hf he f1 f2 hd (Array.getElem?_eq_some_iff.mp h1).1 h0 λh' hN=>?_;refine q7 hN λk1 k2 k3 k4=>?_;exact hQ h' ⟨k1,f2,k2,k3⟩ k4
def Exc(G:GX)(fr:gw)(h0:Qk)(eQ xs:List Addr)(X:Mem->Prop):Value->PM->Prop:=
 λv s'=>∃e t M' as' B m',v = .ref e/\X M'/\Inv G fr s' m' as' M'/\Step fr.fs xs h0 eQ s'.heap as'/\G.base.StaysIn B/\(∀a∈as',∀o,s'.heap.get? a=some o->B.get? a=some o)/\
  (∀a o,h0.get? a=some o->a∉eQ->a∉fr.fs->a∉xs->B.get? a=some o)/\(e∉as')/\GQ B (fr.env::fr.outer) e (.ref G.TC) t s'.heap
set_option backward.match.sparseCases true in
def qQ(G:GX)(n:Nat)(call:Call):Prop:=
 ∀fr,qM fr->∀A,Cw fr n A->∀k vs Q X M,call k vs Q X M->∀s m as vals,Inv G fr s m as M->aE G s.heap as vs vals->
  Sl (model G.prog G.w) A (.call (.ref (G.dS k)) ⟨vals,[]⟩) (λr s'=>match r with
   |.ok (.ret v)=>∃M' as' x,Inv G fr s' m as' M'/\Step fr.fs [] s.heap as s'.heap as'/\aF G s'.heap as' x v/\Q x M'
   |.ok _=>False
   |.error e=>Exc G fr s.heap as [] X e s') s
structure WC where
 G:GX
 n:Nat
 call:Call
 fr:gw
 A:QP
 cx:Cx
 env:Vs
 h0:Qk
 eQ:List Addr
 xs:List Addr
 X:Mem->Prop
noncomputable abbrev WC.M(c:WC):To:=model c.G.prog c.G.w
abbrev WC.E(c:WC):Value->PM->Prop:=Exc c.G c.fr c.h0 c.eQ c.xs c.X
structure WC.OK (c:WC):Prop where
 g:CZ c.G
 call:qQ c.G c.n c.call
 fr:qM c.fr
 a:KQ c.fr c.n c.A
 sc:c.env.scope=c.cx.sc
 kind:c.cx.sc.kind = .function
 globals:c.env.globals=mainGlobals
 builtins:c.env.builtins=TU
 frame:c.env.frame=some c.fr.L
 glob:c.cx.glob=c.G.glob
 BC:∀a∈c.xs,c.h0.get? a≠none
def mM(c:WC)(h:Qk)(m:Qd->Option Value)(as:List Addr)(x:Qd)(val:Value):Prop:=
 (c.cx.sc.names.lookup x=some .local/\((c.env.locals=c.fr.L/\m x=some val)\/(c.env.locals∉as/\c.env.locals∉c.fr.fs/\∃m',h.Ns c.env.locals m'/\m' x=some val)))\/
 (c.cx.sc.names.lookup x=some .cell/\∃a,c.env.cells.lookup x=some a/\a∉as/\a∉c.fr.fs/\h.IsCell a (some val))
structure yy (c:WC) (h:Qk) (m:Qd->Option Value) (as:List Addr) (l:Loc):Prop where
 len:l.length=c.cx.idx.length
 is:∀x i v,c.cx.loc x=some i->l[i]?=some (some v)->∃val,aF c.G h as v val/\mM c h m as x val
 cell:∀x,c.cx.sc.names.lookup x=some .cell->∃a v,c.env.cells.lookup x=some a/\a∉as/\a∉c.fr.fs/\c.G.base.get? a=none/\h.IsCell a v
 here:h.get? c.env.locals≠none
structure At (c:WC) (s:PM) (m:Qd->Option Value) (as:List Addr) (M:Mem) (l:Loc):Prop where
 inv:Inv c.G c.fr s m as M
 loc:yy c s.heap m as l
 st:Step c.fr.fs c.xs c.h0 c.eQ s.heap as
theorem mM.step(S:Step c.fr.fs [] h as h' as')(N:mM c h m as x val):mM c h' m as' x val:=by
 rcases N with⟨hk,q |⟨n1,n2,m',hn,hm⟩⟩ |⟨hk,a,hc,n1,n2,hv⟩
 ·exact .inl ⟨hk,.inl q⟩
 ·refine cY hn λo es ep ho r=>?_
  exact .inl ⟨hk,.inr ⟨S.out ho n1,n2,m',⟨o,es,ep,S.keep _ _ ho n1 n2 P6,r⟩,hm⟩⟩
 ·refine aT hv λo ho hd=>?_
  exact .inr ⟨hk,a,hc,S.out ho n1,n2,⟨o,S.keep _ _ ho n1 n2 P6,hd⟩⟩
theorem yy.step(S:Step c.fr.fs [] h as h' as')(L:yy c h m as l):yy c h' m as' l:=
 ⟨L.len,λx i v a b=>aT (L.is x i v a b) λval r n=>⟨val,r.step S,n.step S⟩,λx hx=>(L.cell x hx).elim λa z=>z.elim λv z=>z.2.2.2.2.elim λo q=>⟨a,v,z.1,S.out q.1 z.2.1,z.2.2.1,z.2.2.2.1,o,S.keep _ _ q.1 z.2.1 z.2.2.1 P6,q.2⟩,S.cB _ L.here⟩
theorem At.step(a:At c s m as M l)(i:Inv c.G c.fr s' m as' M')(S:Step c.fr.fs [] s.heap as s'.heap as'):At c s' m as' M' l:=
 ⟨i,a.loc.step S,a.st.trans S.weaken⟩
def ar(G:GX)(cx:Cx)(e:Expr)(d:ME):Prop:=
 ∀c:WC,c.G=G->c.cx=cx->c.OK->∀s m as M l Qm Qr,At c s m as M l->d c.call l M Qm c.X->
  (∀v s1 M1 as1 x,At c s1 m as1 M1 l->Step c.fr.fs [] s.heap as s1.heap as1->aF c.G s1.heap as1 x v->Qm x M1->Qr v s1)->
  P2 c.M c.A (eval e c.env) Qr c.E s
def cC(G:GX)(cx:Cx)(e:Expr)(d:MB):Prop:=
 ∀c:WC,c.G=G->c.cx=cx->c.OK->∀s m as M l Qm Qr,At c s m as M l->d c.call l M Qm c.X->
  (∀b s1 M1 as1,At c s1 m as1 M1 l->Step c.fr.fs [] s.heap as s1.heap as1->Qm b M1->Qr b s1)->
  P2 c.M c.A (isTrue e c.env (eval e c.env)) Qr c.E s
def Oz(G:GX)(cx:Cx)(es:List Expr)(ds:List ME):Prop:=
 ∀c:WC,c.G=G->c.cx=cx->c.OK->∀s m as M l Qm Qr,At c s m as M l->En ds c.call l M Qm c.X->
  (∀vs s1 M1 as1 xs,At c s1 m as1 M1 l->Step c.fr.fs [] s.heap as s1.heap as1->aE c.G s1.heap as1 xs vs->Qm xs M1->Qr vs s1)->
  P2 c.M c.A (evalAll (evalEach es c.env)) Qr c.E s
theorem ar.bad:ar G cx e bH:=λ_ _ _ _ _ _ _ _ _ _ _ _ h _=>h.elim
theorem cC.bad:cC G cx e Aq:=λ_ _ _ _ _ _ _ _ _ _ _ _ h _=>h.elim
theorem At.tok(a:At c s m as M l):At c {s with toks:=s.toks+1} m as M l:=
 ⟨⟨a.inv.F,a.inv.eE,a.inv.mem,a.inv.rep,a.inv.os,a.inv.gens⟩,a.loc,a.st⟩
theorem At.toks(a:At c s m as M l)(t:Nat):At c {s with toks:=t} m as M l:=
 ⟨⟨a.inv.F,a.inv.eE,a.inv.mem,a.inv.rep,a.inv.os,a.inv.gens⟩,a.loc,a.st⟩
theorem ar.MW:ar G cx (.Constant (.int i) k pos) (aa (.int i)):=by
 intro c hG hcx ok s m as M l Qm Qr a d k';exact TV (k' _ _ _ _ _ a.tok .refl (.int _ _) d)
theorem ar.KO:ar G cx (.Constant .none k pos) (aa .none):=by
 intro c hG hcx ok s m as M l Qm Qr a d k';exact wpAny_pure (k' _ _ _ _ _ a .refl .none d)
theorem ar.Lk:ar G cx (.Constant (.bool b) k pos) (aa (.bool b)):=by
 intro c hG hcx ok s m as M l Qm Qr a d k';exact wpAny_pure (k' _ _ _ _ _ a .refl (.bool b) d)
theorem ar.L7:ar G cx (.Constant (.str (PR t)) k pos) (aa (.str t)):=by
 intro c hG hcx ok s m as M l Qm Qr a d k';exact Constant_str (k' _ _ _ _ _ a.tok .refl (.str t _) d)
theorem Inv.get(I:Inv G fr s m as M)(g:CZ G):UI G.p G.loose G.mg G.mb s.heap:=g.T.keeps I.F.keep
theorem wx(I:Inv G fr s m as M)(e:G.base.get? a=some o):a∉as:=λq=>by
 have:=(I.mem a q).2.1;rw[e] at this;exact b8 this
theorem AP(I:Inv G fr s m as M):(∀{v x},aF G G.base [] v x->aF G s.heap as v x)/\∀{v x},aE G G.base [] v x->aE G s.heap as v x:=
 aF.pL (λ_ _ e _=>⟨e.keeps I.F.keep,let ⟨_,ho,_⟩:=e;wx I ho⟩) λ_ q=>nomatch q
theorem aF.Jn(I:Inv G fr s m as M):aF G G.base [] v x->aF G s.heap as v x:=(AP I).1
theorem we(h:¬ HQ x=true):(x == ("__debug__":Qd))=false:=by
 unfold HQ at h;exact Bool.eq_false_iff.mpr h
theorem Cx.er{cx:Cx}(h:cx.loc x=some i):(x == ("__debug__":Qd))=false/\cx.idx.lookup x=some i/\(cx.sc.names.lookup x=some .local\/cx.sc.names.lookup x=some .cell):=by
 unfold Cx.loc at h;split at h
 ·exact bf h
 ·rename_i hd
  split at h
  ·rename_i q;exact⟨we hd,h,.inl q⟩
  ·rename_i q;exact⟨we hd,h,.inr q⟩
  ·exact bf h
theorem Cx.jf{cx:Cx}(h:cx.gl x=some v):(x == ("__debug__":Qd))=false/\cx.glob.lookup x=some v/\cx.sc.names.lookup x=some .globalImplicit:=by
 unfold Cx.gl at h;split at h
 ·exact bf h
 ·rename_i hd
  split at h
  ·rename_i q;exact⟨we hd,h,q⟩
  ·exact bf h
theorem ip(ok:c.OK)(a:At c s m as M l)(N:mM c s.heap m as x val)(h:Q val s):
  P2 c.M c.A (loadName c.env x) Q c.E s:=by
 have hk:c.env.scope.kind = .function:=by rw[ok.sc];exact ok.kind
 rcases N with⟨hk',q |⟨_,_,m',hn,hm⟩⟩ |⟨hk',b,hc,_,_,hv⟩
 ·exact U6 hk (by unfold Rx;rw[ok.sc];exact hk') (q.1 ▸ a.inv.F.ns) q.2 h
 ·exact U6 hk (by unfold Rx;rw[ok.sc];exact hk') hn hm h
 ·exact wpAny_loadName_cell hk (by unfold Rx;rw[ok.sc];exact hk') hc hv h
theorem q0(cx:Cx)(x:Qd):(∃i,cx.loc x=some i/\kR cx x=ab i)\/(∃v,cx.gl x=some v/\(∀k,v≠.obj k)/\kR cx x=aa v)\/kR cx x=bH:=by
 unfold kR;split
 ·rename_i i hi;exact .inl ⟨i,hi,rfl⟩
 ·split
  ·exact .inr (.inr rfl)
  ·rename_i v hno hv;exact .inr (.inl ⟨v,hv,hno,rfl⟩)
  ·exact .inr (.inr rfl)
theorem ar.name:ar G cx (.Name x pos) (kR cx x):=by
 intro c hG hcx ok s m as M l Qm Qr a d k;subst hG hcx;rcases q0 c.cx x with⟨i,hi,e⟩ |⟨v,hv,hno,e⟩ |e
 ·rw[e] at d
  refine kr (Cx.er hi) λhd _ _=>?_;unfold ab at d;split at d
  ·rename_i v hv
   refine aT (a.loc.is x i v hi hv) λval r N=>?_;exact wpAny_Name (ip ok a N (k _ _ _ _ _ a .refl r d)) hd
  ·exact d.elim
 ·rw[e] at d
  refine kr (Cx.jf hv) λhd hl hn=>?_;rw[ok.glob] at hl;rcases ok.g.glob x v hl with⟨rfl,_⟩ |⟨rfl,_⟩ |⟨val,e,r⟩
  ·exact absurd rfl (hno 0)
  ·exact absurd rfl (hno 1)
  ·refine QT (by rw[ok.sc];exact ok.kind) (by unfold Rx;rw[ok.sc];exact hn) (RR (mg:=c.G.mg) (by rw[ok.globals];exact(a.inv.get ok.g).g) (Xf ok.g.X ok.g.T.g e) ?_) hd
   exact k _ _ _ _ _ a .refl (r.Jn a.inv) d
 ·rw[e] at d;exact d.elim
end
section
theorem dN.jb(ha:h'.get? a=h.get? a)(r:dN G h as dx a (.dict es)):dN G h' as' dx' a (.dict es):=by
 obtain⟨f,n,⟨o,es',ep,ho,rr⟩,hz,r⟩:=r;exact⟨f,n,⟨o,es',ep,ha.trans ho,rr⟩,λo' e' p' h1 h2=>hz o' e' p' (ha.symm.trans h1) h2,r⟩
theorem dN.keep(S:Step fs xs h as h' as')(ha:h'.get? a=h.get? a)(hd:dx∈as->h'.get? dx=h.get? dx)(r:dN G h as dx a o):dN G h' as' dx a o:=by
 induction o using cz.casesOn with
 |list vs=>refine cI r λits n e z r=>?_;exact⟨its,n,ha.trans e,z,r.step S⟩
 |av p f s=>
  refine fN r λm e n t1 t2 t3 xp xf xs e2 r1 r2 r3=>?_;exact⟨S.more _ m,ha.trans e,n,t1,t2,t3,xp,xf,xs,(hd m).trans e2,r1.step S,r2.step S,r3.step S⟩
 |dict es=>exact dN.jb ha r
def cz.flat:cz->Prop
 |.av ..=>False
 |_=>True
theorem dN.any(hf:o.flat)(r:dN G h as dx a o):dN G h as dx' a o:=by
 induction o using cz.casesOn with
 |av=>exact hf.elim
 |list=>exact r
 |dict=>exact r
theorem Rep.set(R:Rep G h as M)(S:Step fs xs h as h' as')(hs:∀a∈as,a≠r->h'.get? a=h.get? a)(hr:r∈as')(hn:(M r=none/\r∉as)\/(∃o,M r=some o/\o.flat))(hf:o.flat)(ho:dN G h' as' 0 r o):Rep G h' as' (M.set r o):=by
 refine xE R λD R=>?_;have dne:∀a p f s,M a=some (.av p f s)->D a≠r:=λa p f s e q=>by
  rcases hn with⟨_,n⟩ |⟨o',e',_⟩
  ·have:=(R.mem a _ e).2.1;rw[q] at this;exact n this
  ·have:=R.off a p f s e;rw[q,e'] at this;exact b8 this
 have old:∀a p f s,(M.set r o) a=some (.av p f s)->a≠r/\M a=some (.av p f s):=λa p f s e=>by
  unfold Mem.set at e;by_cases q:a=r
  ·rw[if_pos q] at e;obtain rfl:=PG e;exact hf.elim
  ·rw[if_neg q] at e;exact⟨q,e⟩
 refine⟨D,⟨λa o' e=>?_,λa p f s e=>?_,λa p f s b p' f' s' e1 e2 q=>?_⟩⟩
 ·unfold Mem.set at e
  by_cases q:a=r
  ·rw[if_pos q] at e;obtain rfl:=PG e;rw[q];exact⟨hr,ho.any hf⟩
  ·rw[if_neg q] at e
   refine xA (R.mem a o' e) λm e'=>?_;refine⟨S.more _ m,?_⟩;induction o' using cz.casesOn with
   |av p f s=>exact e'.keep S (hs a m q) λm'=>hs _ m' (dne a p f s e)
   |list vs=>refine cI e' λits n e2 z r2=>?_;exact⟨its,n,(hs a m q).trans e2,z,r2.step S⟩
   |dict es=>exact e'.jb (hs a m q)
 ·refine xA (old a p f s e) λq e'=>?_
  unfold Mem.set;rw[if_neg (dne a p f s e')];exact R.off a p f s e'
 ·exact R.inj a p f s b p' f' s' (old _ _ _ _ e1).2 (old _ _ _ _ e2).2 q
theorem Rep.same(R:Rep G h as M)(S:Step fs xs h as h' as')(hs:∀a∈as,h'.get? a=h.get? a):Rep G h' as' M:=by
 refine xE R λD R=>?_;exact⟨D,λa o e=>⟨S.more _ (R.mem a o e).1,(R.mem a o e).2.keep S (hs a (R.mem a o e).1) λm=>hs _ m⟩,R.off,R.inj⟩
theorem Step.push(o:Obj)(as':List Addr)(ha:as'=as\/as'=h.objs.size::as):Step fs xs h as (h.push o) as' where
 keep a o' e _ _ _:=PY _ e
 cK a o' e _ _:=⟨o'.slots,PY _ e⟩
 tup a its e _:=e.keeps λ_ _ q=>PY _ q
 cB a e:=by
  induction q:h.get? a using Option.casesOn with
  |none=>exact absurd q e
  |some o'=>rw[PY _ q];exact λz=>by exact b8 z
 grow a q:=by
  rcases ha with rfl |rfl
  ·exact .inl q
  ·rcases PJ.mp q with rfl |q
   ·refine .inr ?_
    induction e:h.get? h.objs.size using Option.casesOn with
    |none=>rfl
    |some o'=>exact absurd (Qw e) (Q4 _)
   ·exact .inl q
 more a q:=by
  rcases ha with rfl |rfl
  ·exact q
  ·exact .tail _ q
theorem jY{h:Qk}(e:h.get? a=some o'):(h.push o).get? a=h.get? a:=by rw[e];exact PY _ e
theorem bL(h:Qk):h.get? h.objs.size=none:=by
 induction e:h.get? h.objs.size using Option.casesOn with
 |none=>rfl
 |some o'=>exact absurd (Qw e) (Q4 _)
theorem gj{h h':Qk}{l:List Vs}:(∀b∈l.filterMap (·.frame),∀o,h.get? b=some o->∃o',h'.get? b=some o'/\o'.data=o.data)->h.FunFrames base l->h'.FunFrames base l:=by
 induction l with
 |nil=>exact λ_ _=>trivial
 |cons env rest ih=>
  intro k q;refine aX q.2.1 λL o hf hn ho hd=>?_;refine aT (k L (by rw[QC,hf];exact .head _) o ho) λo' ho' hd'=>?_;exact⟨q.1,⟨L,o',hf,hn,ho',λvs q=>hd vs (hd'.symm.trans q)⟩,ih (λb hb=>k b (by rw[QC,hf];exact .tail _ hb)) q.2.2⟩
section
variable{G:GX}{fr:gw}{s:PM}{m:Qd->Option Value}{as:List Addr}{M:Mem}
theorem Inv.fresh(I:Inv G fr s m as M):M s.heap.objs.size=none:=by
 refine xE I.rep λD R=>?_;induction e:M s.heap.objs.size using Option.casesOn with
 |none=>rfl
 |some o=>
  obtain⟨⟨o',e'⟩,_⟩:=I.mem _ (R.mem _ o e).1;exact absurd (Qw e') (Q4 _)
theorem Inv.e9(I:Inv G fr s m as M):s.heap.objs.size∉as:=λq=>by
 obtain⟨⟨o',e'⟩,_⟩:=I.mem _ q;exact absurd (Qw e') (Q4 _)
theorem uG{h:Qk}(o:Obj)(f:h.FunFrames base l):(h.push o).FunFrames base l:=f.of_keeps λ_ o' e _=>⟨o',PY _ e,rfl⟩
theorem Inv.xh(I:Inv G fr s m as M):s.heap.objs.size∉fr.fs:=λq=>by
 refine xC (gw.iz I.eE q) λ_ o e _=>?_;exact absurd (Qw e) (Q4 _)
theorem Inv.qv(I:Inv G fr s m as M):G.base.get? s.heap.objs.size=none:=by
 induction e:G.base.get? s.heap.objs.size using Option.casesOn with
 |none=>rfl
 |some o=>exact absurd (Qw (I.F.keep _ _ e)) (Q4 _)
theorem Inv.push(I:Inv G fr s m as M)(o:Obj):Inv G fr {s with heap:=s.heap.push o} m as M:=
 ⟨I.F.push o,uG o I.eE,λa q=>let ⟨⟨o',e⟩,r⟩:=I.mem a q;⟨⟨o',PY _ e⟩,r⟩,
  I.rep.same (fs:=[]) (xs:=[]) (Step.push o as (.inl rfl)) (λa q=>let ⟨⟨o',e⟩,_⟩:=I.mem a q;jY e),I.os,I.gens⟩
theorem Inv.new(I:Inv G fr s m as M)(o:Obj)(mo:cz)(hfree:o.isFreed=false)(hf:mo.flat)(ho:dN G (s.heap.push o) (s.heap.objs.size::as) 0 s.heap.objs.size mo):
  Inv G fr {s with heap:=s.heap.push o} m (s.heap.objs.size::as) (M.set s.heap.objs.size mo):=
 ⟨I.F.push o,uG o I.eE,λa q=>by
  rcases PJ.mp q with rfl |q
  ·exact⟨⟨o,QD _ hfree⟩,I.qv,I.xh⟩
  ·obtain⟨⟨o',e⟩,r⟩:=I.mem a q;exact⟨⟨o',PY _ e⟩,r⟩,
  I.rep.set (fs:=[]) (xs:=[]) (Step.push o _ (.inr rfl)) (λa q _=>let ⟨⟨o',e⟩,_⟩:=I.mem a q;jY e) (.head _) (.inl ⟨I.fresh,I.e9⟩) hf ho,I.os,I.gens⟩
theorem Step.upd(hs:Q7 r h h')(hr:r∈as)(hf:r∉fs)(he:h'.get? r≠none):Step fs xs h as h' as where
 keep a o e n _ _:=(hs.2 a λq=>n (q ▸ hr)).trans e
 cK a o e q _:=⟨o.slots,(hs.2 a λz=>hf (z ▸ q)).trans e⟩
 tup a its e n:=by refine aT e λo ho r'=>?_;exact⟨o,(hs.2 a λq=>n (q ▸ hr)).trans ho,r'⟩
 cB a e:=by
  by_cases q:a=r
  ·rw[q];exact he
  ·rw[hs.2 a q];exact e
 grow a q:=.inl q
 more a q:=q
theorem Inv.upd(I:Inv G fr s m as M)(ok:qM fr){o o':cz}{h':Qk}(hM:M r=some o)(hfl:o.flat)(hfl':o'.flat)(hs:Q7 r s.heap h')(he:h'.get? r≠none)(ho:dN G h' as 0 r o'):
  Inv G fr {s with heap:=h'} m as (M.set r o')/\Step fr.fs [] s.heap as h' as:=by
 have hr:r∈as:=let ⟨D,R⟩:=I.rep;(R.mem r o hM).1;obtain⟨⟨o₀,e₀⟩,hb,hf⟩:=I.mem r hr;have S:Step fr.fs [] s.heap as h' as:=Step.upd hs hr hf he;have hL:fr.L≠r:=λq=>hf (q ▸ ok.iW);refine⟨⟨⟨I.F.ns.sameBut hs hL,λb ob e=>(hs.2 b λq=>by rw[q,hb] at e;exact bf e).trans (I.F.keep b ob e),I.F.above⟩,?_,λa q=>?_,I.rep.set S (λa _ n=>hs.2 a n) hr (.inr ⟨o,hM,hfl⟩) hfl' ho,I.os,I.gens⟩,S⟩
 ·refine gj (λb hb' o e=>?_) I.eE
  exact⟨o,(hs.2 b λq=>hf (q ▸ hb')).trans e,rfl⟩
 ·obtain⟨⟨o1,e1⟩,r1⟩:=I.mem a q
  refine⟨?_,r1⟩;induction z:h'.get? a using Option.casesOn with
  |none=>exact absurd z (S.cB a (by rw[e1];exact λw=>by exact b8 w))
  |some o2=>exact⟨o2,rfl⟩
end
end
section
theorem kp(h:n<=bh):n<=R0:=PH h (by decide)
abbrev KE(c:WC)(s:PM)(m:Qd->Option Value)(as:List Addr)(l:Loc)(Qm:V->Mem->Prop)(Qr:Value->PM->Prop):Prop:=
 ∀v s1 M1 as1 x,At c s1 m as1 M1 l->Step c.fr.fs [] s.heap as s1.heap as1->aF c.G s1.heap as1 x v->Qm x M1->Qr v s1
section
variable{c:WC}{s:PM}{m:Qd->Option Value}{as:List Addr}{M:Mem}{l:Loc}{Qm:V->Mem->Prop}{Qr:Value->PM->Prop}
theorem At.push(a:At c s m as M l)(o:Obj):At c {s with heap:=s.heap.push o} m as M l/\Step c.fr.fs [] s.heap as (s.heap.push o) as:=
 ⟨a.step (a.inv.push o) (Step.push o as (.inl rfl)),Step.push o as (.inl rfl)⟩
theorem At.new(a:At c s m as M l)(o:Obj)(mo:cz)(hfree:o.isFreed=false)(hf:mo.flat)(ho:dN c.G (s.heap.push o) (s.heap.objs.size::as) 0 s.heap.objs.size mo):
  At c {s with heap:=s.heap.push o} m (s.heap.objs.size::as) (M.set s.heap.objs.size mo) l/\Step c.fr.fs [] s.heap as (s.heap.push o) (s.heap.objs.size::as):=
 ⟨a.step (a.inv.new o mo hfree hf ho) (Step.push o _ (.inr rfl)),Step.push o _ (.inr rfl)⟩
theorem At.upd(a:At c s m as M l)(ok:c.OK)(hM:M r=some o)(hfl:o.flat)(hfl':o'.flat)(hs:Q7 r s.heap h')(he:h'.get? r≠none)(ho:dN c.G h' as 0 r o'):
  At c {s with heap:=h'} m as (M.set r o') l/\Step c.fr.fs [] s.heap as h' as:=
 let ⟨i,S⟩:=a.inv.upd ok.fr hM hfl hfl' hs he ho
 ⟨a.step i S,S⟩
theorem sL(a:At c s m as M l)(r:aE c.G s.heap as vs xs)(h:bw M vs Qm)(k:KE c s m as l Qm Qr):P2 c.M c.A (newList xs) Qr c.E s:=by
 refine xA h λhl hq=>?_;have hx:xs.length<=R0:=r.length ▸ kp hl;have S:Step c.fr.fs [] s.heap as (s.heap.push (listOf xs.toArray 0)) (s.heap.objs.size::as):=Step.push _ _ (.inr rfl);refine xA (a.new (listOf xs.toArray 0) (.list vs) rfl trivial ⟨xs.toArray,0,QD _ rfl,by rw[Qo,<- r.length];exact Q0 hl,by simpa using r.step S⟩) λa' S'=>?_;exact Ta (k _ _ _ _ _ a' S' (.lst (.head _)) (hq _ a.inv.fresh)) (by show xs.toArray.size<=R0;rw[Qo];exact hx)
theorem aF.qw{G:GX}{fs:List Addr}{h:Qk}{as:List Addr}{vs:List V}{xs:List Value}(hn:h.objs.size∉as)(hz:xs.length<=bh+1)(r:aE G h as vs xs):aF G (h.push {cls:=.type "tuple",data:=.seq xs.toArray}) as (.tup vs) (.ref h.objs.size):=
 .tup (IsTup.new h xs.toArray) hn hz (r.step (Step.push (fs:=fs) (xs:=[]) _ as (.inl rfl)))
theorem rP(a:At c s m as M l){vs:List V}{xs:List Value}(r:aE c.G s.heap as vs xs)(hl:xs.length<=bh+1)(hq:Qm (.tup vs) M)(k:KE c s m as l Qm Qr):P2 c.M c.A (newTuple xs) Qr c.E s:=by
 refine xA (a.push {cls:=.type "tuple",data:=.seq xs.toArray}) λa' S'=>?_;exact Ta (k _ _ _ _ _ a' S' (aF.qw (fs:=c.fr.fs) a.inv.e9 hl r) hq) (by show xs.toArray.size<=R0;rw[Qo];exact PH hl (by decide))
theorem list?_some(h:M.list? r=some vs):M r=some (.list vs):=by
 unfold Mem.list? at h;split at h
 ·rename_i e;obtain rfl:=PG h;exact e
 ·exact bf h
theorem At.list(a:At c s m as M l)(h:M.list? r=some vs):∃its n,s.heap.get? r=some (listOf its n)/\aE c.G s.heap as vs its.toList/\r∈as/\its.size<=bh+1:=by
 refine xE a.inv.rep λD R=>?_;refine JZ (R.mem r _ (list?_some h)) λhm its n e z rr=>?_;exact⟨its,n,e,rr,hm,z⟩
theorem aU{h:Qk}(e:h.get? r=some (listOf its n)):h.IsList r its:=⟨_,e,rfl,n,rfl⟩
theorem wY(ht:Q3 s.heap t vs.toArray)(hb:Q3 s.heap b ws.toArray)(h0:vs=[]->Q (.ref b) s)(h1:vs≠[]->ws=[]->Q (.ref t) s)(h2:Q (.ref s.heap.objs.size) {s with heap:=s.heap.push {cls:=.type "tuple",data:=.seq (vs++ws).toArray}})(hsz:vs.length+ws.length<=R0):P2 c.M c.A (U7 .Add (.ref t) (.ref b)) Q c.E s:=by
 obtain⟨⟨cls,dd,data,sl⟩,ho,hc,n,hd⟩:=id ht;obtain⟨⟨cls2,dd2,data2,sl2⟩,ho2,hc2,n2,hd2⟩:=id hb;simp only at hc hd hc2 hd2;subst hc hd hc2 hd2;have e:vs.toArray++ws.toArray=(vs++ws).toArray:=by simp
 by_cases hv:vs=[]
 ·exact UJ ⟨_,ho,rfl⟩ ⟨_,ho2,rfl⟩ Us Vx Tb SY (SQ _ _)
   (tuple_addW0 t b vs.toArray ws.toArray n n2 dd dd2 sl sl2 (by simp[hv])) ⟨ho,ho2,h0 hv⟩
 ·by_cases hw:ws=[]
  ·exact UJ ⟨_,ho,rfl⟩ ⟨_,ho2,rfl⟩ Us Vx Tb SY (SQ _ _)
    (tuple_addW1 t b vs.toArray ws.toArray n n2 dd dd2 sl sl2 (by simpa using hv) (by simp[hw])) ⟨ho,ho2,h1 hv hw⟩
  ·refine UJ ⟨_,ho,rfl⟩ ⟨_,ho2,rfl⟩ Us Vx Tb SY (SQ _ _)
    (tuple_addW2 t b vs.toArray ws.toArray n n2 dd dd2 sl sl2 (by simpa using hv) (by simpa using hw) (by rw[Qo,Qo];exact hsz)) ⟨ho,ho2,?_⟩
   rw[e];exact h2
theorem tZ(ht:s.heap.IsList t its)(hb:s.heap.IsList b its2)(h2:Q (.ref s.heap.objs.size) {s with heap:=s.heap.push (listOf (its++its2) 0)})(hsz:its.size+its2.size<=R0):P2 c.M c.A (U7 .Add (.ref t) (.ref b)) Q c.E s:=by
 obtain⟨⟨cls,dd,data,sl⟩,ho,hc,n,hd⟩:=id ht;obtain⟨⟨cls2,dd2,data2,sl2⟩,ho2,hc2,n2,hd2⟩:=id hb;simp only at hc hd hc2 hd2;subst hc hd hc2 hd2;exact UJ ⟨_,ho,rfl⟩ ⟨_,ho2,rfl⟩ noFill_list_add seq_list_add PySem.F.slot_list_add PySem.F.entry_list_add (PySem.F.args_list_add_2 _ _) (list_addW t b its its2 n n2 dd dd2 sl sl2 hsz) ⟨ho,ho2,h2⟩
theorem bw.new(a:At c s m as M l)(h:bw M vs Qm)(r:aE c.G s.heap as vs its.toList)(k:KE c s m as l Qm Qr):
  Qr (.ref s.heap.objs.size) {s with heap:=s.heap.push (listOf its 0)}:=by
 have S:Step c.fr.fs [] s.heap as (s.heap.push (listOf its 0)) (s.heap.objs.size::as):=Step.push _ _ (.inr rfl);refine xA (a.new (listOf its 0) (.list vs) rfl trivial ⟨its,0,QD _ rfl,by rw[<- P9,<- r.length];exact Q0 h.1,r.step S⟩) λa' S'=>?_;exact k _ _ _ _ _ a' S' (.lst (.head _)) (h.2 _ a.inv.fresh)
theorem vM(a:At c s m as M l){xs ys:List V}{xa xb:Value}(ra:aF c.G s.heap as (.tup xs) xa)(rb:aF c.G s.heap as (.tup ys) xb)(h:F1 xs ys M Qm)(k:KE c s m as l Qm Qr):P2 c.M c.A (U7 .Add xa xb) Qr c.E s:=by
 (refine cA ra.eg λi1 t1 q2q e1 n1 z1 r1=>?_;obtain rfl:=q2q)
 (refine cA rb.eg λi2 t2 q2q e2 n2 z2 r2=>?_;obtain rfl:=q2q)
 have hl:i1.length+i2.length<=bh:=by rw[<- r1.length,<- r2.length];exact h.1
 refine wY e1 e2 (λz=>?_) (λ_ w=>?_) ?_ (kp hl)
 ·subst z
  obtain rfl:xs=[]:=QI r1.length;exact k _ _ _ _ _ a .refl rb h.2
 ·subst w
  obtain rfl:ys=[]:=QI r2.length;exact k _ _ _ _ _ a .refl ra (Qg xs ▸ h.2)
 ·obtain⟨a',S'⟩:=a.push {cls:=.type "tuple",data:=.seq _}
  exact k _ _ _ _ _ a' S' (aF.qw (fs:=c.fr.fs) a.inv.e9 (by rw[PS];exact Q0 hl) (r1.append r2)) h.2
theorem xK(a:At c s m as M l)(ra:aF c.G s.heap as (.lst x) xa)(rb:aF c.G s.heap as (.lst y) xb)(h:I2 x y M Qm)(k:KE c s m as l Qm Qr):P2 c.M c.A (U7 .Add xa xb) Qr c.E s:=by
 (refine xA ra.lst_inv λq0q _=>?_;obtain rfl:=q0q)
 (refine xA rb.lst_inv λq0q _=>?_;obtain rfl:=q0q)
 refine aT (bg h) λxs e1 h=>?_;refine aT (bg h) λys e2 h=>?_;refine cI (a.list e1) λi1 n1 g1 r1 _=>?_;refine cI (a.list e2) λi2 n2 g2 r2 _=>?_;refine tZ (aU g1) (aU g2) (bw.new a h (by rw[SM];exact r1.append r2) k) ?_;have:=h.1;rw[PS,r1.length,r2.length,P9,P9] at this;exact kp this
theorem Gv(a:At c s m as M l)(ra:aF c.G s.heap as va xa)(rb:aF c.G s.heap as vb xb)(h:Li va vb M Qm)(k:KE c s m as l Qm Qr):P2 c.M c.A (U7 .Add xa xb) Qr c.E s:=by
 induction va using V.casesOn
 case int i=>
  (refine aT (bE h) λj q1q h=>?_;obtain rfl:=q1q)
  (refine xE ra.int_inv λt q1q=>?_;obtain rfl:=q1q)
  (refine xE rb.int_inv λu q1q=>?_;obtain rfl:=q1q)
  exact P.add_int (k _ _ _ _ _ a.tok .refl (.int _ _) h)
 case tup xs=>
  (refine aT (nx h) λys q1q h=>?_;obtain rfl:=q1q)
  exact vM a ra rb (h trivial) k
 case lst x=>
  (refine aT (cp h) λy q1q h=>?_;obtain rfl:=q1q)
  exact xK a ra rb (h trivial) k
 all_goals exact h.elim
theorem Au(a:At c s m as M l)(ho:lu op=some o)(ra:aF c.G s.heap as va xa)(rb:aF c.G s.heap as vb xb)(h:binop o va vb M Qm)(k:KE c s m as l Qm Qr):P2 c.M c.A (U7 op xa xb) Qr c.E s:=by
 induction op using UK<;>first |exact nX ho |obtain rfl:=PG ho
 ·exact Gv a ra rb h k
 all_goals
  (refine aT (bE h) λi q1q h=>?_;obtain rfl:=q1q)
  (refine aT (bE h) λj q1q h=>?_;obtain rfl:=q1q)
  (refine xE ra.int_inv λt q1q=>?_;obtain rfl:=q1q)
  (refine xE rb.int_inv λu q1q=>?_;obtain rfl:=q1q)
 ·exact P.sub_int (k _ _ _ _ _ a.tok .refl (.int _ _) h)
 ·have h:=h trivial
  exact mod_int' h.1 (k _ _ _ _ _ a.tok .refl (.int _ _) h.2)
 ·(refine xA (h trivial) λq0q q=>?_;obtain rfl:=q0q)
  rcases q with⟨rfl,q⟩ |⟨rfl,q⟩
  ·exact Wh (by decide) (by decide) (by decide) (by decide) (by decide +kernel) (k _ _ _ _ _ a.tok .refl (.int _ _) q)
  ·exact Wh (by decide) (by decide) (by decide) (by decide) (by decide +kernel) (k _ _ _ _ _ a.tok .refl (.int _ _) q)
 ·(refine kr (h trivial) λq0q q1q q=>?_;obtain rfl:=q0q;obtain rfl:=q1q)
  exact lshift_int_small (by decide) (by decide) (by decide) (k _ _ _ _ _ a.tok .refl (.int _ _) q)
 ·(refine xA (h trivial) λq0q q=>?_;obtain rfl:=q0q)
  exact rshift_int (by decide) (k _ _ _ _ _ a.tok .refl (.int _ _) q)
 ·(refine xA (h trivial) λq0q q=>?_;obtain rfl:=q0q)
  refine and_int (k _ _ _ _ _ a.tok .refl ?_ q);rw[kbt_mask,TX _ (by decide)];exact .int _ _
 ·refine kr (h trivial) λh0 h1 h=>?_
  exact floordiv_int (Int.ne_of_gt h0) (k _ _ _ _ _ a.tok .refl (.int _ _) h) (.inl (PyProof.noPylong_of_log2 (Nat.lt_trans ((Nat.log2_lt (by lia)).mpr (show _ < 2 ^ 62 by omega)) (by decide))))
end
end
section
def yu(n:Nat)(d:PyData):Prop:=d.canLay0=true/\d.depth<=n
def ub(n:Nat)(ds:List PyData):Prop:=PyData.canLayAll0 ds=true/\Ww ds<=n
theorem ub.nil:ub n []:=⟨rfl,P4 n⟩
theorem ub.cons(a:yu n d)(b:ub n ds):ub n (d::ds):=⟨congr (congrArg and a.1) b.1,Qb.mpr ⟨a.2,b.2⟩⟩
theorem yu.tuple(b:ub n ds):yu (n+1) (.tuple ds):=⟨b.1,Qs b.2⟩
theorem yu.list(b:ub n ds):yu (n+1) (.list ds):=⟨b.1,Qs b.2⟩
theorem yu.str(h:s = "trap"\/s = "long"):yu n (.str (PR s)):=⟨by rcases h with rfl |rfl<;>decide +kernel,P4 n⟩
theorem rX(hf:∀v d,f v=some d->yu n d):∀{vs ds},kT f vs=some ds->ub n ds:=by
 intro vs;induction vs with
 |nil=>intro ds h;obtain rfl:=PG h;exact .nil
 |cons v vs ih=>intro ds h;exact eJ h λd h1 h2=>tc h2 λds h3 e=>e ▸ .cons (hf v d h1) (ih h3)
theorem rQ:∀v d,toD M n v=some d->yu n d:=by
 induction n with
 |zero=>exact λ_ _ h=>bf h
 |succ n ih=>
  intro v d h;have z {a:PyData} (h:some a=some d) (g:yu (n+1) a):yu (n+1) d:=PG h ▸ g;induction v using V.casesOn
  case none=>exact z h ⟨rfl,P4 _⟩
  case bool=>exact z h ⟨rfl,P4 _⟩
  case int=>exact z h ⟨rfl,P4 _⟩
  case str s=>exact(LY h).2 ▸ .str (LY h).1
  case tup vs=>exact tc h λds h2 e=>e ▸ .tuple (rX ih h2)
  case lst a=>exact eJ h λxs _ h=>tc h λds h2 e=>e ▸ .list (rX ih h2)
  all_goals exact bf h
section
variable{c:WC}{s:PM}{m:Qd->Option Value}{as:List Addr}{M:Mem}{l:Loc}{Qm:V->Mem->Prop}{Qr:Value->PM->Prop}
theorem gR(hf:∀v d x,f v=some d->aF c.G s.heap as v x->∃bs,VZ s.heap x d bs):∀{vs ds xs},kT f vs=some ds->aE c.G s.heap as vs xs->∃bs,ReadsAll s.heap xs ds bs:=by
 intro vs;induction vs with
 |nil=>intro ds xs h r;obtain rfl:=PG h;obtain rfl:=r.nil_inv;exact⟨_,.nil⟩
 |cons v vs ih=>
  intro ds xs h r;refine cI r.cons_inv λx xs' e a b=>?_;exact eJ h λd h1 h2=>tc h2 λds h3 e2=>e ▸ e2 ▸ (hf v d _ h1 a).elim λ_ p=>(ih h3 b).elim λ_ q=>⟨_,.cons p q⟩
theorem gu(a:At c s m as M l):∀v d x,toD M n v=some d->aF c.G s.heap as v x->∃bs,VZ s.heap x d bs:=by
 induction n with
 |zero=>exact λ_ _ _ h _=>bf h
 |succ n ih=>
  intro v d x h r;have z {e:PyData} (h:some e=some d) {bs:List Addr} (g:VZ s.heap x e bs):∃bs,VZ s.heap x d bs:=⟨bs,PG h ▸ g⟩;cases r with
  |none=>exact z h .none
  |bool=>exact z h (.bool _)
  |int=>exact z h (.int _ _)
  |str=>exact z (congrArg some (LY h).2) (.str _ _)
  |tup e ne _ rr=>exact tc h λds h2 q=>(gR ih h2 rr).elim λ_ R=>qc e λo ho hc k hd=>z (congrArg some q) (.tuple ho hc hd R)
  |lst=>exact eJ h λxs hx h=>tc h λds h2 q=>cI (a.list hx) λits k g rr _=>(gR ih h2 rr).elim λ_ R=>z (congrArg some q) (.list g rfl rfl R)
  |_=>exact bf h
theorem i9(h:yu n d)(hn:n<=64):W9 d=true:=by
 unfold W9;rw[h.1,Tx,decide_eq_true_eq];exact PH h.2 hn
theorem rO(ok:c.OK):c.A.units+64 < cLine:=by have:=ok.a.units;show _ < 9900;exact nA this
theorem CY(h:J4 v=some a)(r:aF c.G s.heap as v x):v = .lst a/\x = .ref a:=by
 cases r<;>first |exact bf h |(obtain rfl:=PG h;exact⟨rfl,rfl⟩)
variable(c s) in
def q6(xa xb:Value)(b:Bool):Prop:=(∀{Q:Value->PM->Prop},Q (.bool b) s->P2 c.M c.A (SG .Eq xa xb) Q c.E s)/\∀{Q:Value->PM->Prop},Q (.bool (!b)) s->P2 c.M c.A (SG .NotEq xa xb) Q c.E s
theorem eq_data(ok:c.OK){b2:List Addr}(R1:VZ s.heap xa d1 b1)(R2:VZ s.heap xb d2 b2)(o1:yu 5 d1)(o2:yu 5 d2):q6 c s xa xb (TR d1 d2):=
 ⟨λhq=>eq_dataH R1 R2 (i9 o1 (by decide)) (i9 o2 (by decide)) (rO ok) hq,λhq=>ne_dataH R1 R2 (i9 o1 (by decide)) (i9 o2 (by decide)) (rO ok) hq⟩
theorem Mx{i:Array Value}{xs:List V}(h:xs.length=i.toList.length):i.size=xs.length:=h.symm
theorem eq_empty(ok:c.OK){n1 n2:Nat}(g1:s.heap.get? p=some (listOf i1 n1))(g2:s.heap.get? q=some (listOf i2 n2))(l1:xs.length=i1.toList.length)(l2:ys.length=i2.toList.length)(h:mw xs ys=some b):
  q6 c s (.ref p) (.ref q) b:=by
 have ne {k:Nat} (z:i1.size≠i2.size) (hb:b=false):q6 c s (.ref p) (.ref q) b:=by
  subst hb;have hu:c.A.units < cLine:=SV (P8 _ 64) (rO ok);have hs:(i1.size != i2.size)=true:=bne_iff_ne.mpr z;exact⟨λhq=>SeqAt.eq_list_lengthsAt (aU g1) (aU g2) hs hu hq,λhq=>SeqAt.RcNeAt.lists_lengths (aU g1) (aU g2) hs hu _ _ _ _ hq⟩
 replace l1:xs.length=i1.size:=l1;replace l2:ys.length=i2.size:=l2;induction xs using PI with
 |nil=>induction ys using PI with
  |nil=>
   obtain rfl:=PG h;have R1:VZ s.heap (.ref p) (.list []) [p]:=.list g1 rfl rfl (by rw[QI (l:=i1.toList) l1.symm];exact .nil);have R2:VZ s.heap (.ref q) (.list []) [q]:=.list g2 rfl rfl (by rw[QI (l:=i2.toList) l2.symm];exact .nil);exact eq_data ok R1 R2 (.list .nil) (.list .nil)
  |cons y ys=>exact ne (k:=0) (λe=>absurd (l1.trans (e.trans l2.symm)) nofun) (PG h).symm
 |cons x xs=>induction ys using PI with
  |nil=>exact ne (k:=0) (λe=>absurd (l1.trans (e.trans l2.symm)) nofun) (PG h).symm
  |cons y ys=>exact bf h
theorem AR(h:qW M v w=some b):eP M v w=some b\/ML M v w=some b:=by
 unfold qW at h;induction e:eP M v w using Option.casesOn with
 |none=>rw[e] at h;exact .inr h
 |some x=>rw[e] at h;exact .inl h
theorem DI(ok:c.OK)(a:At c s m as M l)(ra:aF c.G s.heap as va xa)(rb:aF c.G s.heap as vb xb)(h:qW M va vb=some b):q6 c s xa xb b:=by
 rcases AR h with h |h
 ·refine eJ h λp e1 h=>eJ h λq e2 h=>eJ h λxs hx h=>eJ h λys hy h=>?_
  refine cI (a.list hx) λi1 n1 g1 r1 _=>cI (a.list hy) λi2 n2 g2 r2 _=>?_;rw[(CY e1 ra).2,(CY e2 rb).2];exact eq_empty ok g1 g2 r1.length r2.length h
 ·exact eJ h λd1 e1 h=>tc h λd2 e2 e=>e ▸ (gu a _ _ _ e1 ra).elim λ_ R1=>(gu a _ _ _ e2 rb).elim λ_ R2=>eq_data ok R1 R2 (rQ _ _ e1) (rQ _ _ e2)
theorem qG(ok:c.OK)(a:At c s m as M l)(ra:aF c.G s.heap as va xa)(h:vA M va ys=some b)(hb:(∃q its,xb = .ref q/\Q3 s.heap q its.toArray/\aE c.G s.heap as ys its)\/(∃q,xb = .ref q/\M.list? q=some ys)):
  (∀{Q:Value->PM->Prop},Q (.bool b) s->P2 c.M c.A (SG .In xa xb) Q c.E s)/\(∀{Q:Value->PM->Prop},Q (.bool (!b)) s->P2 c.M c.A (SG .NotIn xa xb) Q c.E s):=by
 rw[Ed] at h;refine eJ h λd e1 h=>tc h λds e2 h=>?_;subst h;refine xE (gu a _ _ _ e1 ra) λ_ R1=>?_;have o1:=rQ _ _ e1;have o2:=rX rQ e2;have hu:c.A.units+1+min (Ww ds) d.depth < cLine:=SV (RZ (PH (Ts _ _) o1.2) _) (SV (by rw[Tz];exact RZ (by decide) _) (rO ok));rcases hb with⟨q,its,rfl,ht,rr⟩ |⟨q,rfl,hl⟩
 ·refine xE (gR (gu a) e2 rr) λ_ R2=>?_
  refine qc ht λo ho hc k hd=>?_;have R:VZ s.heap (.ref q) (.tuple ds) _:=.tuple ho hc hd R2;exact⟨λhq=>SeqAt.in_tuple_reads R R1 o2.1 o1.1 hu hq,λhq=>SeqAt.notIn_tuple_reads R R1 o2.1 o1.1 hu hq⟩
 ·refine cI (a.list hl) λits k g rr _=>?_
  refine xE (gR (gu a) e2 rr) λ_ R2=>?_;have R:VZ s.heap (.ref q) (.list ds) _:=.list g rfl rfl R2;exact⟨λhq=>SeqAt.in_list_reads R R1 o2.1 o1.1 hu hq,λhq=>SeqAt.notIn_list_reads R R1 o2.1 o1.1 hu hq⟩
end
end
section
theorem rJ(h:isSet e=false)(op:Vy):behindInMarks op e=false:=by
 induction e using PW<;>first |rfl |exact no h.symm
section
variable{G:GX}{cx:Cx}
theorem ar.bin{l r:Expr}{op:Operator}{pos:Pos}{o:Ha}{dl dr:ME}(ho:lu op=some o)(hl:ar G cx l dl)(hr:ar G cx r dr):ar G cx (.BinOp l op r pos) (aB o dl dr):=by
 intro c hG hcx ok s m as M lo Qm Qr a d k;refine wpAny_BinOp (hl c hG hcx ok s m as M lo _ _ a d λva s1 M1 as1 xa a1 S1 ra d1=>?_);refine hr c hG hcx ok s1 m as1 M1 lo _ _ a1 d1 λvb s2 M2 as2 xb a2 S2 rb d2=>?_;exact Au a2 ho (ra.step S2) rb d2 λv s3 M3 as3 x a3 S3 r3 q=>k v s3 M3 as3 x a3 ((S1.trans S2).trans S3) r3 q
theorem ar.neg(h:ar G cx e d):ar G cx (.UnaryOp .USub e pos) (ba d):=by
 intro c hG hcx ok s m as M lo Qm Qr a d k;refine UnaryOp_ (h c hG hcx ok s m as M lo _ _ a d λva s1 M1 as1 xa a1 S1 ra d1=>?_)
 (refine aT (bE d1) λi q1q d1=>?_;obtain rfl:=q1q)
 (refine xE ra.int_inv λt q1q=>?_;obtain rfl:=q1q)
 exact P.neg_int (k _ _ _ _ _ a1.tok S1 (.int _ _) d1)
theorem mf{c:WC}{s:PM}(h:sZ v f)(r:aF c.G s.heap as v x)(hq:∀b,f b->Q b s):P2 c.M c.A (truthy x) Q c.E s:=by
 induction v using V.casesOn
 case bool b=>rw[r.bool_inv];exact Ri (hq _ h)
 case int i=>(refine xE r.int_inv λt q1q=>?_;obtain rfl:=q1q);exact P.truthy_int (hq _ h)
 all_goals exact h.elim
theorem ar.not(h:ar G cx e d):ar G cx (.UnaryOp .Not e pos) (mz d):=by
 intro c hG hcx ok s m as M lo Qm Qr a d k;exact UnaryOp_ (h c hG hcx ok s m as M lo _ _ a d λva s1 M1 as1 xa a1 S1 ra d1=>not_of (mf d1 ra λb q=>k _ _ _ _ _ a1 S1 (.bool _) q))
theorem ar.yR{f:Expr->ME}:∀{vs:List Expr}{pos:Pos},(∀e∈vs,ar G cx e (f e))->ar G cx (.BoolOp .And vs pos) (yM pX (vs.map f))
 |[],_,_=>.bad
 |[e],_,h=>λc hG hcx ok s m as M lo Qm Qr a d k=>BoolOp_one (h e (.head _) c hG hcx ok s m as M lo _ _ a d k)
 |e::e2::r,pos,h=>λc hG hcx ok s m as M lo Qm Qr a d k=>by
  refine BoolOp_and (h e (.head _) c hG hcx ok s m as M lo _ _ a d λva s1 M1 as1 xa a1 S1 ra d1=>mf d1 ra λb d1=>?_);induction b using PU with
  |true=>exact ar.yR (pos:=pos) (λe' he=>h e' (.tail _ he)) c hG hcx ok s1 m as1 M1 lo _ _ a1 d1 λv s2 M2 as2 x a2 S2 r2 q=>k v s2 M2 as2 x a2 (S1.trans S2) r2 q
  |false=>exact k _ _ _ _ _ a1 S1 ra d1
theorem ar.DS{f:Expr->ME}:∀{vs:List Expr}{pos:Pos},(∀e∈vs,ar G cx e (f e))->ar G cx (.BoolOp .Or vs pos) (yM DR (vs.map f))
 |[],_,_=>.bad
 |[e],_,h=>λc hG hcx ok s m as M lo Qm Qr a d k=>BoolOp_one (h e (.head _) c hG hcx ok s m as M lo _ _ a d k)
 |e::e2::r,pos,h=>λc hG hcx ok s m as M lo Qm Qr a d k=>by
  refine BoolOp_or (h e (.head _) c hG hcx ok s m as M lo _ _ a d λva s1 M1 as1 xa a1 S1 ra d1=>mf d1 ra λb d1=>?_);induction b using PU with
  |true=>exact k _ _ _ _ _ a1 S1 ra d1
  |false=>exact ar.DS (pos:=pos) (λe' he=>h e' (.tail _ he)) c hG hcx ok s1 m as1 M1 lo _ _ a1 d1 λv s2 M2 as2 x a2 S2 r2 q=>k v s2 M2 as2 x a2 (S1.trans S2) r2 q
theorem ar.ite(ht:cC G cx t dt)(ha:ar G cx a da)(hb:ar G cx b db):ar G cx (.IfExp t a b pos) (bR dt da db):=by
 intro c hG hcx ok s m as M lo Qm Qr at_ d k;refine IfExp_ (ht c hG hcx ok s m as M lo _ _ at_ d λr s1 M1 as1 a1 S1 d1=>?_);induction r using PU with
 |true=>exact ha c hG hcx ok s1 m as1 M1 lo _ _ a1 d1 λv s2 M2 as2 x a2 S2 r2 q=>k v s2 M2 as2 x a2 (S1.trans S2) r2 q
 |false=>exact hb c hG hcx ok s1 m as1 M1 lo _ _ a1 d1 λv s2 M2 as2 x a2 S2 r2 q=>k v s2 M2 as2 x a2 (S1.trans S2) r2 q
theorem bT(h:isStar e=false)(rest:List Expr)(env:Vs):Sa (e::rest) env=(false,eval e env)::Sa rest env:=by
 induction e using PW<;>first |rfl |exact no h.symm
theorem fD(hs:∀e,isStar e=true->f e=bH):∀{es:List Expr},(∀e∈es,ar G cx e (f e))->
  ∀c:WC,c.G=G->c.cx=cx->c.OK->∀s m as M l (Qm:List V->Mem->Prop) (Qr:List Value->PM->Prop),At c s m as M l->En (es.map f) c.call l M Qm c.X->
  (∀vs s1 M1 as1 xs,At c s1 m as1 M1 l->Step c.fr.fs [] s.heap as s1.heap as1->aE c.G s1.heap as1 xs vs->vs.length=es.length->Qm xs M1->Qr vs s1)->
  P2 c.M c.A (spliced (Uj pos (Sa es c.env))) Qr c.E s:=by
 intro es;induction es with
 |nil=>
  intro _;exact λc hG hcx ok s m as M l Qm Qr a d k=>Rw (k _ _ _ _ _ a .refl .nil rfl d)
 |cons e r ih=>
  intro h;intro c hG hcx ok s m as M l Qm Qr a d k;induction he:isStar e using PU with
  |true=>
   have:f e c.call l M (λv M1=>En (r.map f) c.call l M1 (λvs M2=>Qm (v::vs) M2) c.X) c.X:=d;rw[hs e he] at this;exact this.elim
  |false=>
   refine spliced_more (h e (.head _) c hG hcx ok s m as M l _ _ a d λv s1 M1 as1 x a1 S1 r1 d1=>?_) (bT he r c.env);refine ih (λe' q=>h e' (.tail _ q)) c hG hcx ok s1 m as1 M1 l _ _ a1 d1 λvs s2 M2 as2 xs a2 S2 r2 hl q=>?_;exact k _ _ _ _ _ a2 (S1.trans S2) (.cons (r1.step S2) r2) (congrArg (· + 1) hl) q
theorem Ga[Decidable p](h:if p then q else False):p/\q:=by
 by_cases hp:p
 ·rw[if_pos hp] at h;exact⟨hp,h⟩
 ·rw[if_neg hp] at h;exact h.elim
theorem ar.tup(hs:∀e,isStar e=true->f e=bH)(h:∀e∈es,ar G cx e (f e)):ar G cx (.Tuple es n pos) (ag (es.map f)):=by
 intro c hG hcx ok s m as M l Qm Qr a d k;refine xA (Ga d) λhl d=>?_;refine Tuple_ (fD hs h c hG hcx ok s m as M l _ _ a d λvs s1 M1 as1 xs a1 S1 r1 hv q=>?_);rw[Qc] at hl;exact rP a1 r1 (by rw[hv];exact PH hl (by decide)) q λv s2 M2 as2 x a2 S2 r2 q2=>k v s2 M2 as2 x a2 (S1.trans S2) r2 q2
theorem ar.list(hs:∀e,isStar e=true->f e=bH)(h:∀e∈es,ar G cx e (f e)):ar G cx (.List es pos) (aG (es.map f)):=by
 intro c hG hcx ok s m as M l Qm Qr a d k;refine List_ (fD hs h c hG hcx ok s m as M l _ _ a d λvs s1 M1 as1 xs a1 S1 r1 _ q=>?_);exact sL a1 r1 (q trivial) λv s2 M2 as2 x a2 S2 r2 q2=>k v s2 M2 as2 x a2 (S1.trans S2) r2 q2
theorem ar.dict:ar G cx (.Dict [] [] pos) yv:=by
 intro c hG hcx ok s m as M l Qm Qr a d k;refine wpAny_Dict_empty ?_;refine xA (a.new {cls:=.type "dict",data:=.dict #[]} (.dict []) rfl trivial ⟨λ_=>Option.none,0,Heap.IntMap.new _,Heap.DictLe.new _,PK _,λ_=>rfl⟩) λa' S'=>?_;exact k _ _ _ _ _ a' S' (.hJ (.head _)) (d _ a.inv.fresh)
theorem At.dict(a:At c s m as M l)(h:M.dict? r=some es):
  r∈as/\M r=some (.dict es)/\∃f n,s.heap.IntMap r f/\s.heap.DictLe r n/\n<=es.length/\∀k,match es.lookup k with |some v=>∃t,f k=some (.int v t) |none=>f k=none:=by
 refine xE a.inv.rep λD R=>?_;have e:M r=some (.dict es):=by
  unfold Mem.dict? at h;split at h
  ·rename_i e;obtain rfl:=PG h;exact e
  ·exact bf h
 refine xA (R.mem r _ e) λhm q=>?_;exact⟨hm,e,q⟩
theorem Gq:OM M va vb=qW M va vb:=by
 induction va using V.casesOn
 case int a=>
  induction vb using V.casesOn
  case int b=>rfl
  all_goals rfl
 all_goals rfl
theorem FY:Ow M va vb=(qW M va vb).map (!·):=by
 induction va using V.casesOn
 case int a=>
  induction vb using V.casesOn
  case int b=>rfl
  all_goals rfl
 all_goals rfl
theorem G3(h:OG va vb=some r):∃i j,va = .int i/\vb = .int j/\decide (i < j)=r:=by
 induction va using V.casesOn
 case int a=>
  induction vb using V.casesOn
  case int b=>exact⟨a,b,rfl,rfl,PG h⟩
  all_goals exact nX h
 all_goals exact nX h
theorem EI(h:Ov va vb=some r):∃i j,va = .int i/\vb = .int j/\decide (i<=j)=r:=by
 induction va using V.casesOn
 case int a=>
  induction vb using V.casesOn
  case int b=>exact⟨a,b,rfl,rfl,PG h⟩
  all_goals exact nX h
 all_goals exact nX h
theorem FU(h:OR va vb=some r):∃i j,va = .int i/\vb = .int j/\decide (i > j)=r:=by
 induction va using V.casesOn
 case int a=>
  induction vb using V.casesOn
  case int b=>exact⟨a,b,rfl,rfl,PG h⟩
  all_goals exact nX h
 all_goals exact nX h
theorem Ff(h:OU va vb=some r):∃i j,va = .int i/\vb = .int j/\decide (i >= j)=r:=by
 induction va using V.casesOn
 case int a=>
  induction vb using V.casesOn
  case int b=>exact⟨a,b,rfl,rfl,PG h⟩
  all_goals exact nX h
 all_goals exact nX h
section
variable{c:WC}(ok:c.OK){s:PM}{m:Qd->Option Value}{as:List Addr}{M:Mem}{l:Loc}(a:At c s m as M l){va vb:V}{xa xb:Value}(ra:aF c.G s.heap as va xa)(rb:aF c.G s.heap as vb xb){b:Bool}{Q:Value->PM->Prop}(hq:∀t,Q (.bool b) {s with toks:=t})
include ok a ra rb hq
theorem Gu(h:Es M va vb=some b):P2 c.M c.A (SG .In xa xb) Q c.E s:=by
 induction vb using V.casesOn
 case tup ys=>
  (refine cA rb.eg λits r q2q e n z r=>?_;obtain rfl:=q2q)
  exact(qG ok a ra h (.inl ⟨_,_,rfl,e,r⟩)).1 (hq s.toks)
 case lst r=>
  refine aT (Qh.mp h) λys hy h=>?_
  (refine xA rb.lst_inv λq0q _=>?_;obtain rfl:=q0q)
  exact(qG ok a ra h (.inr ⟨_,rfl,hy⟩)).1 (hq s.toks)
 case hJ r=>
  induction va using V.casesOn
  case int k=>
   (refine aT (Qa.mp h) λes he q2q=>?_;obtain rfl:=q2q)
   (refine xE ra.int_inv λt q1q=>?_;obtain rfl:=q1q)
   (refine xA rb.rF λq0q _=>?_;obtain rfl:=q0q)
   refine jQ (a.dict he) λ_ _ f n hm hz hn hf=>?_;refine wpAny_in_intMap hm ?_;have:=hf k;have q2:=hq (s.toks+1);induction hk:es.lookup k using Option.casesOn with
   |none=>rw[hk] at this q2;rw[this];exact q2
   |some v=>rw[hk] at this q2;refine xE this λt ht=>?_;rw[ht];exact q2
  all_goals exact nX h
 all_goals exact nX h
theorem BI(h:Me M va vb=some b):P2 c.M c.A (SG .NotIn xa xb) Q c.E s:=by
 induction vb using V.casesOn
 case tup ys=>
  (refine cA rb.eg λits r q2q e n z r=>?_;obtain rfl:=q2q)
  (refine aT (Qa.mp h) λb' hb q2q=>?_;obtain rfl:=q2q)
  exact(qG ok a ra hb (.inl ⟨_,_,rfl,e,r⟩)).2 (hq s.toks)
 case lst r=>
  (refine aT (Qa.mp h) λb' hb q2q=>?_;obtain rfl:=q2q)
  refine aT (Qh.mp hb) λys hy hb=>?_
  (refine xA rb.lst_inv λq0q _=>?_;obtain rfl:=q0q)
  exact(qG ok a ra hb (.inr ⟨_,rfl,hy⟩)).2 (hq s.toks)
 all_goals exact nX h
theorem Ew(ho:eu op=some o)(h:yO o va vb M=some b):P2 c.M c.A (SG op xa xb) Q c.E s:=by
 induction op using Vt<;>first |exact nX ho |obtain rfl:=PG ho
 ·exact(DI ok a ra rb (Gq.symm.trans h)).1 (hq s.toks)
 ·(refine aT (Qa.mp (FY.symm.trans h)) λb' hb q2q=>?_;obtain rfl:=q2q)
  exact(DI ok a ra rb hb).2 (hq s.toks)
 ·(refine cI (G3 h) λi j q2q q3q q4q=>?_;obtain rfl:=q2q;obtain rfl:=q3q;obtain rfl:=q4q)
  (refine xE ra.int_inv λt q1q=>?_;obtain rfl:=q1q)
  (refine xE rb.int_inv λu q1q=>?_;obtain rfl:=q1q)
  exact P.lt_int (hq s.toks)
 ·(refine cI (EI h) λi j q2q q3q q4q=>?_;obtain rfl:=q2q;obtain rfl:=q3q;obtain rfl:=q4q)
  (refine xE ra.int_inv λt q1q=>?_;obtain rfl:=q1q)
  (refine xE rb.int_inv λu q1q=>?_;obtain rfl:=q1q)
  exact P.le_int (hq s.toks)
 ·(refine cI (FU h) λi j q2q q3q q4q=>?_;obtain rfl:=q2q;obtain rfl:=q3q;obtain rfl:=q4q)
  (refine xE ra.int_inv λt q1q=>?_;obtain rfl:=q1q)
  (refine xE rb.int_inv λu q1q=>?_;obtain rfl:=q1q)
  exact P.gt_int (hq s.toks)
 ·(refine cI (Ff h) λi j q2q q3q q4q=>?_;obtain rfl:=q2q;obtain rfl:=q3q;obtain rfl:=q4q)
  (refine xE ra.int_inv λt q1q=>?_;obtain rfl:=q1q)
  (refine xE rb.int_inv λu q1q=>?_;obtain rfl:=q1q)
  exact P.ge_int (hq s.toks)
 ·exact Gu ok a ra rb hq h
 ·exact BI ok a ra rb hq h
end
theorem gx{c:WC}(ok:c.OK){s:PM}{m:Qd->Option Value}{as:List Addr}(a:At c s m as M l){op:Vy}{o:yp}(ho:eu op=some o){xa xb:Value}(ra:aF c.G s.heap as va xa)(rb:aF c.G s.heap as vb xb){K:Bool->Mem->Prop}(h:True->eL o va vb M K){Q:Value->PM->Prop}(hq:∀b t,K b M->Q (.bool b) {s with toks:=t}):P2 c.M c.A (SG op xa xb) Q c.E s:=
 let ⟨b,e,q⟩:=bg (h trivial)
 Ew ok a ra rb (λt=>hq b t q) ho e
theorem ar.cmp(hs:isSet y=false)(ho:eu op=some o)(hx:ar G cx x dx)(hy:ar G cx y dy):ar G cx (.Compare x [op] [y] pos) (fA o dx dy):=λc hG hcx ok s m as M l Qm Qr a d k=>
 U8 (hx c hG hcx ok s m as M l _ _ a d λva s1 M1 as1 xa a1 S1 ra d1=>hy c hG hcx ok s1 m as1 M1 l _ _ a1 d1 λvb s2 M2 as2 xb a2 S2 rb d2=>
  gx ok a2 ho (ra.step S2) rb d2 λr t q=>k _ _ _ _ _ (a2.toks t) (S1.trans S2) (.bool r) q) (rJ hs op)
theorem cC.cmp(hs:isSet y=false)(ho:eu op=some o)(hx:ar G cx x dx)(hy:ar G cx y dy):cC G cx (.Compare x [op] [y] pos) (aq o dx dy):=λc hG hcx ok s m as M l Qm Qr a d k=>
 Tp (hx c hG hcx ok s m as M l _ _ a d λva s1 M1 as1 xa a1 S1 ra d1=>hy c hG hcx ok s1 m as1 M1 l _ _ a1 d1 λvb s2 M2 as2 xb a2 S2 rb d2=>
  gx ok a2 ho (ra.step S2) rb d2 λr t q=>Ri (k _ _ _ _ (a2.toks t) (S1.trans S2) q)) (rJ hs op)
noncomputable def Oe:V->Bool
 |.none=>true
 |_=>false
theorem aF.jZ(r:aF G h as v x):(x == .none)=Oe v:=by
 cases r<;>rfl
theorem qg(d:True->Br v M Q):Q (Oe v) M:=by
 induction v using V.casesOn<;>exact d trivial
theorem pU(d:True->DG v M Q):Q (!(Oe v)) M:=by
 induction v using V.casesOn<;>exact d trivial
theorem eZ(h:Q .none s):P2 M A (eval (.Constant .none k pos) env) Q E s:=wpAny_pure h
theorem ar.isNone(hx:ar G cx x dx):ar G cx (.Compare x [.Is] [.Constant .none k p] pos) (mW (eM dx)):=by
 intro c hG hcx ok s m as M l Qm Qr a d kk;refine U8 (hx c hG hcx ok s m as M l _ _ a d λva s1 M1 as1 xa a1 S1 ra d1=>eZ (is_none ?_)) rfl;rw[ra.jZ];exact kk _ _ _ _ _ a1 S1 (.bool _) (qg (Q:=λr M=>Qm (.bool r) M) d1)
theorem ar.isSome(hx:ar G cx x dx):ar G cx (.Compare x [.IsNot] [.Constant .none k p] pos) (mW (bQ dx)):=by
 intro c hG hcx ok s m as M l Qm Qr a d kk;refine U8 (hx c hG hcx ok s m as M l _ _ a d λva s1 M1 as1 xa a1 S1 ra d1=>eZ (isNot_none ?_)) rfl;rw[ra.jZ];exact kk _ _ _ _ _ a1 S1 (.bool _) (pU (Q:=λr M=>Qm (.bool r) M) d1)
theorem cC.isNone(hx:ar G cx x dx):cC G cx (.Compare x [.Is] [.Constant .none k p] pos) (eM dx):=by
 intro c hG hcx ok s m as M l Qm Qr a d kk;refine Tp (hx c hG hcx ok s m as M l _ _ a d λva s1 M1 as1 xa a1 S1 ra d1=>eZ (is_none (Ri ?_))) rfl;rw[ra.jZ];exact kk _ _ _ _ a1 S1 (qg d1)
theorem cC.isSome(hx:ar G cx x dx):cC G cx (.Compare x [.IsNot] [.Constant .none k p] pos) (bQ dx):=by
 intro c hG hcx ok s m as M l Qm Qr a d kk;refine Tp (hx c hG hcx ok s m as M l _ _ a d λva s1 M1 as1 xa a1 S1 ra d1=>eZ (isNot_none (Ri ?_))) rfl;rw[ra.jZ];exact kk _ _ _ _ a1 S1 (pU d1)
theorem ar.Jz(hs:isSet z=false)(h1:eu p1=some o1)(h2:eu p2=some o2)(hx:ar G cx x dx)(hy:ar G cx y dy)(hz:ar G cx z dz):
  ar G cx (.Compare x [p1,p2] [y,z] pos) (mW (f7 o1 o2 dx dy dz)):=by
 intro c hG hcx ok s m as M l Qm Qr a d k;refine Compare_chain (hx c hG hcx ok s m as M l _ _ a d λva s1 M1 as1 xa a1 S1 ra d1=>chain_link (hy c hG hcx ok s1 m as1 M1 l _ _ a1 d1 λvb s2 M2 as2 xb a2 S2 rb d2=>gx ok a2 h1 (ra.step S2) rb d2 λb t d2=>Ri ?_)) (rJ hs p2);induction b using PU with
 |true=>exact chain_last (hz c hG hcx ok _ m as2 M2 l _ _ (a2.toks t) d2 λvc s3 M3 as3 xc a3 S3 rc d3=>gx ok a3 h2 (rb.step S3) rc d3 λr t q=>k _ _ _ _ _ (a3.toks t) ((S1.trans S2).trans S3) (.bool r) q)
 |false=>exact k _ _ _ _ _ (a2.toks t) (S1.trans S2) (.bool false) d2
theorem xk(h:P2 M A r (λb s₁=>P2 M A (SG op a b) (λc s₂=>P2 M A (truthy c) Q E s₂) E s₁) E s):P2 M A (testChain pos a [op] [r]) Q E s:=by
 show P2 M A (do
  let rv <- holding [a] r
  standAt pos
  let c <- operate [a,rv] (SG op a rv)
  holding [c] (truthy c)) Q E s
 exact wpAny_bind (wpAny_holding (wpAny_mono h (λb s₁ h₁=>wpAny_bind (wpAny_standAt (wpAny_bind (wpAny_operate' (wpAny_mono h₁ (λc s₂ h₂=>wpAny_holding h₂) λ_ _ x=>x))))) λ_ _ x=>x))
theorem cC.Jz(hs:isSet z=false)(h1:eu p1=some o1)(h2:eu p2=some o2)(hx:ar G cx x dx)(hy:ar G cx y dy)(hz:ar G cx z dz):
  cC G cx (.Compare x [p1,p2] [y,z] pos) (f7 o1 o2 dx dy dz):=by
 intro c hG hcx ok s m as M l Qm Qr a d k;refine isTrue_chain (hx c hG hcx ok s m as M l _ _ a d λva s1 M1 as1 xa a1 S1 ra d1=>test_link (hy c hG hcx ok s1 m as1 M1 l _ _ a1 d1 λvb s2 M2 as2 xb a2 S2 rb d2=>gx ok a2 h1 (ra.step S2) rb d2 λb t d2=>Ri ?_)) (rJ hs p2);induction b using PU with
 |true=>exact xk (hz c hG hcx ok _ m as2 M2 l _ _ (a2.toks t) d2 λvc s3 M3 as3 xc a3 S3 rc d3=>gx ok a3 h2 (rb.step S3) rc d3 λr t q=>Ri (k _ _ _ _ (a3.toks t) ((S1.trans S2).trans S3) q))
 |false=>exact k _ _ _ _ (a2.toks t) (S1.trans S2) d2
noncomputable def zZ:Expr->Bool
 |.UnaryOp op _ _=>!(op == .Not)
 |.BoolOp ..=>false
 |.IfExp ..=>false
 |.Compare ..=>false
 |_=>true
theorem cC.of(hp:zZ e=true)(h:ar G cx e d):cC G cx e (kq d):=by
 intro c hG hcx ok s m as M l Qm Qr a d' k;refine isTrue_plain (h c hG hcx ok s m as M l _ _ a d' λv s1 M1 as1 x a1 S1 r d1=>mf d1 r λb q=>k _ _ _ _ a1 S1 q) ?_;induction e using PW
 case UnaryOp op x p=>induction op using Tq<;>first |rfl |exact no hp
 all_goals first |rfl |exact no hp
theorem cC.not(h:cC G cx e d):cC G cx (.UnaryOp .Not e pos) (ve d):=by
 intro c hG hcx ok s m as M l Qm Qr a d' k;exact isTrue_not (h c hG hcx ok s m as M l _ _ a d' λb s1 M1 as1 a1 S1 d1=>k _ _ _ _ a1 S1 d1)
theorem cC.and:∀{vs:List Expr}{pos:Pos},(∀e∈vs,cC G cx e (f e))->cC G cx (.BoolOp .And vs pos) (cD (vs.map f)):=by
 intro vs;induction vs with
 |nil=>
  intro _ _;exact λc hG hcx ok s m as M l Qm Qr a d k=>isTrue_and_nil (k _ _ _ _ a .refl d)
 |cons e r ih=>
  intro pos h;intro c hG hcx ok s m as M l Qm Qr a d k;refine isTrue_and (h e (.head _) c hG hcx ok s m as M l _ _ a d λb s1 M1 as1 a1 S1 d1=>?_);induction b using PU with
  |true=>exact ih (pos:=pos) (λe' q=>h e' (.tail _ q)) c hG hcx ok s1 m as1 M1 l _ _ a1 d1 λb s2 M2 as2 a2 S2 q=>k b s2 M2 as2 a2 (S1.trans S2) q
  |false=>exact k _ _ _ _ a1 S1 d1
theorem cC.or:∀{vs:List Expr}{pos:Pos},(∀e∈vs,cC G cx e (f e))->cC G cx (.BoolOp .Or vs pos) (sU (vs.map f)):=by
 intro vs;induction vs with
 |nil=>
  intro _ _;exact λc hG hcx ok s m as M l Qm Qr a d k=>isTrue_or_nil (k _ _ _ _ a .refl d)
 |cons e r ih=>
  intro pos h;intro c hG hcx ok s m as M l Qm Qr a d k;refine isTrue_or (h e (.head _) c hG hcx ok s m as M l _ _ a d λb s1 M1 as1 a1 S1 d1=>?_);induction b using PU with
  |false=>exact ih (pos:=pos) (λe' q=>h e' (.tail _ q)) c hG hcx ok s1 m as1 M1 l _ _ a1 d1 λb s2 M2 as2 a2 S2 q=>k b s2 M2 as2 a2 (S1.trans S2) q
  |true=>exact k _ _ _ _ a1 S1 d1
end
end
section
section
variable{c:WC}{s:PM}{m:Qd->Option Value}{as:List Addr}{M:Mem}{l:Loc}{Qm:V->Mem->Prop}{Qr:Value->PM->Prop}
theorem Step.gD(k:∀b o,h.get? b=some o->h'.get? b=some o):Step fs xs h as h' as:=
 ⟨λa o e _ _ _=>k a o e,λa o e _ _=>⟨o.slots,k a o e⟩,λa its e _=>e.keeps k,λa e=>(by
  induction q:h.get? a using Option.casesOn with
  |none=>exact absurd q e
  |some o=>rw[k a o q];exact λz=>by exact b8 z),λa q=>.inl q,λa q=>q⟩
theorem Inv.grown(I:Inv G fr s m as M)(k:∀b o,s.heap.get? b=some o->h'.get? b=some o)(t:Nat):Inv G fr {s with heap:=h',toks:=t} m as M:=
 ⟨⟨let ⟨o,es,ep,ho,r⟩:=I.F.ns;⟨o,es,ep,k _ _ ho,r⟩,λb o e=>k b o (I.F.keep b o e),I.F.above⟩,I.eE.of_keeps λb o e _=>⟨o,k b o e,rfl⟩,
  λa q=>let ⟨⟨o',e⟩,r⟩:=I.mem a q;⟨⟨o',k _ _ e⟩,r⟩,
  I.rep.same (fs:=[]) (xs:=[]) (Step.gD k) (λa q=>let ⟨⟨o',e⟩,_⟩:=I.mem a q;by rw[e];exact k _ _ e),I.os,I.gens⟩
theorem At.grown(a:At c s m as M l)(k:∀b o,s.heap.get? b=some o->h'.get? b=some o)(t:Nat):At c {s with heap:=h',toks:=t} m as M l/\Step c.fr.fs [] s.heap as h' as:=
 ⟨a.step (a.inv.grown k t) (Step.gD k),Step.gD k⟩
theorem lV(slice:Expr)(o i:Value):∃ops,subscripted slice false o i=operate ops (getItem o i):=by
 induction slice using PW<;>first |exact⟨_,rfl⟩ |skip
 rename_i st _;induction st using Option.casesOn<;>exact⟨_,rfl⟩
theorem tail_at{M:To}{T id:String}(hT:s.TypeIs o T)(hl:typeLookup (.type T) "__getitem__" = pure (some (.builtin id)))(hg:P2 (model prog w) A (getItem o i) Q E s):P2 (model prog w) A (Sf value slice o i) Q E s:=by
 refine xE (lV slice o i) λops h=>?_;exact tail_any hT hl hg h
theorem idx?_some(h:idx? k n=some j):j < n/\((0<=k/\j=k.toNat)\/(k < 0/\-(n:Int)<=k/\j=(k+n).toNat)):=by
 unfold idx? at h;split at h
 ·split at h
  ·obtain rfl:=PG h;exact⟨by lia,.inl ⟨by assumption,rfl⟩⟩
  ·exact bf h
 ·split at h
  ·obtain rfl:=PG h;exact⟨by lia,.inr ⟨by lia,by assumption,rfl⟩⟩
  ·exact bf h
theorem idx?_seq(h:idx? k n=some j):seqIndex? k n=some j:=by
 refine xA (idx?_some h) λh1 h2=>?_;unfold seqIndex?;rcases h2 with⟨h0,rfl⟩ |⟨h0,h3,rfl⟩
 ·have e:(if k < 0 then k+(n:Int) else k)=k:=if_neg (by exact λz=>iF (iA z (iA h0)))
  simp only[e];rw[if_pos (by simp only[Qy,decide_eq_true_eq];lia)]
 ·have e:(if k < 0 then k+(n:Int) else k)=k+n:=if_pos h0
  simp only[e];rw[if_pos (by simp only[Qy,decide_eq_true_eq];exact⟨iA h3,iA h0⟩)]
theorem zm(h:n<=bh+1):(n:Int) < 2 ^ 62:=by
 unfold bh at h;omega
theorem qC(hl:s.heap.IsList r its)(hj:idx? k its.size=some j)(hz:its.size<=bh+1)(hx:its[j]?=some x)(h:Qr x s):
  P2 c.M c.A (getItem (.ref r) (.int k t)) Qr c.E s:=by
 refine xA (idx?_some hj) λh1 h2=>?_;have:=zm hz;rcases h2 with⟨h0,rfl⟩ |⟨h0,h3,rfl⟩
 ·exact wpAny_getItem_list hl h0 (by omega) hx h
 ·exact wpAny_getItem_list_neg hl h0 h3 (by omega) hx h
theorem vk{xs:List V}(h:((idx? k xs.length).bind λj=>xs[j]?)=some x):∃j,idx? k xs.length=some j/\xs[j]?=some x:=Qh.mp h
section
variable{value slice:Expr}
theorem BH(a:At c s m as M l)(ra:aF c.G s.heap as (.lst r) xa)(h:Iu r i M Qm)(k:KE c s m as l Qm Qr):P2 c.M c.A (Sf value slice xa (.int i t)) Qr c.E s:=by
 refine aT (bg h) λxs e h=>?_;refine aT (bg h) λx hx h=>?_;refine aT (vk hx) λj hj hx=>?_
 (refine xA ra.lst_inv λq0q _=>?_;obtain rfl:=q0q)
 refine aX (a.list e) λits n g r _ z=>?_;refine aT (r.get hx) λy hy ry=>?_;rw[r.length,P9] at hj;exact tail_at (M:=c.M) (aU g).typeIs Td.lookup (qC (aU g) hj z (by rw[<- Sk];exact hy) (k _ _ _ _ _ a .refl ry h))
theorem Ef(a:At c s m as M l)(ra:aF c.G s.heap as (.tup xs) xa)(h:Bh xs i M Qm)(k:KE c s m as l Qm Qr):P2 c.M c.A (Sf value slice xa (.int i t)) Qr c.E s:=by
 refine aT (bg h) λx hx h=>?_;refine aT (vk hx) λj hj hx=>?_
 (refine cA ra.eg λits r q2q e n z r=>?_;obtain rfl:=q2q)
 refine aT (r.get hx) λy hy ry=>?_;have hl:=r.length;have hc:=zm z;have h2:=idx?_some hj;have hb:-(2 ^ 63)<=i/\i < 2 ^ 63:=by omega
 exact tail_at (M:=c.M) e.typeIs VH.lookup (getItem_tuple e hb.1 hb.2 (by rw[Qo,<- hl];exact idx?_seq hj) (by rw[List.getElem?_toArray];exact hy) (k _ _ _ _ _ a .refl ry h))
theorem C5(a:At c s m as M l)(ra:aF c.G s.heap as (.hJ r) xa)(h:Ii r i M Qm)(k:KE c s m as l Qm Qr):P2 c.M c.A (Sf value slice xa (.int i t)) Qr c.E s:=by
 refine aT (bg h) λx hx h=>?_;refine aT (Qh.mp hx) λes he hx=>?_
 (refine xA ra.rF λq0q _=>?_;obtain rfl:=q0q)
 refine jQ (a.dict he) λ_ _ f n hm hz hn hf=>?_;have:=hf i;rw[hx] at this;refine xE this λu hu=>?_;exact tail_at (M:=c.M) hm.typeIs slot_dict_getitem.lookup (wpAny_getItem_intMap hm hu (k _ _ _ _ _ a.tok .refl (.int _ _) h))
theorem Ez(a:At c s m as M l)(ra:aF c.G s.heap as va xa)(rb:aF c.G s.heap as vb xb)(h:K9 va vb M Qm)(k:KE c s m as l Qm Qr):P2 c.M c.A (Sf value slice xa xb) Qr c.E s:=by
 induction va using V.casesOn
 case lst r=>
  (refine aT (bE h) λi q1q h=>?_;obtain rfl:=q1q)
  (refine xE rb.int_inv λt q1q=>?_;obtain rfl:=q1q)
  exact BH a ra (h trivial) k
 case tup xs=>
  (refine aT (bE h) λi q1q h=>?_;obtain rfl:=q1q)
  (refine xE rb.int_inv λt q1q=>?_;obtain rfl:=q1q)
  exact Ef a ra (h trivial) k
 case hJ r=>
  (refine aT (bE h) λi q1q h=>?_;obtain rfl:=q1q)
  (refine xE rb.int_inv λt q1q=>?_;obtain rfl:=q1q)
  exact C5 a ra (h trivial) k
 all_goals exact h.elim
end
end
theorem ar.index(hv:ar G cx v dv)(hi:ar G cx i di):ar G cx (.Subscript v i pos) (ao dv di):=λc hG hcx ok s m as M l Qm Qr a d k=>
 VI (hv c hG hcx ok s m as M l _ _ a d λva s1 M1 as1 xa a1 S1 ra d1=>hi c hG hcx ok s1 m as1 M1 l _ _ a1 d1 λvb s2 M2 as2 xb a2 S2 rb d2=>
  Ez a2 (ra.step S2) rb d2 λv s3 M3 as3 x a3 S3 r3 q=>k v s3 M3 as3 x a3 ((S1.trans S2).trans S3) r3 q)
def lS(G:GX)(cx:Cx)(e:Option Expr)(d:Option ME):Prop:=
 ∀c:WC,c.G=G->c.cx=cx->c.OK->∀s m as M l (Qm:Option Int->Mem->Prop) (Qr:Value->PM->Prop),At c s m as M l->BL d c.call l M Qm c.X->
  (∀v s1 M1 as1 x,At c s1 m as1 M1 l->Step c.fr.fs [] s.heap as s1.heap as1->Wi v x->Qm x M1->Qr v s1)->
  P2 c.M c.A (evalPart e c.env) Qr c.E s
theorem lS.none:lS G cx none none:=λc hG hcx ok s m as M l Qm Qr a d k=>wpAny_pure (k _ _ _ _ _ a .refl .none d)
theorem lS.some(h:ar G cx e d):lS G cx (some e) (some d):=by
 intro c hG hcx ok s m as M l Qm Qr a d' k;refine h c hG hcx ok s m as M l _ _ a d' λv s1 M1 as1 x a1 S1 r d1=>?_
 (refine aT (bE d1) λi q1q d1=>?_;obtain rfl:=q1q)
 (refine xE r.int_inv λt q1q=>?_;obtain rfl:=q1q)
 exact k _ _ _ _ _ a1 S1 (.int _ _) d1
theorem rd(i:Int)(n:Nat):(max 0 (min (if i < 0 then i+n else i) (n:Int))).toNat=bA i n/\0<=max 0 (min (if i < 0 then i+n else i) (n:Int)):=by
 refine⟨?_,Int.le_max_left _ _⟩;unfold bA;by_cases h:i < 0
 ·rw[if_pos h,if_pos h,Wx (by omega)]
  by_cases k:0<=i+n
  ·rw[Tt k]
  ·rw[Wy (Tu k),Int.toNat_of_nonpos (Tu k)];rfl
 ·have k:=VJ.mp h
  rw[if_neg h,if_neg h];by_cases m:i<=n
  ·rw[Wx m,Tt k,TG (Int.toNat_le.mpr m)]
  ·have m:=Tu m
   rw[Int.min_eq_right m,Tt (Qe n),Sm,Ut ((Int.le_toNat k).mpr m)]
theorem ue(its:Array Value)(lo hi:Option Int):slicePick its lo hi none=((its.toList.take (match hi with |some i=>bA i its.size |none=>its.size)).drop (match lo with |some i=>bA i its.size |none=>0)).toArray:=by
 have hc:∀i:Int,clipAt its.size i=bA i its.size:=λi=>(rd i _).1;rw[slicePick_plain,<- WQ];induction lo using Option.casesOn<;>induction hi using Option.casesOn<;>simp only[Option.elim,hc]
end
section
section
variable{G:GX}{cx:Cx}
theorem K5{h:Qk}{sl:Addr}(e:h.get? a=some o)(o2:Obj):(h.push o2).get? a=some o:=PY _ e
theorem Fu{c:WC}{s:PM}{m:Qd->Option Value}{as:List Addr}{Qm:V->Mem->Prop}{Qr:Value->PM->Prop}{value slice:Expr}(a:At c s m as M l){r:Nat}{lo hi:Option Int}{xa vlo vhi:Value}(ra:aF c.G s.heap as (.lst r) xa)(plo:Wi vlo lo)(phi:Wi vhi hi)(h:NB r lo hi M Qm)(k:KE c s m as l Qm Qr):
  P2 c.M c.A (Sf value slice xa (.ref s.heap.objs.size)) Qr c.E {s with heap:=s.heap.push {cls:=.type "slice",data:=.fields #[vlo,vhi,.none]}}:=by
 refine xA (a.push {cls:=.type "slice",data:=.fields #[vlo,vhi,.none]}) λa4 S4=>?_;refine aT (bg h) λxs e h=>?_
 (refine xA ra.lst_inv λq0q _=>?_;obtain rfl:=q0q)
 refine aX (a4.list e) λits n g r _ z=>?_;have hl:xs.length=its.size:=by rw[r.length,P9]
 refine tail_at (M:=c.M) (aU g).typeIs Td.lookup (SR (aU g) (R8 ..) plo phi .none (by simp) ?_ (PH z (by decide)));refine bw.new a4 h ?_ λv s5 M5 as5 x a5 S5 r5 q=>k v s5 M5 as5 x a5 (S4.trans S5) r5 q;rw[ue,Ry];unfold bW;rw[hl];exact(r.take _).drop _
theorem Fh{c:WC}{s:PM}{m:Qd->Option Value}{as:List Addr}{M:Mem}{l:Loc}{Qm:V->Mem->Prop}{Qr:Value->PM->Prop}{value slice:Expr}(a:At c s m as M l){xs:List V}{lo hi:Option Int}{xa vlo vhi:Value}(ra:aF c.G s.heap as (.tup xs) xa)(plo:Wi vlo lo)(phi:Wi vhi hi)(h:J6 xs lo hi M Qm)(k:KE c s m as l Qm Qr):
  P2 c.M c.A (Sf value slice xa (.ref s.heap.objs.size)) Qr c.E {s with heap:=s.heap.push {cls:=.type "slice",data:=.fields #[vlo,vhi,.none]}}:=by
 refine xA (a.push {cls:=.type "slice",data:=.fields #[vlo,vhi,.none]}) λa4 S4=>?_;obtain⟨i,rfl,rfl,h1,h2,h⟩:=h;obtain⟨its,r,rfl,e,ne,z,r⟩:=ra.eg;cases phi
 cases plo with
 |int _ t=>
 have hl:=r.length;have e4:=S4.tup _ _ e ne;obtain⟨n,rfl⟩:∃n:Nat,i=n:=⟨i.toNat,by lia⟩;refine tail_at (M:=c.M) e4.typeIs VH.lookup (getItem_tuple_from e4 (R8 ..) (by lia) (by rw[Qo];lia) ?_ (by rw[Qo];exact PH z (by decide)));obtain⟨a5,S5⟩:=a4.push {cls:=.type "tuple",data:=.seq (_:List Value).toArray};refine k _ _ _ _ _ a5 (S4.trans S5) (aF.qw (fs:=c.fr.fs) a4.inv.e9 ?_ ?_) h
 ·rw[RH,Ry];exact nA (Sr (its.length) (n)) (nA z)
 ·rw[Ry];exact(r.step S4).drop _
theorem ar.slice{v:Expr}{lo hi:Option Expr}{p pos:Pos}{dv:ME}{dlo dhi:Option ME}(hv:ar G cx v dv)(hlo:lS G cx lo dlo)(hhi:lS G cx hi dhi):
  ar G cx (.Subscript v (.Slice lo hi none p) pos) (ck dv dlo dhi):=by
 intro c hG hcx ok s m as M l Qm Qr a d k;refine VI (hv c hG hcx ok s m as M l _ _ a d λva s1 M1 as1 xa a1 S1 ra d1=>U9 (hlo c hG hcx ok s1 m as1 M1 l _ _ a1 d1 λvlo s2 M2 as2 ilo a2 S2 plo d2=>hhi c hG hcx ok s2 m as2 M2 l _ _ a2 d2 λvhi s3 M3 as3 ihi a3 S3 phi d3=>?_));rw[Vz];refine wpAny_pure ?_;have S:=(S1.trans S2).trans S3;replace ra:=(ra.step S2).step S3;have k':KE c s3 m as3 l Qm Qr:=λv s5 M5 as5 x a5 S5 r5 q=>k v s5 M5 as5 x a5 (S.trans S5) r5 q;induction xa using V.casesOn
 case lst=>exact Fu a3 ra plo phi (d3 trivial) k'
 case tup=>exact Fh a3 ra plo phi (d3 trivial) k'
 all_goals exact d3.elim
theorem ar.rev(hv:ar G cx v dv):ar G cx (.Subscript v (.Slice none none (some (.UnaryOp .USub (.Constant (.int 1) k1 p1) p2)) p) pos) (FA dv):=by
 intro c hG hcx ok s m as M l Qm Qr a d k;refine VI (hv c hG hcx ok s m as M l _ _ a d λva s1 M1 as1 xa a1 S1 ra d1=>U9 ?_);refine wpAny_pure (wpAny_pure ?_);show P2 c.M c.A (eval _ c.env) _ _ _;refine UnaryOp_ (TV (P.neg_int ?_));have a2:=(a1.tok).tok;refine xA (a2.push {cls:=.type "slice",data:=.fields #[.none,.none,.int (-1) (s1.toks+1)]}) λa4 S4=>?_
 (refine aT (cp d1) λr q1q d1=>?_;obtain rfl:=q1q)
 refine aT (bg (d1 trivial)) λxs e d1=>?_
 (refine xA ra.lst_inv λq0q _=>?_;obtain rfl:=q0q)
 refine aX (a4.list e) λits n g r _ z=>?_;refine tail_at (M:=c.M) (aU g).typeIs Td.lookup (SR (aU g) (R8 ..) .none .none (.int _ _) (by simp) ?_ (PH z (by decide)));refine bw.new a4 d1 ?_ λv s5 M5 as5 x a5 S5 r5 q=>k v s5 M5 as5 x a5 ((S1.trans S4).trans S5) r5 q;rw[krv_pick,Ry];exact r.reverse
theorem cP(h:eF e=false)(attr:Qd)(env:Vs)(whole:Xa Value):attributeBase e attr env whole=whole:=by
 revert h;induction e using PW<;>first |exact λ_=>rfl |skip
 rename_i f as ks _;induction f using PW<;>first |exact λ_=>rfl |skip
 induction as using PI
 ·induction ks using PI
  ·exact λh=>jr h
  ·exact λ_=>rfl
 ·exact λ_=>rfl
theorem sY{c:WC}(hb:eF value=false)(h:P2 c.M c.A (eval value c.env) (λo s₁=>P2 c.M c.A (getAttr o attr true) Q c.E s₁) c.E s):P2 c.M c.A (eval (.Attribute value attr pos) c.env) Q c.E s:=by
 rw[arm_eval_Attribute,cP hb];refine wpAny_bind (wpAny_mono h (λo s₁ h₁=>wpAny_bind (wpAny_standAt (wpAny_bind (wpAny_holding (wpAny_mono h₁ (λr s₂ h₂=>?_) λ_ _ y=>y))))) λ_ _ y=>y);exact wpAny_bind (wpAny_letTemporaryGo (wpAny_pure h₂))
theorem A4(r:aF G h as v x):handedIn x=true:=by cases r<;>rfl
theorem At.av(a:At c s m as M l)(h:M.piece? r=some (p,f,q)):
  r∈as/\M r=some (.av p f q)/\∃dx,dx∈as/\s.heap.get? r=some (instObj c.G.C dx)/\∃n t1 t2 t3 xp xf xs,s.heap.get? dx=some (Si (ei c.G.w.params t1 t2 t3 xp xf xs) n)/\aF c.G s.heap as p xp/\aF c.G s.heap as f xf/\aF c.G s.heap as q xs:=by
 refine xE a.inv.rep λD R=>?_;have e:M r=some (.av p f q):=by
  unfold Mem.piece? at h;split at h
  ·rename_i e;cases h;exact e
  ·exact bf h
 refine xA (R.mem r _ e) λhm z=>?_;exact⟨hm,e,D r,z⟩
theorem gh(e:h.get? r=some (instObj C dx))(e2:h.get? dx=some od):InstAt h r (instObj C dx) C (some od):=⟨e,rfl,rfl,e2⟩
noncomputable def jg:vz->Qd
 |.plain=>"plain"
 |.first=>"first"
 |.second=>"second"
noncomputable def Kv(fl:vz)(p f s:Value):Value:=match fl with |.plain=>p |.first=>f |.second=>s
theorem ml(P:Sq)(t1 t2 t3:Tok)(p f s:Value)(fl:vz):getL (jg fl) (ei P t1 t2 t3 p f s)=some (some (Kv fl p f s)):=by
 induction fl using vz.casesOn<;>rfl
theorem lC(f:vz):jg f∈(["plain","first","second"]:List Qd):=by generalize f=z9;induction z9 using vz.casesOn<;>simp[jg]
theorem ar.attr(hb:eF v=false)(hv:ar G cx v dv):ar G cx (.Attribute v (jg f) pos) (bF f dv):=by
 intro c hG hcx ok s m as M l Qm Qr a d k;refine sY hb (hv c hG hcx ok s m as M l _ _ a d λva s1 M1 as1 xa a1 S1 ra d1=>?_)
 (refine aT (j2 d1) λr q1q d1=>?_;obtain rfl:=q1q)
 obtain⟨⟨p,q,r'⟩,e,d1⟩:=bg (d1 trivial)
 (refine xA ra.lX λq0q _=>?_;obtain rfl:=q0q)
 refine dV (a1.av e) λ_ _ dx _ e1 n t1 t2 t3 xp xf xs e2 rp rf rs=>?_;refine Lm (ok.g.attr _ (lC f)) λh1 h2 at_ h3 h4=>?_;have hg:=ml c.G.w.params t1 t2 t3 xp xf xs f;have rr:aF c.G s1.heap as1 (LR f p q r') (Kv f xp xf xs):=by generalize f=z9;induction z9 using vz.casesOn<;>assumption
 exact get_own a1.inv.F ok.g.X (gh e1 e2) h1 h2 h3 h4 hg (A4 rr) (k _ _ _ _ _ a1.tok S1 rr d1)
end
end
section
section
variable{G:GX}{cx:Cx}
theorem At.n9(ok:c.OK)(a:At c s m as M l)(hr:M.list? r=some vs)(hs:Q7 r s.heap h')(e:h'.get? r=some (listOf its n))(hz:its.size<=bh+1)(rr:aE c.G s.heap as vs' its.toList):
  At c {s with heap:=h'} m as (M.set r (.list vs')) l/\Step c.fr.fs [] s.heap as h' as:=by
 have hm:=list?_some hr;refine aX (a.list hr) λ_ _ _ _ hin _=>?_;refine kr (a.inv.mem r hin) λ_ _ hfs=>?_;have S:Step c.fr.fs [] s.heap as h' as:=Step.upd hs hin hfs (by rw[e];exact λz=>by exact b8 z);exact a.upd ok hm trivial trivial hs (by rw[e];exact λz=>by exact b8 z) ⟨_,_,e,hz,rr.step S⟩
theorem At.rR(ok:c.OK)(a:At c s m as M l)(hr:M.list? r=some vs)(g:s.heap.get? r=some (listOf its n))(hz:(f its).size<=bh+1)(rr:aE c.G s.heap as vs' (f its).toList):
  At c {s with heap:=s.heap.update r (VK f)} m as (M.set r (.list vs')) l/\Step c.fr.fs [] s.heap as (s.heap.update r (VK f)) as:=
 a.n9 ok hr (TJ ..) (Ro _ g rfl) hz rr
theorem At.lst{c:WC}{s:PM}{m:Qd->Option Value}{as:List Addr}{M:Mem}{l:Loc}(a:At c s m as M l){r:Addr}{f:List V->Prop}(h:cW (M.list? r) f):
  ∃xs its n,f xs/\M.list? r=some xs/\s.heap.get? r=some (listOf its n)/\aE c.G s.heap as xs its.toList/\its.size<=bh+1/\xs.length=its.size:=by
 refine aT (bg h) λxs e h=>?_;refine aX (a.list e) λits n g r _ z=>?_;exact⟨xs,its,n,h,e,g,r,z,by rw[r.length,P9]⟩
theorem kI(hb:eF o=false)(hline:(apos.endLine == pos.line)=true)(hs:∀e∈args,isStar e=false)(hlen:args.length < 30)(ho:ar c.G c.cx o do_)(ok:c.OK)(a:At c s m as M l)(d:do_ c.call l M Qm c.X)(h:∀v s1 M1 as1 x,At c s1 m as1 M1 l->Step c.fr.fs [] s.heap as s1.heap as1->aF c.G s1.heap as1 x v->Qm x M1->MethodOnS c.G.prog c.G.w c.A c.E name v pos (Uj pos (Sa args c.env)) Q s1):
  P2 c.M c.A (eval (.Call (.Attribute o name apos) args [] pos) c.env) Q c.E s:=by
 refine wpAny_Call_method_lateS (cP hb _ _ _) ?_ hline (ho c rfl rfl ok s m as M l _ _ a d h);have hp:∀{es:List Expr},(∀e∈es,isStar e=false)->(Uj pos (Sa es c.env)).all (λx=>!x.1)=true:=by
  intro es;induction es with
  |nil=>intro _;rfl
  |cons e r ih=>intro h;rw[bT (h e (.head _))];exact ih λe' q=>h e' (.tail _ q)
 rw[hp hs];exact decide_eq_true (show args.length+0 < 30 from hlen)
theorem any_false{es:List Expr}(h:es.any isStar=false):∀e∈es,isStar e=false:=λe he=>by
 induction q:isStar e using PU with
 |false=>rfl
 |true=>rw[Uu.mpr ⟨e,he,q⟩] at h;exact jr h
theorem jJ(h:isStar e=false)(pos:Pos)(env:Vs):Uj pos (Sa [e] env)=[(false,eval e env)]:=by rw[bT h];rfl
theorem vX{c:WC}{s:PM}{id:String}(slot:Slot "list" name id)(ty:UL (.builtin id)=pure (.type "method_descriptor"))(g:s.heap.get? r=some (listOf its n))(h:P2 c.M c.A (Uv pos (.builtin id) [.ref r] args []) Q c.E s):MethodOnS c.G.prog c.G.w c.A c.E name (.ref r) pos args Q s:=
 ⟨"list",id,PySem.F.plainAttrs_list,slot,ty,⟨_,g,rfl⟩,λa e=>by cases e;exact⟨_,g,rfl⟩,h⟩
theorem qr{c:WC}{id:String}(h:P2 c.M c.A x (λv s1=>P2 c.M c.A (call (.builtin id) (first++[v])) Q c.E s1) c.E s):
  P2 c.M c.A (Uv pos (.builtin id) first [(false,x)] []) Q c.E s:=
 RA rfl (Rt (Rc (wpAny_mono h (λ_ _ h₁=>Rw h₁) λ_ _ e=>e)))
theorem ar.append(hb:eF o=false)(hline:(apos.endLine == pos.line)=true)(hs:isStar e=false)(ho:ar G cx o do_)(he:ar G cx e de):
  ar G cx (.Call (.Attribute o (PR "append") apos) [e] [] pos) (az do_ de):=by
 intro c hG hcx ok s m as M l Qm Qr a d k;subst hG hcx;refine kI hb hline (by simpa using hs) (by show 1 < 30;decide) ho ok a d λv s1 M1 as1 x a1 S1 r1 d1=>?_
 (refine aT (cp d1) λr q1q d1=>?_;obtain rfl:=q1q)
 refine xA (d1 trivial) λh0 d1=>?_;refine xE (Qt.mp h0) λys hy=>?_;refine sd (a1.list hy) λits0 n0 g0 _=>?_
 (refine xA r1.lst_inv λq0q hm=>?_;obtain rfl:=q0q)
 refine vX PySem.F.slot_list_append PySem.F.type_list_append g0 ?_;rw[jJ hs];refine qr (he c rfl rfl ok s1 m as1 M1 l _ _ a1 d1 λv2 s2 M2 as2 x2 a2 S2 r2 d2=>?_);refine j8 (bg (d2 trivial)) λxs e2 hc d2=>?_;refine aX (a2.list e2) λits n g rr _ z=>?_;have hl:xs.length=its.size:=by rw[rr.length,P9]
 refine append_at g (λh' hs e=>?_) (PH z (by decide));refine xA (a2.n9 ok e2 (vs':=xs++[x2]) hs e (by rw[Array.size_push,<- hl];exact Qs hc) (by rw[V0];exact rr.append (.cons r2 .nil))) λa3 S3=>?_;exact k _ _ _ _ _ a3 ((S1.trans S2).trans S3) .none d2
theorem ar.extend(hb:eF o=false)(hline:(apos.endLine == pos.line)=true)(hs:isStar e=false)(ho:ar G cx o do_)(he:ar G cx e de):
  ar G cx (.Call (.Attribute o (PR "extend") apos) [e] [] pos) (bD do_ de):=by
 intro c hG hcx ok s m as M l Qm Qr a d k;subst hG hcx;refine kI hb hline (by simpa using hs) (by show 1 < 30;decide) ho ok a d λv s1 M1 as1 x a1 S1 r1 d1=>?_
 (refine aT (cp d1) λr q1q d1=>?_;obtain rfl:=q1q)
 refine xA (d1 trivial) λh0 d1=>?_;refine xE (Qt.mp h0) λys hy=>?_;refine sd (a1.list hy) λits0 n0 g0 _=>?_
 (refine xA r1.lst_inv λq0q hm=>?_;obtain rfl:=q0q)
 refine vX Uk PySem.F.type_list_extend g0 ?_;rw[jJ hs];refine qr (he c rfl rfl ok s1 m as1 M1 l _ _ a1 d1 λv2 s2 M2 as2 x2 a2 S2 r2 d2=>?_)
 (refine aT (cp d2) λr' q1q d2=>?_;obtain rfl:=q1q)
 refine aT (bg (d2 trivial)) λxs e2 d2=>?_;refine BK (bg d2) λys e3 hne hc d2=>?_
 (refine xA r2.lst_inv λq0q hm'=>?_;obtain rfl:=q0q)
 refine aX (a2.list e2) λits n g rr _ z=>?_;refine aX (a2.list e3) λits2 n2 g2 pe _ z2=>?_;rw[rr.length,pe.length,P9,P9] at hc;have hz:its.size+its2.size < R0:=SV hc (by decide);refine xA (a2.rR ok e2 g (f:=λy=>y++its2) (vs':=xs++ys) (by rw[Ub];exact Q0 hc) (by rw[SM];exact rr.append pe)) λa3 S3=>?_;refine call_meets Uk ⟨_,g,rfl⟩ PySem.F.entry_list_extend (PySem.F.args_list_extend_2 _ _) (Va r its n r' its2 n2 (by unfold Ul;simp only[Qy,decide_eq_true_eq,not_and];lia) (by exact nA hz) (by exact nA hz)) ⟨g,g2,k _ _ _ _ _ a3 ((S1.trans S2).trans S3) .none d2⟩
theorem wb(l:List α)(n:Nat)(h:l.length=n+1):l.eraseIdx n=l.take n:=by
 rw[List.eraseIdx_eq_take_drop_succ,List.drop_eq_nil_of_le (QQ h),Qg]
theorem ar.pop(hb:eF o=false)(hline:(apos.endLine == pos.line)=true)(ho:ar G cx o do_):
  ar G cx (.Call (.Attribute o (PR "pop") apos) [] [] pos) (fU do_):=by
 intro c hG hcx ok s m as M l Qm Qr a d k;subst hG hcx;refine kI hb hline (by simp) (by show 0 < 30;decide) ho ok a d λv s1 M1 as1 x a1 S1 r1 d1=>?_
 (refine aT (cp d1) λr q1q d1=>?_;obtain rfl:=q1q)
 refine aT (bg (d1 trivial)) λxs e2 d1=>?_;refine aT (bg d1) λy hy d1=>?_
 (refine xA r1.lst_inv λq0q hm=>?_;obtain rfl:=q0q)
 refine aX (a1.list e2) λits n g rr _ z=>?_;refine vX U2 PySem.F.type_list_pop g (RA (args:=[]) rfl (PySem.evalArgs_none ?_));have hl:xs.length=its.size:=by rw[rr.length,P9]
 have hne:xs≠[]:=λq=>by rw[q] at hy;exact nX hy
 have hpos:0 < its.size:=by rw[<- hl];exact SN.mpr hne
 rw[List.getLast?_eq_getElem?] at hy;refine aT (rr.get hy) λw hw rw_=>?_;have he:(its.eraseIdxIfInBounds (its.size - 1)).toList=its.toList.take (its.size - 1):=by
  unfold Array.eraseIdxIfInBounds;rw[dif_pos (Nat.sub_lt hpos Nat.one_pos),Array.toList_eraseIdx];exact wb its.toList (its.size - 1) (by rw[P9,TY hpos])
 have hx:xs.dropLast=xs.take (its.size - 1):=by rw[List.dropLast_eq_take,hl]
 refine xA (a1.rR ok e2 g (f:=λy=>y.eraseIdxIfInBounds (its.size - 1)) (vs':=xs.dropLast) (by rw[<- P9,he,Tv,P9];exact PH (Ts _ _) z) (by rw[he,hx];exact rr.take _)) λa3 S3=>?_;refine call_meets U2 ⟨_,g,rfl⟩ PySem.F.entry_list_pop (PySem.F.args_list_pop_1 _) (Wz r its n w (by rw[<- hl,<- Sk];exact hw) (PH z (by decide))) ⟨g,k _ _ _ _ _ a3 (S1.trans S3) (rw_.step S3) d1⟩
end
end
section
section
variable{G:GX}{cx:Cx}
theorem Io(h:cx.blt x t=true):x=PR t/\cx.sc.names.lookup x=some .globalImplicit:=by
 unfold Cx.blt at h;simp only[Qy,beq_iff_eq] at h;exact h
theorem vy(ok:c.OK)(a:At c s m as M l)(h:c.cx.blt x t=true)(hm:PR t∈(["len","any","tuple","list","int","min","range","enumerate"]:List Qd))(hv:bootBuiltins (PR t)=some v)(hq:Q v s):P2 c.M c.A (eval (.Name x np) c.env) Q c.E s:=by
 (refine xA (Io h) λq0q hn=>?_;obtain rfl:=q0q)
 have hne:PR t≠"__name__":=λq=>by rw[q] at hm;revert hm;decide
 have hnd:(PR t == ("__debug__":Qd))=false:=by
  rw[beq_eq_false_iff_ne];intro q;rw[q] at hm;revert hm;decide
 have T:=a.inv.get ok.g;exact QT (by rw[ok.sc];exact ok.kind) (by unfold Rx;rw[ok.sc];exact hn)
  (VL (mg:=c.G.mg) (mb:=c.G.mb) (by rw[ok.globals];exact T.g) (mg_none_of ok.g.X ok.g.T.g (ok.g.Na _ hm)) (by rw[ok.builtins];exact T.b) ((T.builtins _ hne).trans hv) hq) hnd
theorem Call_name1{c:WC}(hs:isStar e=false)(h:P2 c.M c.A (eval (.Name x np) c.env) (λf s₁=>P2 c.M c.A (Uv pos f [] [(false,eval e c.env)] []) Q c.E s₁) c.E s):
  P2 c.M c.A (eval (.Call (.Name x np) [e] [] pos) c.env) Q c.E s:=by
 show P2 c.M c.A (do Uv pos (<- eval (.Name x np) c.env) [] (Uj pos (Sa [e] c.env)) (V1 pos (Uc [] c.env))) Q c.E s;rw[jJ hs];exact wpAny_bind h
theorem xm(ok:c.OK)(a:At c s m as M l)(h:c.cx.blt x t=true)(hm:PR t∈(["len","any","tuple","list","int","min","range","enumerate"]:List Qd))(hs:isStar e=false)(he:ar c.G c.cx e de)(d:de c.call l M Qm c.X)(hv:bootBuiltins (PR t)=some f)(hf:(∃id,f = .builtin id)\/∃T,f = .type T)(k:∀v s1 M1 as1 x,At c s1 m as1 M1 l->Step c.fr.fs [] s.heap as s1.heap as1->aF c.G s1.heap as1 x v->Qm x M1->P2 c.M c.A (call f [v]) Q c.E s1):
  P2 c.M c.A (eval (.Call (.Name x np) [e] [] pos) c.env) Q c.E s:=by
 refine Call_name1 hs (vy ok a h hm hv ?_);rcases hf with⟨id,rfl⟩ |⟨T,rfl⟩
 ·exact RA rfl (Rt (Rc (he c rfl rfl ok s m as M l _ _ a d λv s1 M1 as1 x a1 S1 r1 d1=>Rw (k v s1 M1 as1 x a1 S1 r1 d1))))
 ·exact PyProof.Rows.callWith_type rfl (Rt (Rc (he c rfl rfl ok s m as M l _ _ a d λv s1 M1 as1 x a1 S1 r1 d1=>Rw (k v s1 M1 as1 x a1 S1 r1 d1))))
theorem CH(h:n<=bh+1):(n:Int) < 2 ^ 63:=by have:=zm h;omega
theorem ar.len(h:cx.blt x "len" = true)(hs:isStar e=false)(he:ar G cx e de):ar G cx (.Call (.Name x np) [e] [] pos) (cj de):=by
 intro c hG hcx ok s m as M l Qm Qr a d k;subst hG hcx;refine xm ok a h (by decide) hs he d (by rw[Boot.«len»]) (.inl ⟨_,rfl⟩) λv s1 M1 as1 x a1 S1 r1 d1=>?_;induction x using V.casesOn
 case lst r=>
  refine b6 (a1.lst (d1 trivial)) λxs its n d1 e2 g rr z hl=>?_
  (refine xA r1.lst_inv λq0q _=>?_;obtain rfl:=q0q)
  rw[hl] at d1;exact call_len_list (aU g) (CH z) (k _ _ _ _ _ (a1.toks _) S1 (.int _ _) d1)
 case tup xs=>
  (refine cA r1.eg λits r q2q e2 n z rr=>?_;obtain rfl:=q2q)
  replace d1:Qm (.int xs.length) M1:=d1;rw[rr.length] at d1;exact PyProof.Rows.len_tuple e2 (by rw[Qo];exact CH z) (by rw[Qo];exact k _ _ _ _ _ (a1.toks _) S1 (.int _ _) d1)
 all_goals exact d1.elim
theorem Step.BO(k:∀b o,h.get? b=some o->h'.get? b=some o)(hr:h.get? r=none):Step fs xs h as h' (r::as):=
 let S:Step fs xs h as h' as:=Step.gD k
 ⟨S.keep,S.cK,S.tup,S.cB,λa q=>(PJ.mp q).elim (λe=>.inr (e ▸ hr)) .inl,λa q=>.tail _ q⟩
theorem At.BO(a:At c s m as M l)(hk:∀b o,s.heap.get? b=some o->h'.get? b=some o)(hr:s.heap.get? r=none)(e:h'.get? r=some (listOf its n))(hz:its.size<=bh+1)(rr:aE c.G s.heap as vs its.toList)(t:Nat):
  M r=none/\At c {s with heap:=h',toks:=t} m (r::as) (M.set r (.list vs)) l/\Step c.fr.fs [] s.heap as h' (r::as):=by
 have I:=a.inv;have S:Step c.fr.fs [] s.heap as h' (r::as):=Step.BO hk hr;have hM:M r=none:=by
  refine xE I.rep λD R=>?_;induction q:M r using Option.casesOn with
  |none=>rfl
  |some o=>obtain⟨⟨o',e'⟩,_⟩:=I.mem _ (R.mem _ o q).1;rw[hr] at e';exact bf e'
 have hn:r∉as:=λq=>by obtain⟨⟨o',e'⟩,_⟩:=I.mem _ q;rw[hr] at e';exact bf e'
 have J:=I.grown hk t;refine⟨hM,a.step ⟨J.F,J.eE,λb q=>?_,I.rep.set S (λb q _=>let ⟨⟨o',e'⟩,_⟩:=I.mem b q;by rw[e'];exact hk _ _ e') (.head _) (.inl ⟨hM,hn⟩) trivial ⟨its,n,e,hz,rr.step S⟩,J.os,J.gens⟩ S,S⟩;rcases PJ.mp q with rfl |q
 ·refine⟨⟨_,e⟩,?_,λz=>?_⟩
  ·induction q:c.G.base.get? b using Option.casesOn with
   |none=>rfl
   |some o=>have:=I.F.keep _ _ q;rw[hr] at this;exact bf this
  ·refine xC (gw.iz I.eE z) λ_ o e' _=>?_;rw[hr] at e';exact bf e'
 ·exact J.mem b q
theorem ar.Mp{x:Qd}{np pos:Pos}{e:Expr}{de:ME}(h:cx.blt x "tuple" = true)(hs:isStar e=false)(he:ar G cx e de):ar G cx (.Call (.Name x np) [e] [] pos) (w7 de):=by
 intro c hG hcx ok s m as M l Qm Qr a d k;subst hG hcx;refine xm ok a h (by decide) hs he d (by rw[Boot.«tuple»]) (.inr ⟨_,rfl⟩) λv s1 M1 as1 x a1 S1 r1 d1=>?_
 (refine aT (cp d1) λr q1q d1=>?_;obtain rfl:=q1q)
 refine b6 (a1.lst (d1 trivial)) λxs its n d1 e2 g rr z hl=>?_
 (refine xA r1.lst_inv λq0q _=>?_;obtain rfl:=q0q)
 refine call_tuple_list (aU g) (λh' hk=>?_) (PH z (by decide));refine xA (a1.grown hk s1.toks) λa2 S2=>?_;refine xA (a2.push {cls:=.type "tuple",data:=.seq its}) λa3 S3=>?_;have r3:=aF.qw (fs:=c.fr.fs) a2.inv.e9 (by rw[P9];exact z) (rr.step S2);rw[Array.toArray_toList] at r3;exact k _ _ _ _ _ a3 ((S1.trans S2).trans S3) r3 d1
theorem ar.listOf(h:cx.blt x "list" = true)(hs:isStar e=false)(he:ar G cx e de):ar G cx (.Call (.Name x np) [e] [] pos) (fC de):=by
 intro c hG hcx ok s m as M l Qm Qr a d k;subst hG hcx;refine xm ok a h (by decide) hs he d (by rw[Boot.«list»]) (.inr ⟨_,rfl⟩) λv s1 M1 as1 x a1 S1 r1 d1=>?_
 (refine aT (cp d1) λr q1q d1=>?_;obtain rfl:=q1q)
 refine b6 (a1.lst (d1 trivial)) λxs its n d1 e2 g rr z hl=>?_
 (refine xA r1.lst_inv λq0q _=>?_;obtain rfl:=q0q)
 refine call_list_seq _ (.inl rfl) g rfl rfl (λh' c' hk hD=>?_) (PH z (by decide));refine kr (a1.BO hk (bL _) hD z rr s1.toks) λhM a2 S2=>?_;exact k _ _ _ _ _ a2 (S1.trans S2) (.lst (.head _)) (d1.2 _ hM)
theorem ar.intOf(h:cx.blt x "int" = true)(hs:isStar e=false)(he:ar G cx e de):ar G cx (.Call (.Name x np) [e] [] pos) (fi de):=by
 intro c hG hcx ok s m as M l Qm Qr a d k;subst hG hcx;refine xm ok a h (by decide) hs he d (by rw[Boot.«int»]) (.inr ⟨_,rfl⟩) λv s1 M1 as1 x a1 S1 r1 d1=>?_
 (refine aT (Ax d1) λb q1q d1=>?_;obtain rfl:=q1q)
 rw[r1.bool_inv];exact call_int_bool (k _ _ _ _ _ a1.tok S1 (.int _ _) d1)
theorem Dt{bs:List Bool}:∀{xs:List Value},aE G h as (bs.map V.bool) xs->xs=bs.map Value.bool:=by
 induction bs with
 |nil=>intro xs r;cases r;rfl
 |cons b bs ih=>intro xs r;cases r with |cons a r=>cases a;rw[ih r];rfl
theorem lP(bs:List Bool):((UM bs.length).any λi=>(bs[i]?).getD false)=bs.any id:=by
 induction bs with
 |nil=>rfl
 |cons b bs ih=>
  rw[QY,List.range_succ_eq_map,TA,V2,TA];have:((UM bs.length).any ((λi=>((b::bs)[i]?).getD false) ∘ Nat.succ))=bs.any id:=by rw[<- ih];rfl
  rw[this];rfl
theorem ar.any(h:cx.blt x "any" = true)(hs:isStar e=false)(he:ar G cx e de):ar G cx (.Call (.Name x np) [e] [] pos) (JF de):=by
 intro c hG hcx ok s m as M l Qm Qr a d k;subst hG hcx;refine xm ok a h (by decide) hs he d (by rw[Boot.«any»]) (.inl ⟨_,rfl⟩) λv s1 M1 as1 x a1 S1 r1 d1=>?_
 (refine aT (cp d1) λr q1q d1=>?_;obtain rfl:=q1q)
 refine b6 (a1.lst (d1 trivial)) λxs its n d1 e2 g rr z hl=>?_
 (refine xA r1.lst_inv λq0q _=>?_;obtain rfl:=q0q)
 obtain⟨bs,rfl,d1⟩:=d1;have hb:=Dt rr;have hlt:r < s1.heap.objs.size:=Qw g;refine call_any_walk (V3 (aU g) ?_);refine⟨s1.heap.objs.size,[s1.heap.objs.size,r],[s1.heap.objs.size],its.size,_,_,λi=>(bs[i]?).getD false,rfl,Walks.list (A:=c.A.in1) ok.a.handled _ r (Te hlt) its,
  ⟨⟨_,QD _ rfl,rfl,rfl⟩,(aU g).push _⟩,λi v s' Q' E' hP hQ=>?_,λh' tk hk=>?_⟩
 ·have hP':its.toList[i]?=some v:=by rw[Sk];exact hP
  rw[hb,QE] at hP';obtain⟨b,e,rfl⟩:=Qa.mp hP';replace hQ:Q' ((bs[i]?).getD false) s':=hQ;rw[e] at hQ;exact Ri hQ
 ·rw[<- hl,Qc,lP]
  obtain⟨a2,S2⟩:=a1.grown (LSm.kept_iter hk) tk;exact k _ _ _ _ _ a2 (S1.trans S2) (.bool _) d1
theorem ar.min(h:cx.blt x "min" = true)(hs:isStar e=false)(hs2:isStar f=false)(he:ar G cx e de)(hf:ar G cx f df):ar G cx (.Call (.Name x np) [e,f] [] pos) (Iz de df):=by
 intro c hG hcx ok s m as M l Qm Qr a d k;subst hG hcx;show P2 c.M c.A (do Uv pos (<- eval (.Name x np) c.env) [] (Uj pos (Sa [e,f] c.env)) (V1 pos (Uc [] c.env))) _ c.E s;rw[bT hs,bT hs2];refine wpAny_bind (vy ok a h (by decide) (by rw[Boot.«min»]) ?_);refine RA rfl (Rt (Rc (he c rfl rfl ok s m as M l _ _ a d λv s1 M1 as1 x a1 S1 r1 d1=>Rc (hf c rfl rfl ok s1 m as1 M1 l _ _ a1 d1 λv2 s2 M2 as2 x2 a2 S2 r2 d2=>Rw ?_))))
 (refine aT (bE d2) λi q1q d3=>?_;obtain rfl:=q1q)
 (refine aT (bE d3) λj q1q d4=>?_;obtain rfl:=q1q)
 (refine xE r1.int_inv λt q1q=>?_;obtain rfl:=q1q)
 (refine xE r2.int_inv λu q1q=>?_;obtain rfl:=q1q)
 refine min_two_ints ok.a.handled λh' tk hk=>?_;refine xA (a2.grown hk tk) λa3 S3=>?_;refine k _ _ _ _ _ a3 ((S1.trans S2).trans S3) ?_ d4;split
 ·exact .int _ _
 ·exact .int _ _
end
end
section
theorem Exc.mono(S:Step fr.fs xs h0 eQ h1 as1)(h:Exc G fr h1 as1 [] X e s'):Exc G fr h0 eQ xs X e s':=by
 refine eD h λa t M' as' B m' h1 h2 h3 h4 h5 h6 h7 h8 h9=>?_;exact⟨a,t,M',as',B,m',h1,h2,h3,S.trans h4.weaken,h5,h6,λb o e1 e2 e3 e4=>h7 b o (S.keep b o e1 e2 e3 e4) (S.out e1 e2) e3 P6,h8,h9⟩
section
variable{G:GX}{cx:Cx}
set_option backward.match.sparseCases true in
theorem B8(ok:c.OK)(a:At c s m as M l)(r:aE c.G s.heap as vs vals)(d:c.call k vs Qm c.X M)(kk:KE c s m as l Qm Qr)(ha:Cw c.fr c.n A):
  Sl c.M A (.call (.ref (c.G.dS k)) ⟨vals,[]⟩) (λr s'=>match r with |.ok (.ret v)=>Qr v s' |.ok _=>False |.error e=>c.E e s') s:=by
 refine UN (ok.call c.fr ok.fr A ha k vs Qm c.X M d s m as vals a.inv r) λr s' h=>?_;induction r using WR with
 |ok f=>
  induction f using VM with
  |ret v=>
   refine rV h λM' as' x I S rr q=>?_;exact kk v s' M' as' x (a.step I S) S rr q
  |_=>exact h.elim
 |error e=>exact Exc.mono a.st h
theorem uz(ok:c.OK)(a:At c s m as M l)(r:aE c.G s.heap as vs vals)(d:c.call k vs Qm c.X M)(kk:KE c s m as l Qm Qr):P2 c.M c.A (call (.ref (c.G.dS k)) vals) Qr c.E s:=
 wpAny_call (B8 ok a r d kk ok.a.w)
theorem gp(ok:c.OK)(a:At c s m as M l):c.G.K.In s.heap:=ok.g.X.keeps a.inv.F.keep
theorem plain_all{pos:Pos}{env:Vs}:∀{es:List Expr},(∀e∈es,isStar e=false)->(Uj pos (Sa es env)).any (·.1)=false
 |[],_=>rfl
 |e::r,h=>by rw[bT (h e (.head _))];exact plain_all λe' q=>h e' (.tail _ q)
theorem ki(hs:∀e,isStar e=true->f e=bH)(hne:es≠[])(hst:∀e∈es,isStar e=false)(he:∀e∈es,ar G cx e (f e))(hG:c.G=G)(hcx:c.cx=cx)(ok:c.OK)(a:At c s m as M l)(d:En (es.map f) c.call l M (λvs M1=>c.call k vs Qm c.X M1) c.X)(kk:KE c s m as l Qm Qr):
  P2 c.M c.A (Uv pos (.ref (c.G.dS k)) [] (Uj pos (Sa es c.env)) []) Qr c.E s:=by
 have hp:=plain_all (pos:=pos) (env:=c.env) hst;refine Wu (P:=c.G.K.In) (by rw[hp];rfl) (keeps_K (ok.g.Lg k)) ?_;have hsp:=fD hs (pos:=pos) he c hG hcx ok s m as M l _ (λvs s1=>c.G.K.In s1.heap/\P2 c.M c.A (call (.ref (c.G.dS k)) vs) Qr c.E s1) a d
  λvs s1 M1 as1 xs a1 S1 r1 _ q=>⟨gp ok a1,uz ok a1 r1 q λv s2 M2 as2 x a2 S2 r2 q2=>kk v s2 M2 as2 x a2 (S1.trans S2) r2 q2⟩
 induction es using PI with
 |nil=>exact absurd rfl hne
 |cons e r=>
  rw[bT (hst e (.head _))] at hsp |-;exact evalArgs_plain hsp
theorem ar.call(hs:∀e,isStar e=true->f e=bH)(hne:es≠[])(hst:∀e∈es,isStar e=false)(hx:cx.gl x=some (.fn k))(he:∀e∈es,ar G cx e (f e)):
  ar G cx (.Call (.Name x np) es [] pos) (ah k (es.map f)):=by
 intro c hG hcx ok s m as M l Qm Qr a d kk;refine VN ?_;subst hG hcx;refine kr (Cx.jf hx) λhd hl hn=>?_;rw[ok.glob] at hl;rcases ok.g.glob x _ hl with⟨e,_⟩ |⟨e,_⟩ |⟨val,e,r⟩
 ·cases e
 ·cases e
 ·cases r
  refine QT (by rw[ok.sc];exact ok.kind) (by unfold Rx;rw[ok.sc];exact hn) (RR (mg:=c.G.mg) (by rw[ok.globals];exact(a.inv.get ok.g).g) (Xf ok.g.X ok.g.T.g e) ?_) hd;exact ki hs hne hst he rfl rfl ok a d kk
theorem ar.Ly(hs:∀e,isStar e=true->f e=bH)(hne:es≠[])(hst:∀e∈es,isStar e=false)(hf:ar G cx (.Subscript v i p) df)(he:∀e∈es,ar G cx e (f e)):
  ar G cx (.Call (.Subscript v i p) es [] pos) (m7 df (es.map f)):=by
 intro c hG hcx ok s m as M l Qm Qr a d kk;show P2 c.M c.A (do Uv pos (<- eval (.Subscript v i p) c.env) [] (Uj pos (Sa es c.env)) (V1 pos (Uc [] c.env))) _ c.E s;refine wpAny_bind (hf c hG hcx ok s m as M l _ _ a d λvf s1 M1 as1 xf a1 S1 rf d1=>?_)
 (refine aT (GU d1) λk q1q d1=>?_;obtain rfl:=q1q)
 rw[rf.HT];exact ki hs hne hst he hG hcx ok a1 d1 λv s2 M2 as2 x a2 S2 r2 q2=>kk v s2 M2 as2 x a2 (S1.trans S2) r2 q2
theorem Er(h:Sl M A c R s)(hR:∀r s,R r s->R' r s):Sl M A c R' s:=UN h hR
theorem ar.prop(hb:eF v=false)(hv:ar G cx v dv):ar G cx (.Attribute v (PR "code") pos) (cq dv):=by
 intro c hG hcx ok s m as M l Qm Qr a d k;refine sY hb (hv c hG hcx ok s m as M l _ _ a d λva s1 M1 as1 xa a1 S1 ra d1=>?_)
 (refine aT (j2 d1) λw q1q d1=>?_;obtain rfl:=q1q)
 refine xA (d1 trivial) λhp d1=>?_;obtain⟨⟨p,q,r⟩,e⟩:=Qt.mp hp
 (refine xA ra.lX λq0q hm=>?_;obtain rfl:=q0q)
 refine dV (a1.av e) λ_ _ dx _ e1 n t1 t2 t3 xp xf xs e2 rp rf rs=>?_;refine jQ ok.g.code λh1 h2 p rest h3 h4 h5 h6=>?_;refine get_prop a1.inv.F ok.g.X (gh e1 e2) h1 h2 h3 h4 h5 h6 ?_;have a2:=a1.tok;refine UN (ok.call c.fr ok.fr c.A.in1 ok.a.in1 13 _ Qm (λ_=>False) M1 d1 _ m as1 _ a2.inv (.cons (.obj hm) .nil)) λr s' h=>?_;induction r using WR with
 |ok f=>
  induction f using VM with
  |ret v=>
   refine rV h λM' as' x I S rr q=>?_;have:P2 c.M c.A (pure v) Qr c.E s':=wpAny_pure (k v s' M' as' x (a2.step I S) (S1.trans S) rr q);cases rr<;>exact this
  |_=>exact h.elim
 |error e=>refine gr h λ_ _ _ _ _ _ _ hX _=>?_;exact hX.elim
theorem zB(P:Sq)(t1 t2 t3:Tok)(p f s:Value)(h:(x,k)∈([("parts",14),("labels",15)]:List (Qd × Nat))):getL x (ei P t1 t2 t3 p f s)=some none:=by
 simp only[PJ,WY,P6,or_false] at h;rcases h with⟨rfl,_⟩ |⟨rfl,_⟩<;>rfl
theorem ar.FI(hk:(x,k)∈([("parts",14),("labels",15)]:List (Qd × Nat)))(hb:eF o=false)(hline:(apos.endLine == pos.line)=true)(ho:ar G cx o do_):
  ar G cx (.Call (.Attribute o x apos) [] [] pos) (dw k do_):=by
 intro c hG hcx ok s m as M l Qm Qr a d kk;subst hG hcx;rw[arm_eval_Call,cP hb];refine wpAny_bind (ho c rfl rfl ok s m as M l _ _ a d λva s1 M1 as1 xa a1 S1 ra d1=>wpAny_bind (wpAny_standAt ?_))
 (refine aT (j2 d1) λw q1q d1=>?_;obtain rfl:=q1q)
 refine xA (d1 trivial) λhp d1=>?_;obtain⟨⟨p,q,r⟩,e⟩:=Qt.mp hp
 (refine xA ra.lX λq0q hm=>?_;obtain rfl:=q0q)
 refine dV (a1.av e) λ_ _ dx _ e1 n t1 t2 t3 xp xf xs e2 rp rf rs=>?_;refine kr (ok.g.FI _ _ hk) λh1 h2 h3=>?_;have hform:methodCallForm (([]:List Expr).length+([]:List Keyword).length) (Uj pos (Sa [] c.env)) (V1 pos (Uc [] c.env))=true:=rfl;have hpos:Um true o c.env apos pos=pure pos:=by unfold Um;simp[hline]
 unfold methodCall;rw[hform];refine wpAny_bind (wpAny_holding (method_inst a1.inv.F ok.g.X (gh e1 e2) h1 h2 h3 (zB _ _ _ _ _ _ _ hk) ?_));refine wpAny_bind (Vc hpos ?_);refine callWith_K0 (gp ok a1) (ok.g.Lg k) ?_;exact uz ok a1 (.cons (.obj hm) .nil) d1 λv s2 M2 as2 x a2 S2 r2 q2=>kk v s2 M2 as2 x a2 (S1.trans S2) r2 q2
end
end
section
open Builtin Builtin.ObjectAttr Builtin.Getset_descriptor
theorem fY(name:Qd)(hsh:Int)(key v:Value):∀es:List SD,(putL name hsh key v es).length<=es.length+1
 |[]=>PK _
 |e::r=>by
  unfold putL;split
  ·simp
  ·have:=fY name hsh key v r
   simp only[QY];exact nA this
section
variable{prog:Rq}{w:Rf}{A:QP}{E:Value->PM->Prop}{s:PM}{K:Frag}{C x dx:Addr}{es:List SD}{n:Nat}{name:Qd}{v:Value}
theorem wA(X:K.In s.heap)(e1:s.heap.get? x=some (instObj C dx))(e2:s.heap.get? dx=some (Si es n))(hp:Wf K C=true)(ht:W7 K C name=some none)(hh:Ur K C=true)(hl:(getL name es).isSome=true)(hz:es.length<=999)(h:∀h',Q7 dx s.heap h'->h'.get? dx=some (Si (putL name (QS w.params name) (.str name s.toks) v es) (putN name es n))->R (.ok (.ret .none)) {s with heap:=h',toks:=s.toks+1}):
  Sl (model prog w) A (.call (.builtin "object.__setattr__") ⟨[.ref x,.str name tk,v],[]⟩) R s:=by
 refine osa_open X (gh e1 e2) hp ht λb=>?_;refine aT (any_some hh) λcd hc hd'=>?_;have D':(s.heap.update dx (Obj.putName name (QS w.params name) (.str name s.toks) v)).get? dx=some (Si (putL name (QS w.params name) (.str name s.toks) v es) (putN name es n)):=
  (Ro _ e2 (by rw[putName_dict];rfl)).trans (by rw[putName_dict])
 have hx:=e1;refine wpAny_bind (wpAny_pure (wpAny_bind (wpAny_bind (Tf hx (wpAny_bind ((Ud X hc).here ?_))))));rw[hd'];refine wpAny_pure (a:=some dx) (wpAny_bind (wpAny_pure (wpAny_bind ?_)));unfold nsSet;refine wpAny_bind (wpAny_bind (wpAny_askSetting (wpAny_pure (wpAny_bind (wpAny_mkText (wpAny_bind (Tf e2 ?_)))))));have hl':(lookIn name (Si es n)).isSome=true:=by rw[lookIn_dict];exact hl
 unfold lookIn at hl';dsimp only at hl' |-;have c:(!es.toArray.any (·.key.isStr name) && es.toArray.any (·.refKey))=false:=by
  rw[<- Wj,<- Wj];split at hl'
  ·rename_i en he
   rw[Uu.mpr ⟨en,List.mem_of_find?_eq_some he,List.find?_some he⟩];rfl
  ·split at hl'
   ·exact cy hl'
   ·rename_i z;rw[RJ] at z;rw[z,Tg]
 rw[UO,c];refine wpAny_updatePart e2 ?_;refine wpAny_bind (wpAny_lookBehind D' (pastItsLine_dict ?_) ?_)
 ·rw[Qo,sizeLine_eq]
  have:=fY name (QS w.params name) (.str name s.toks) v es;exact nA this (nA hz)
 ·exact wpAny_pure (h _ (TJ ..) D')
theorem mi(X:K.In s.heap)(e1:s.heap.get? x=some (instObj C dx))(e2:s.heap.get? dx=some (Si es n))(hs:Sj K (.ref C) "__setattr__" = some (some (.builtin "object.__setattr__")))(hp:Wf K C=true)(ht:W7 K C name=some none)(hh:Ur K C=true)(hl:(getL name es).isSome=true)(hz:es.length<=999)(h:∀h',Q7 dx s.heap h'->h'.get? dx=some (Si (putL name (QS w.params name) (.str name (s.toks+1)) v es) (putN name es n))->Q () {s with heap:=h',toks:=s.toks+2}):
  P2 (model prog w) A (setAttr (.ref x) name v) Q E s:=
 set_plain X (gh e1 e2) hs (wA (s:={s with toks:=s.toks+1}) X e1 e2 hp ht hh hl hz λh' a b=>h h' a b)
end
end
section
theorem dN.j0(S:Step fs xs h as h' as')(hf:o.flat)(ha:h'.get? a=h.get? a)(r:dN G h as dx a o):dN G h' as' dx a o:=by
 induction o using cz.casesOn with
 |list vs=>refine cI r λits n e z r=>?_;exact⟨its,n,ha.trans e,z,r.step S⟩
 |av p f s=>exact hf.elim
 |dict es=>exact dN.jb ha r
theorem vh.av(R:vh G h as M D)(hM:M r=some (.av p f s))(S:Step fs xs h as h' as)(hs:Q7 (D r) h h')(n:Nat)(t1 t2 t3:Tok)(xp xf xq:Value)(e:h'.get? (D r)=some (Si (ei G.w.params t1 t2 t3 xp xf xq) n))(rp:aF G h as p' xp)(rf:aF G h as f' xf)(rs:aF G h as s' xq):
  vh G h' as (M.set r (.av p' f' s')) D:=by
 have off:=R.off r p f s hM;have ne:∀a o,M a=some o->a≠D r:=λa o e q=>by rw[q,off] at e;exact bf e
 refine⟨λa o e'=>?_,λa p1 f1 s1 e'=>?_,λa p1 f1 s1 b p2 f2 s2 e1 e2 q=>?_⟩
 ·unfold Mem.set at e'
  by_cases q:a=r
  ·rw[if_pos q] at e';obtain rfl:=PG e';rw[q]
   refine q7 (R.mem r _ hM) λhm hd hi _=>?_;exact⟨hm,hd,(hs.2 r (ne r _ hM)).trans hi,n,t1,t2,t3,xp,xf,xq,e,rp.step S,rf.step S,rs.step S⟩
  ·rw[if_neg q] at e'
   refine xA (R.mem a o e') λhm ho=>?_;refine⟨hm,?_⟩;induction o using cz.casesOn with
   |av p1 f1 s1=>exact ho.keep S (hs.2 a (ne a _ e')) λ_=>hs.2 _ λz=>q (R.inj a _ _ _ r _ _ _ e' hM z)
   |list vs=>exact dN.j0 S (o:=.list vs) trivial (hs.2 a (ne a _ e')) ho
   |dict es=>exact dN.j0 S (o:=.dict es) trivial (hs.2 a (ne a _ e')) ho
 ·unfold Mem.set at e' |-
  have hne:D a≠r:=λz=>by
   by_cases q:a=r
   ·rw[q] at z;exact ne r _ hM z.symm
   ·rw[if_neg q] at e';have:=R.off a _ _ _ e';rw[z,hM] at this;exact b8 this
  rw[if_neg hne];by_cases q:a=r
  ·rw[q];exact off
  ·rw[if_neg q] at e';exact R.off a _ _ _ e'
 ·have old:∀a p f s,(M.set r (.av p' f' s')) a=some (.av p f s)->∃p f s,M a=some (.av p f s):=λa p1 f1 s1 e=>by
   unfold Mem.set at e;by_cases q:a=r
   ·rw[q];exact⟨_,_,_,hM⟩
   ·rw[if_neg q] at e;exact⟨_,_,_,e⟩
  refine og (old _ _ _ _ e1) λ_ _ _ e1=>?_;refine og (old _ _ _ _ e2) λ_ _ _ e2=>?_;exact R.inj a _ _ _ b _ _ _ e1 e2 q
theorem vh.mZ(R:vh G h as M D)(ha:∀a∈as,h.get? a≠none)(S:Step fs xs h as h' (x::dx::as))(hk:∀b o,h.get? b=some o->h'.get? b=some o)(hx:h.get? x=none)(hd:h.get? dx=none)(hne:x≠dx)(e1:h'.get? x=some (instObj G.C dx))(n:Nat)(t1 t2 t3:Tok)(xp xf xq:Value)(e:h'.get? dx=some (Si (ei G.w.params t1 t2 t3 xp xf xq) n))(rp:aF G h as p' xp)(rf:aF G h as f' xf)(rs:aF G h as s' xq):
  vh G h' (x::dx::as) (M.set x (.av p' f' s')) (λa=>if a=x then dx else D a):=by
 have hin:∀a o,M a=some o->a≠x/\a≠dx/\h'.get? a=h.get? a:=λa o e=>by
  have hm:=(R.mem a o e).1;refine⟨λq=>ha a hm (q ▸ hx),λq=>ha a hm (q ▸ hd),?_⟩;induction q:h.get? a using Option.casesOn with
  |none=>exact absurd q (ha a hm)
  |some o'=>exact hk _ _ q
 have din:∀a p f s,M a=some (.av p f s)->D a∈as/\D a≠x/\D a≠dx/\h'.get? (D a)=h.get? (D a):=λa p f s e=>by
  have hm:=(R.mem a _ e).2.1;refine⟨hm,λq=>ha _ hm (q ▸ hx),λq=>ha _ hm (q ▸ hd),?_⟩;induction q:h.get? (D a) using Option.casesOn with
  |none=>exact absurd q (ha _ hm)
  |some o'=>exact hk _ _ q
 refine⟨λa o e'=>?_,λa p1 f1 s1 e'=>?_,λa p1 f1 s1 b p2 f2 s2 e1 e2 q=>?_⟩
 ·unfold Mem.set at e'
  by_cases q:a=x
  ·rw[if_pos q] at e';obtain rfl:=PG e';subst q
   rw[if_pos rfl];exact⟨.head _,.tail _ (.head _),e1,n,t1,t2,t3,xp,xf,xq,e,rp.step S,rf.step S,rs.step S⟩
  ·rw[if_neg q] at e'
   refine xA (R.mem a o e') λhm ho=>?_;refine⟨S.more _ hm,?_⟩;rw[if_neg q];induction o using cz.casesOn with
   |av p1 f1 s1=>exact ho.keep S (hin a _ e').2.2 λ_=>(din a _ _ _ e').2.2.2
   |list vs=>exact dN.j0 S (o:=.list vs) trivial (hin a _ e').2.2 ho
   |dict es=>exact dN.j0 S (o:=.dict es) trivial (hin a _ e').2.2 ho
 ·unfold Mem.set at e' |-
  by_cases q:a=x
  ·rw[if_pos q,if_neg (Qu hne)]
   induction z:M dx using Option.casesOn with
   |none=>rfl
   |some o=>exact absurd rfl (hin _ _ z).2.1
  ·rw[if_neg q] at e' |-
   rw[if_neg (din a _ _ _ e').2.1];exact R.off a _ _ _ e'
 ·unfold Mem.set at e1 e2
  by_cases qa:a=x
  ·by_cases qb:b=x
   ·rw[qa,qb]
   ·rw[if_neg qb] at e2
    simp only[if_pos qa,if_neg qb] at q;exact absurd q.symm (din b _ _ _ e2).2.2.1
  ·rw[if_neg qa] at e1
   by_cases qb:b=x
   ·simp only[if_neg qa,if_pos qb] at q
    exact absurd q (din a _ _ _ e1).2.2.1
   ·rw[if_neg qb] at e2
    simp only[if_neg qa,if_neg qb] at q;exact R.inj a _ _ _ b _ _ _ e1 e2 q
section
variable{c:WC}{s:PM}{m:Qd->Option Value}{as:List Addr}{M:Mem}{l:Loc}
theorem At.nJ(ok:c.OK)(a:At c s m as M l)(R:vh c.G s.heap as M D)(hM:M r=some (.av p f q)){h':Qk}(hs:Q7 (D r) s.heap h')(n:Nat)(t1 t2 t3:Tok)(xp xf xq:Value)(e:h'.get? (D r)=some (Si (ei c.G.w.params t1 t2 t3 xp xf xq) n))(rp:aF c.G s.heap as p' xp)(rf:aF c.G s.heap as f' xf)(rs:aF c.G s.heap as q' xq)(t:Nat):
  At c {s with heap:=h',toks:=t} m as (M.set r (.av p' f' q')) l/\Step c.fr.fs [] s.heap as h' as:=by
 have hd:D r∈as:=(R.mem r _ hM).2.1;obtain⟨⟨o₀,e₀⟩,hb,hf⟩:=a.inv.mem _ hd;have I:=a.inv;have S:Step c.fr.fs [] s.heap as h' as:=Step.upd hs hd hf (by rw[e];exact λz=>by exact b8 z);have hL:c.fr.L≠D r:=λq=>hf (q ▸ ok.fr.iW);refine⟨a.step ⟨⟨I.F.ns.sameBut hs hL,λb ob e=>(hs.2 b λq=>by rw[q,hb] at e;exact bf e).trans (I.F.keep b ob e),I.F.above⟩,?_,λb q=>?_,⟨D,R.av hM S hs n t1 t2 t3 xp xf xq e rp rf rs⟩,I.os,I.gens⟩ S,S⟩
 ·refine gj (λb hb' o e=>?_) I.eE
  exact⟨o,(hs.2 b λq=>hf (q ▸ hb')).trans e,rfl⟩
 ·obtain⟨⟨o1,e1⟩,r1⟩:=I.mem b q
  refine⟨?_,r1⟩;induction z:h'.get? b using Option.casesOn with
  |none=>exact absurd z (S.cB b (by rw[e1];exact λw=>by exact b8 w))
  |some o2=>exact⟨o2,rfl⟩
theorem At.mZ(a:At c s m as M l)(hk:∀b o,s.heap.get? b=some o->h'.get? b=some o)(hx:s.heap.get? x=none)(hd:s.heap.get? dx=none)(hne:x≠dx)(e1:h'.get? x=some (instObj c.G.C dx))(n:Nat)(t1 t2 t3:Tok)(xp xf xq:Value)(e:h'.get? dx=some (Si (ei c.G.w.params t1 t2 t3 xp xf xq) n))(rp:aF c.G s.heap as p' xp)(rf:aF c.G s.heap as f' xf)(rs:aF c.G s.heap as s' xq)(t:Nat):
  M x=none/\At c {s with heap:=h',toks:=t} m (x::dx::as) (M.set x (.av p' f' s')) l/\Step c.fr.fs [] s.heap as h' (x::dx::as):=by
 have I:=a.inv;have S0:Step c.fr.fs [] s.heap as h' as:=Step.gD hk;have S:Step c.fr.fs [] s.heap as h' (x::dx::as):=⟨S0.keep,S0.cK,S0.tup,S0.cB,λb q=>by
  rcases PJ.mp q with rfl |q
  ·exact .inr hx
  ·rcases PJ.mp q with rfl |q
   ·exact .inr hd
   ·exact .inl q,λb q=>.tail _ (.tail _ q)⟩
 have ha:∀a∈as,s.heap.get? a≠none:=λb q z=>by obtain⟨⟨o',e'⟩,_⟩:=I.mem b q;rw[z] at e';exact bf e'
 have fresh:∀b o,s.heap.get? b=none->h'.get? b=some o->(∃o,h'.get? b=some o)/\c.G.base.get? b=none/\b∉c.fr.fs:=λb o hb e=>by
  refine⟨⟨_,e⟩,?_,λz=>?_⟩
  ·induction q:c.G.base.get? b using Option.casesOn with
   |none=>rfl
   |some o=>have:=I.F.keep _ _ q;rw[hb] at this;exact bf this
  ·refine xC (gw.iz I.eE z) λ_ o e' _=>?_;rw[hb] at e';exact bf e'
 refine xE I.rep λD R=>?_;have hM:M x=none:=by
  induction q:M x using Option.casesOn with
  |none=>rfl
  |some o=>exact absurd hx (ha _ (R.mem _ o q).1)
 have J:=I.grown hk t;refine⟨hM,a.step ⟨J.F,J.eE,λb q=>?_,⟨_,R.mZ ha S hk hx hd hne e1 n t1 t2 t3 xp xf xq e rp rf rs⟩,J.os,J.gens⟩ S,S⟩;rcases PJ.mp q with rfl |q
 ·exact fresh _ _ hx e1
 ·rcases PJ.mp q with rfl |q
  ·exact fresh _ _ hd e
  ·exact J.mem b q
end
end
section
section
variable{prog:Rq}{w:Rf}{A:QP}{E:Value->PM->Prop}{s:PM}{G:GX}
theorem qS(g:CZ G)(hk:fd.scope.kind = .function)(h1:fd.scope.names.lookup ("self":Qd)=some .local)(h2:fd.scope.names.lookup name=some .local)(hd:(name == ("__debug__":Qd))=false)(hn:s.heap.Ns L mm)(m1:mm ("self":Qd)=some (.ref x))(m2:mm name=some v)(X:G.K.In s.heap)(e1:s.heap.get? x=some (instObj G.C dx))(e2:s.heap.get? dx=some (Si es n))(hm:name∈(["plain","first","second"]:List Qd))(hl:(getL name es).isSome=true)(hz:es.length<=999)(hdL:L≠dx)(hdx:x≠dx)(hdK:G.K.lookup dx=none)(h:∀h' t,Q7 dx s.heap h'->h'.Ns L mm->h'.get? x=some (instObj G.C dx)->h'.get? dx=some (Si (putL name (QS w.params name) (.str name t) v es) (putN name es n))->
   P2 (model prog w) A (execs rest (Vo fd L fI)) Q E {s with heap:=h',toks:=s.toks+2}):
  P2 (model prog w) A (execs (.Assign [.Attribute (.Name "self" pa) name pb] (.Name name pc) pd::rest) (Vo fd L fI)) Q E s:=by
 refine RM (RY (ldc hk h2 hn m2 (ldc hk h1 hn m1 ?_) hd));refine q7 g.Lf λg1 g2 g3 g4=>?_;exact mi X e1 e2 g1 g2 (g4 _ hm) g3 hl hz λh' hs hD=>h h' _ hs (hn.sameBut hs hdL) ((hs.2 x hdx).trans e1) hD
theorem CD(g:CZ G)(I:Di G.K fI fd p)(hb:Vn s fd ⟨.ref x::args,[]⟩ (du x v u))(X:G.K.In s.heap)(hlim:s.heap.NoLimit)(e1:s.heap.get? x=some (instObj G.C dx))(e2:s.heap.get? dx=some emptyDict)(hne:x≠dx)(hdK:G.K.lookup dx=none)(hroom:A.depth < Vd)(h:∀h' t n t1 t2 t3,(∀b o,b≠dx->s.heap.get? b=some o->h'.get? b=some o)->h'.get? dx=some (Si (ei w.params t1 t2 t3 v u .none) n)->R (.ok (.ret .none)) {s with heap:=h',toks:=t}):
  Sl (model prog w) A (.call (.ref fI) ⟨.ref x::args,[]⟩) R s:=by
 refine og I.at_ λoc od sl ho=>?_;have hloc:∀y∈du x v u,fd.scope.names.lookup y.1=some .local:=by
  intro y hy;simp only[du,PJ,P6,or_false] at hy;rcases hy with rfl |rfl |rfl |rfl<;>exact I.locs _ (by simp)
 refine codeAny_call_def hroom (X _ _ ho) rfl hlim (WS X I.code) I.body hb I.cells hloc (λh₀ hn hk=>?_) I.co I.gen I.kind;have hL:∀b o,s.heap.get? b=some o->s.heap.objs.size≠b:=λb o e=>TO (Qw e);have X0:∀{h':Qk},(∀b o,b≠dx->h₀.get? b=some o->h'.get? b=some o)->G.K.In h':=λk b o e=>k b o (λq=>by rw[q,hdK] at e;exact bf e) (hk _ _ (X b o e));have e2':h₀.get? dx=some (Si [] 0):=hk _ _ e2;unfold mQ;refine qS g I.kind (I.locs _ (by simp)) (I.locs _ (by simp)) (by decide) (s:={s with heap:=h₀,toks:=_}) hn rfl rfl (X.keeps hk) (hk _ _ e1) e2' (by simp) rfl (by decide) (hL _ _ e2) hne hdK λh1 t1 s1 n1 x1 d1=>?_;refine qS g I.kind (I.locs _ (by simp)) (I.locs _ (by simp)) (by decide) n1 rfl rfl (X0 λb o q e=>(s1.2 b q).trans e) x1 d1 (by simp) rfl (PH (fY ..) (by decide)) (hL _ _ e2) hne hdK λh2 t2 s2 n2 x2 d2=>?_;refine qS g I.kind (I.locs _ (by simp)) (I.locs _ (by simp)) (by decide) n2 rfl rfl (X0 λb o q e=>(s2.2 b q).trans ((s1.2 b q).trans e)) x2 d2 (by simp) rfl (PH (fY ..) (PH (Qs (fY ..)) (by decide))) (hL _ _ e2) hne hdK λh3 t3 s3 n3 x3 d3=>?_;refine RQ ?_;exact h h3 _ _ t1 t2 t3 (λb o q e=>(s3.2 b q).trans ((s2.2 b q).trans ((s1.2 b q).trans (hk _ _ e)))) d3
set_option backward.match.sparseCases true in
theorem Gb(ok:c.OK)(a:At c s m as M l)(d:Lr vs M Qm)(r:aE c.G s.heap as vs vals)(kk:KE c s m as l Qm Qr):P2 c.M c.A (call (.ref c.G.C) vals) Qr c.E s:=by
 refine Cf ok.g.new λhm _ fI fd p hi hf I=>?_;have X:=gp ok a;have T:=a.inv.get ok.g;refine wpAny_call ?_;have base_none:∀b,s.heap.get? b=none->c.G.K.lookup b=none:=λb e=>by
  induction q:c.G.K.lookup b using Option.casesOn with
  |none=>rfl
  |some o=>have:=X _ _ q;rw[e] at this;exact bf this
 have go:∀(v u:Value)(pv uv:V),(∀s:PM,c.G.K.In s.heap->∀x,Vn s fd ⟨.ref x::vals,[]⟩ (du x v u))->aF c.G s.heap as pv v->aF c.G s.heap as uv u->(∀r,M r=none->Qm (.obj r) (M.set r (.av pv uv .none)))->
   Sl c.M c.A (.call (.ref c.G.C) ⟨vals,[]⟩) (λr s'=>match r with |.ok (.ret v)=>Qr v s' |.ok _=>False |.error e=>c.E e s') s:=by
  intro v u pv uv hb rv ru hq;obtain⟨h,g,dr,t,os⟩:=s;refine make_core (makes_of X hm) (UP X hi) (λself=>bind_fn X self hf) (.inl rfl) ?_;have k2:∀b o,h.get? b=some o->((h.push emptyDict).push (instObj c.G.C h.objs.size)).get? b=some o:=λb o e=>PY _ (PY _ e);have e2:((h.push emptyDict).push (instObj c.G.C h.objs.size)).get? h.objs.size=some emptyDict:=PY _ (QD _ rfl);have e1:((h.push emptyDict).push (instObj c.G.C h.objs.size)).get? (h.objs.size+1)=some (instObj c.G.C h.objs.size):=by
   have:=QD (o:=instObj c.G.C h.objs.size) (h.push emptyDict) rfl
   rwa [Ve] at this
  have X2:c.G.K.In ((h.push emptyDict).push (instObj c.G.C h.objs.size)):=X.keeps k2;refine CD (A:=c.A.under (.builtin "type.__call__" ⟨.ref c.G.C::vals,[]⟩)) (w:=c.G.w) (prog:=c.G.prog) (G:=c.G) (s:=⟨(h.push emptyDict).push (instObj c.G.C h.objs.size),g,dr,t,os⟩) (dx:=h.objs.size) ok.g I (hb _ X2 _) X2 (T.nolimit.keeps k2) e1 e2 (R5 _) (base_none _ (bL h)) (by rw[depth_under_kw];exact SW (show c.A.depth+1 < 981 by have:=ok.a.depth;exact nA this) (by decide)) λh' t' n t1 t2 t3 hk hD=>?_;have hx:h.get? (h.objs.size+1)=none:=by
   induction q:h.get? (h.objs.size+1) using Option.casesOn with
   |none=>rfl
   |some o=>exact absurd (Qw q) (UQ.mpr (P5 _))
  refine kr (a.mZ (h':=h') (x:=h.objs.size+1) (dx:=h.objs.size) (λb o e=>hk b o (Te (Qw e)) (k2 b o e)) hx (bL h) (R5 _) (hk _ _ (R5 _) e1) n t1 t2 t3 v u .none hD rv ru .none t') λhM a' S'=>?_;exact⟨rfl,kk _ _ _ _ _ a' S' (.obj (.head _)) (hq _ hM)⟩
 rcases vs with _ |⟨p,_ |⟨f,_ |⟨g,t⟩⟩⟩
 ·exact d.elim
 ·obtain⟨x,_,rfl,r1,r⟩:=r.cons_inv
  obtain rfl:=r.nil_inv;exact go _ .none _ .none (λs X x=>I.bind1 s X x _) r1 .none d
 ·obtain⟨x,_,rfl,r1,r⟩:=r.cons_inv
  obtain⟨y,_,rfl,r2,r⟩:=r.cons_inv;obtain rfl:=r.nil_inv;exact go _ _ _ _ (λs X x=>I.Ko s X x _ _) r1 r2 d
 ·exact d.elim
end
section
variable{G:GX}{cx:Cx}
theorem Ej(hs:∀e,isStar e=true->f e=bH)(hne:es≠[])(hst:∀e∈es,isStar e=false)(hx:cx.gl x=some (.obj 0))(he:∀e∈es,ar G cx e (f e)):
  ar G cx (.Call (.Name x np) es [] pos) (ia (es.map f)):=by
 intro c hG hcx ok s m as M l Qm Qr a d kk;refine VN ?_;subst hG hcx;refine kr (Cx.jf hx) λhd hl hn=>?_;rw[ok.glob] at hl;rcases ok.g.glob x _ hl with⟨_,e⟩ |⟨e,_⟩ |⟨val,e,r⟩
 ·refine QT (by rw[ok.sc];exact ok.kind) (by unfold Rx;rw[ok.sc];exact hn) (RR (mg:=c.G.mg) (by rw[ok.globals];exact(a.inv.get ok.g).g) (Xf ok.g.X ok.g.T.g e) ?_) hd
  have hp:=plain_all (pos:=pos) (env:=c.env) hst;refine Wu (P:=c.G.K.In) (by rw[hp];rfl) (keeps_K ok.g.new.2.1) ?_;have hsp:=fD hs (pos:=pos) he c rfl rfl ok s m as M l _ (λvs s1=>c.G.K.In s1.heap/\P2 c.M c.A (call (.ref c.G.C) vs) Qr c.E s1) a d
   λvs s1 M1 as1 xs a1 S1 r1 _ q=>⟨gp ok a1,Gb ok a1 q r1 λv s2 M2 as2 x a2 S2 r2 q2=>kk v s2 M2 as2 x a2 (S1.trans S2) r2 q2⟩
  induction es using PI with
  |nil=>exact absurd rfl hne
  |cons e r=>
   rw[bT (hst e (.head _))] at hsp |-;exact evalArgs_plain hsp
 ·cases e
 ·cases r with
  |obj q=>cases q
end
end
section
structure pJ (c:WC):Prop where
 env:c.env=c.fr.env
 locs:c.env.locals=c.fr.L
 MY:c.fr.L∈c.xs
 cells:∀x a,c.cx.sc.names.lookup x=some .cell->c.env.cells.lookup x=some a->a∈c.xs
 apart:∀x y a,c.cx.sc.names.lookup x=some .cell->c.cx.sc.names.lookup y=some .cell->c.env.cells.lookup x=some a->c.env.cells.lookup y=some a->x=y
 idx:∀x y i,c.cx.idx.lookup x=some i->c.cx.idx.lookup y=some i->x=y
 lt:∀x i,c.cx.idx.lookup x=some i->i < c.cx.idx.length
theorem jI{h h':Qk}{l:List Vs}:(∀b∈l.filterMap (·.frame),∀o,h.get? b=some o->(∀vs,o.data≠.fields vs)->∃o',h'.get? b=some o'/\∀vs,o'.data≠.fields vs)->h.FunFrames base l->h'.FunFrames base l:=by
 induction l with
 |nil=>exact λ_ _=>trivial
 |cons env rest ih=>
  intro k q;refine aX q.2.1 λL o hf hn ho hd=>?_;refine aT (k L (by rw[QC,hf];exact .head _) o ho hd) λo' ho' hd'=>?_;exact⟨q.1,⟨L,o',hf,hn,ho',hd'⟩,ih (λb hb=>k b (by rw[QC,hf];exact .tail _ hb)) q.2.2⟩
theorem kJ{h:Qk}(n:h.Ns a m)(t:Q3 h a its):False:=by
 refine nu n λo es ep ho hd _=>?_;refine qc t λo' ho' _ k hd'=>?_;rw[ho] at ho';obtain rfl:=PG ho';rw[hd] at hd';cases hd'
theorem tI{h:Qk}(n:h.IsCell a v)(t:Q3 h a its):False:=by
 refine aT n λo ho hd=>?_;refine qc t λo' ho' _ k hd'=>?_;rw[ho] at ho';obtain rfl:=PG ho';rw[hd] at hd';cases hd'
theorem mL(hs:Q7 b h h')(n:a≠b)(t:Q3 h a its):Q3 h' a its:=by
 refine aT t λo ho r=>?_;exact⟨o,(hs.2 a n).trans ho,r⟩
theorem Step.write{h':Qk}(hs:Q7 r h h')(hx:r∈xs)(hn:r∉as)(ht:∀its,¬ Q3 h r its)(he:h'.get? r≠none):Step fs xs h as h' as where
 keep a o e _ _ n:=(hs.2 a λq=>n (q ▸ hx)).trans e
 cK a o e _ n:=⟨o.slots,(hs.2 a λq=>n (q ▸ hx)).trans e⟩
 tup a its e _:=mL hs (λq=>ht its (q ▸ e)) e
 cB a e:=by
  by_cases q:a=r
  ·rw[q];exact he
  ·rw[hs.2 a q];exact e
 grow a q:=.inl q
 more a q:=q
theorem zt{l:Loc}(h:(l.set i (some v))[j]?=some (some w)):(j=i/\w=v)\/(j≠i/\l[j]?=some (some w)):=by
 by_cases q:j=i
 ·subst q
  rw[Sn] at h;simp only[if_true] at h;split at h
  ·cases h;exact .inl ⟨rfl,rfl⟩
  ·exact bf h
 ·rw[Sn,if_neg (Qu q)] at h
  exact .inr ⟨q,h⟩
section
variable{c:WC}{s:PM}{m:Qd->Option Value}{as:List Addr}{M:Mem}{l:Loc}
theorem bG(ok:c.OK)(so:pJ c)(a:At c s m as M l)(hi:c.cx.loc x=some i)(r:aF c.G s.heap as v val)(k:∀s1 m1,At c s1 m1 as M (l.set i (some v))->Step c.fr.fs c.xs s.heap as s1.heap as->Q () s1):P2 c.M c.A (storeName c.env x val) Q c.E s:=by
 refine kr (Cx.er hi) λhd hix hk=>?_;have I:=a.inv;have hkf:c.env.scope.kind = .function:=by rw[ok.sc];exact ok.kind
 have inj:∀y j,c.cx.loc y=some j->(j=i↔y=x):=λy j hy=>by
  refine kr (Cx.er hy) λ_ hjx _=>?_;exact⟨λe=>so.idx y x i (e ▸ hjx) hix,λe=>by rw[e,hix] at hjx;obtain rfl:=PG hjx;rfl⟩
 rcases hk with hk |hk
 ·-- a local
  have hn:s.heap.Ns c.env.locals m:=so.locs ▸ I.F.ns;refine U3 (by unfold Rx;rw[ok.sc];exact hk) hn (λh' hn' hs=>?_) (by rw[hkf];rfl);rw[so.locs] at hn' hs;have hLas:c.fr.L∉as:=λq=>(I.mem _ q).2.2 ok.fr.iW;have he:h'.get? c.fr.L≠none:=by refine cY hn' λo _ _ e _=>?_;rw[e];exact λz=>by exact b8 z
  have S:Step c.fr.fs c.xs s.heap as h' as:=Step.write hs so.MY hLas (λits t=>kJ I.F.ns t) he;have same:∀b∈as,h'.get? b=s.heap.get? b:=λb q=>hs.2 b λz=>hLas (z ▸ q);refine k {s with heap:=h',toks:=s.toks+1} (λy=>if y=x then some val else m y) ⟨⟨I.F.set hn' hs,jI (λb hb o e hf=>?_) I.eE,λb q=>?_,I.rep.same S same,I.os,I.gens⟩,⟨by rw[Sb];exact a.loc.len,λy j w hy hw=>?_,λy hy=>?_,S.cB _ a.loc.here⟩,a.st.trans S⟩ S
  ·by_cases q:b=c.fr.L
   ·subst q
    refine nu hn' λo' es ep e' hd' _=>?_;exact⟨o',e',λvs z=>by rw[hd'] at z;cases z⟩
   ·exact⟨o,(hs.2 b q).trans e,hf⟩
  ·obtain⟨⟨o,e⟩,h1⟩:=I.mem b q
   exact⟨⟨o,(same b q).trans e⟩,h1⟩
  ·rcases zt hw with⟨q,rfl⟩ |⟨q,hw⟩
   ·have:=(inj y j hy).mp q
    subst this;exact⟨val,r.step S,.inl ⟨hk,.inl ⟨so.locs,if_pos rfl⟩⟩⟩
   ·have hne:y≠x:=λz=>q ((inj y j hy).mpr z)
    refine aT (a.loc.is y j w hy hw) λval' r' N=>?_;refine⟨val',r'.step S,?_⟩;rcases N with⟨h1,⟨h2,h3⟩ |⟨_,h3,_⟩⟩ |⟨h1,b,hb,h2,h3,hv⟩
    ·exact .inl ⟨h1,.inl ⟨h2,(if_neg hne).trans h3⟩⟩
    ·exact absurd (so.locs ▸ ok.fr.iW) h3
    ·exact .inr ⟨h1,b,hb,h2,h3,hv.sameBut hs λz=>h3 (z ▸ ok.fr.iW)⟩
  ·refine cA (a.loc.cell y hy) λb w h1 h2 h3 h4 hv=>?_
   exact⟨b,w,h1,h2,h3,h4,hv.sameBut hs λz=>h3 (z ▸ ok.fr.iW)⟩
 ·-- a cell
  refine cA (a.loc.cell x hk) λb w0 hb hbas hbfs hbb hv=>?_;refine wpAny_storeName_cell hkf (by unfold Rx;rw[ok.sc];exact hk) hb hv λh' hv' hs=>?_;have he:h'.get? b≠none:=by refine aT hv' λo e _=>?_;rw[e];exact λz=>by exact b8 z
  have S:Step c.fr.fs c.xs s.heap as h' as:=Step.write hs (so.cells x b hk hb) hbas (λits t=>tI hv t) he;have same:∀b∈as,h'.get? b=s.heap.get? b:=λb' q=>hs.2 b' λz=>hbas (z ▸ q);have hL:c.fr.L≠b:=λz=>hbfs (z ▸ ok.fr.iW);refine k {s with heap:=h'} m ⟨⟨⟨I.F.ns.sameBut hs hL,λb' ob e=>(hs.2 b' λq=>by rw[q,hbb] at e;exact bf e).trans (I.F.keep b' ob e),I.F.above⟩,jI (λb' hb' o e hf=>⟨o,(hs.2 b' λz=>hbfs (z ▸ hb')).trans e,hf⟩) I.eE,λb' q=>?_,I.rep.same S same,I.os,I.gens⟩,
   ⟨by rw[Sb];exact a.loc.len,λy j w hy hw=>?_,λy hy=>?_,S.cB _ a.loc.here⟩,a.st.trans S⟩ S
  ·obtain⟨⟨o,e⟩,h1⟩:=I.mem b' q
   exact⟨⟨o,(same b' q).trans e⟩,h1⟩
  ·rcases zt hw with⟨q,rfl⟩ |⟨q,hw⟩
   ·have:=(inj y j hy).mp q
    subst this;exact⟨val,r.step S,.inr ⟨hk,b,hb,hbas,hbfs,hv'⟩⟩
   ·have hne:y≠x:=λz=>q ((inj y j hy).mpr z)
    refine aT (a.loc.is y j w hy hw) λval' r' N=>?_;refine⟨val',r'.step S,?_⟩;rcases N with⟨h1,⟨h2,h3⟩ |⟨_,h3,_⟩⟩ |⟨h1,b',hb',h2,h3,hv2⟩
    ·exact .inl ⟨h1,.inl ⟨h2,h3⟩⟩
    ·exact absurd (so.locs ▸ ok.fr.iW) h3
    ·exact .inr ⟨h1,b',hb',h2,h3,hv2.sameBut hs λz=>hne (so.apart y x b h1 hk (z ▸ hb') hb)⟩
  ·by_cases hne:y=x
   ·subst hne;exact⟨b,_,hb,hbas,hbfs,hbb,hv'⟩
   ·refine cA (a.loc.cell y hy) λb' w h1 h2 h3 h4 hv2=>?_
    exact⟨b',w,h1,h2,h3,h4,hv2.sameBut hs λz=>hne (so.apart y x b hy hk (z ▸ h1) hb)⟩
end
end
section
noncomputable def Ji(lo:Option Int)(n:Nat):Nat:=match lo with |some i=>bA i n |none=>0
noncomputable def LC(hi:Option Int)(n:Nat):Nat:=match hi with |some i=>bA i n |none=>n
theorem zf(p q m y L:Nat)(hpq:p<=q)(h:m+y<=L):min p m - 0+y+(min m m - q)<=L+1:=by
 refine Q0 (PH ?_ h);rw[Nat.min_self,UR];rcases Nat.le_total q m with h1 |h1
 ·exact PH (P7 (P7 (PH (Nat.min_le_left p m) hpq) y) _) (by rw[QU,Vu h1];exact PK _)
 ·rw[Nat.sub_eq_zero_of_le h1];exact P7 (Ts p m) y
theorem H2(hpq:p<=q)(h:m+y<=L):min p m+y+(m - q)<=L+1:=by
 have:=zf p q m y L hpq h;rw[UR,Nat.min_self] at this;exact this
theorem Ar(a b:Int):(max a b).toNat=max a.toNat b.toNat:=by
 by_cases h:a<=b
 ·rw[Tt h,Nat.max_eq_right (VO h)]
 ·have h:=Tu h
  rw[Wy h,Nat.max_eq_left (VO h)]
theorem rN(lo hi:Option Int)(n:Nat):(sliceBounds lo hi none n).1.toNat=Ji lo n/\0<=(sliceBounds lo hi none n).1:=by
 induction lo using Option.casesOn with
 |none=>exact⟨rfl,Int.le_refl 0⟩
 |some i=>exact rd i n
theorem sH(lo hi:Option Int)(n:Nat):(sliceBounds lo hi none n).2.1.toNat=LC hi n/\0<=(sliceBounds lo hi none n).2.1:=by
 induction hi using Option.casesOn with
 |none=>exact⟨rfl,Qe n⟩
 |some i=>exact rd i n
theorem kf(xs:Array Value)(a b:Nat):(xs.extract a b).toList=(xs.toList.take b).drop a:=by
 rw[Array.toList_extract,List.extract_eq_take_drop,WQ]
theorem nL{_:Decidable c}(hc:c)(q:P2 M A a Q E s):P2 M A (if c then a else b) Q E s:=by rw[if_pos hc];exact q
theorem jP{_:Decidable c}(hc:¬ c)(q:P2 M A b Q E s):P2 M A (if c then a else b) Q E s:=by rw[if_neg hc];exact q
theorem Cu(h:a=b)(q:P2 M A b Q E s):P2 M A a Q E s:=h ▸ q
section
variable{prog:Rq}{w:Rf}{A:QP}{E:Value->PM->Prop}{s:PM}
theorem uV{l r sl:Addr}{items ys:Array Value}{vl vu:Value}{lo hi:Option Int}{Q:Unit->PM->Prop}{n0:Nat}(ho:s.heap.get? l=some (listOf items n0))(hr:s.heap.IsList r ys)(hne:l≠r)(hs:s.heap.IsSliceOf sl vl vu .none)(pl:Wi vl lo)(pu:Wi vu hi)(hsz:items.size+ys.size<=R0)(h:∀h' its n,Q7 l s.heap h'->h'.get? l=some (listOf its n)->its.toList=items.toList.take (Ji lo items.size)++ys.toList++
   items.toList.drop (max (Ji lo items.size) (LC hi items.size))->Q () {s with heap:=h'}):
  P2 (model prog w) A (setItem (.ref l) (.ref sl) (.ref r)) Q E s:=by
 have hl:=aU ho;refine qc (id hr) λor_ hor hcr ner hdr=>?_;refine j8 (id hs) λos hos hcs hds=>?_;have hTs:s.TypeIs (.ref sl) "slice":=⟨os,hos,hcs⟩;have hTr:s.TypeIs (.ref r) "list":=⟨or_,hor,hcr⟩;unfold setItem
 try with_reducible refine wpAny_holding ?_
 first |refine wpAny_bind (wpAny_pure ?_) |skip
 refine wpAny_bind (Ue hl.typeIs (by decide) ?_);refine wpAny_bind (S7 (name:=PR "__setitem__") hl.typeIs RT
  (Uw RT hl.typeIs entry_list_setitem ?_ (args_list_setitem _ _ _)))
 show P2 _ _ (RC (.ref sl) >>= _) _ _ s;refine wpAny_bind ?_;unfold RC;refine wpAny_bind (wpAny_specialOf hTs slice_no_index ?_);refine nL rfl (wpAny_pure ?_);show P2 _ _ (UL (.ref sl) >>= _) _ _ s;refine wpAny_bind (wpAny_typeOf hTs (jP (by decide) ?_));refine wpAny_bind (Cu (listSliceParts_eq _) (wpAny_bind (Ua hos hds (x:=.none) rfl (wpAny_bind (Vf (k:=none) .none ?_)))));refine jP (show ¬ ((rawPart none == Wk 0)=true) from VP) ?_;refine wpAny_bind (Ua hos hds (x:=vl) rfl (wpAny_bind (Vf pl ?_)));refine wpAny_bind (Ua hos hds (x:=vu) rfl (wpAny_bind (Vf pu (wpAny_pure ?_))));refine jP (show ¬ ((l == r)=true) from λz=>hne (eq_of_beq z)) ?_;refine wpAny_bind ?_;unfold Builtin.List.listAllItems;refine wpAny_bind (wpAny_typeOf hTr (nL (by decide) ?_));unfold US;refine wpAny_bind (Vg hor hdr (wpAny_pure ?_));refine wpAny_bind (wpAny_bind (Vg ho rfl (wpAny_pure ?_)));refine wpAny_bind (Vc (sliceIndices_raw lo hi none items.size (by simp)) ?_);have e0:(sliceBounds lo hi none items.size).2.2=1:=rfl;refine xA (rN lo hi items.size) λe1 _=>xA (sH lo hi items.size) λe2 _=>?_;revert e0 e1 e2;generalize sliceBounds lo hi none items.size=p;refine Xb p λst p=>Xb p λsp step=>λe0 e1 e2=>?_;replace e0:step=1:=e0;replace e1:st.toNat=_:=e1;replace e2:sp.toNat=_:=e2;subst e0;refine nL (show((1:Int) == 1)=true from rfl) (wpAny_bind (wpAny_rule ?_));refine jP (show ¬ (Ul (items.size+ys.size)=true) from λz=>nF (nA (of_decide_eq_true z) (nA hsz))) ?_;have emax:=Ar st sp
 unfold Builtin.List.listUpdate;refine wpAny_bind (wpAny_updateSeq (hz:=by exact nA hsz) (_hz':=by rw[Ub,Ub,VQ,VQ];exact zf _ _ _ _ _ (by rw[emax];exact QK _ _) hsz) ho rfl ?_);refine wpAny_bind (wpAny_letGo (wpAny_bind (wpAny_pure (wpAny_pure ⟨.none,rfl,wpAny_pure ?_⟩))));refine h _ (items.extract 0 st.toNat++ys++items.extract (max st sp).toNat items.size) _ (TJ ..) (Ro _ ho rfl) ?_;rw[SM,SM,kf,kf,emax,e1,e2,Ss];congr 1;rw[RD (QQ (P9))]
end
end
section
section
variable{prog:Rq}{w:Rf}{A:QP}{E:Value->PM->Prop}{s:PM}
theorem ua(ho:s.heap.get? l=some (listOf items n0))(h0:k < 0)(h1:-(items.size:Int)<=k)(hfit:-(2 ^ 63)<=k)(hQ:Q () {s with heap:=s.heap.update l (VK (·.setIfInBounds (k+items.size).toNat v))}):
  P2 (model prog w) A (setItem (.ref l) (.int k t) v) Q E s:=by
 have hl:=aU ho;unfold setItem
 try with_reducible refine wpAny_holding ?_
 first |refine wpAny_bind (wpAny_pure ?_) |skip
 refine wpAny_bind (Ue hl.typeIs (by decide) ?_);refine wpAny_bind (S7 (name:=PR "__setitem__") hl.typeIs RT
  (Uw RT hl.typeIs entry_list_setitem ?_ (args_list_setitem _ _ _)))
 show P2 _ _ (RC (.int k t) >>= _) _ _ s;refine wpAny_bind (Ux (fitsIndex_neg h0 hfit) ?_);clear hfit;have hidx:=seqIndex_neg h0 h1;have hlt:(k+items.size).toNat < items.size:=by lia
 have hx:items[(k+items.size).toNat]?=some items[(k+items.size).toNat]:=T7 hlt;obtain⟨j,rfl⟩:∃j:Nat,k=Int.negSucc j:=by
  induction k using Int.casesOn with
  |ofNat n=>exact absurd h0 (VJ.mpr (Int.ofNat_nonneg n))
  |negSucc n=>exact⟨n,rfl⟩
 show P2 _ _ ((US (.ref l) >>= λxs=>pure ((seqIndex? (Int.negSucc j) xs.size).bind λi=>xs[i]?.map (i,·))) >>= _) _ _ s
 refine wpAny_bind (wpAny_bind ?_);show P2 _ _ (seqItems? (.ref l) >>= _) _ _ s;refine wpAny_bind (Vg ho rfl (wpAny_pure (wpAny_pure ?_)));rw[hidx];simp only[QM,hx,Qj];refine wpAny_bind (VR ho rfl ?_)
 first
  |exact wpAny_bind (wpAny_pure (wpAny_pure ⟨.none,rfl,wpAny_pure hQ⟩))
  |exact wpAny_pure ⟨.none,rfl,wpAny_pure hQ⟩
theorem sM{l:Addr}{items:Array Value}{n0:Nat}{k:Int}{t:Tok}{v:Value}{Q:Unit->PM->Prop}(ho:s.heap.get? l=some (listOf items n0))(h0:0<=k)(hfit:k < 2 ^ 63)(hn:k < items.size)(hQ:Q () {s with heap:=s.heap.update l (VK (·.setIfInBounds k.toNat v))}):
  P2 (model prog w) A (setItem (.ref l) (.int k t) v) Q E s:=by
 have hl:=aU ho;unfold setItem
 try with_reducible refine wpAny_holding ?_
 first |refine wpAny_bind (wpAny_pure ?_) |skip
 refine wpAny_bind (Ue hl.typeIs (by decide) ?_);refine wpAny_bind (S7 (name:=PR "__setitem__") hl.typeIs RT
  (Uw RT hl.typeIs entry_list_setitem ?_ (args_list_setitem _ _ _)))
 show P2 _ _ (RC (.int k t) >>= _) _ _ s;refine wpAny_bind (Ux (fitsIndex_of h0 hfit) ?_);clear hfit
 (refine xE (Uy h0) λj q1q=>?_;obtain rfl:=q1q)
 have hj:j < items.size:=by lia
 have hx':items[j]?=some items[j]:=T7 hj;show P2 _ _ ((seqItemAt l j >>= λr=>pure (r.map (j,·))) >>= _) _ _ s
 refine wpAny_bind (wpAny_bind (wpAny_seqItemAt ho rfl (wpAny_pure ?_)));rw[hx'];show P2 _ _ (setSeqItemAt l j v >>= _) _ _ s;refine wpAny_bind (VR ho rfl ?_)
 first
  |exact wpAny_bind (wpAny_pure (wpAny_pure ⟨.none,rfl,wpAny_pure hQ⟩))
  |exact wpAny_pure ⟨.none,rfl,wpAny_pure hQ⟩
end
inductive Kb (G:GX) (h:Qk) (as:List Addr):Fl->Xg->Prop
 |next:Kb G h as .next .next
 |brk:Kb G h as .brk .brk
 |cont:Kb G h as .cont .cont
 |ret {v:V} {x:Value}:aF G h as v x->Kb G h as (.ret v) (.ret x)
def aW(G:GX)(cx:Cx)(run:Vs->Xa Xg)(d:MS):Prop:=
 ∀c:WC,c.G=G->c.cx=cx->c.OK->pJ c->∀s m as M l Qm Qr,At c s m as M l->d c.call l M Qm c.X->
  (∀f r s1 m1 as1 M1 l1,At c s1 m1 as1 M1 l1->Kb c.G s1.heap as1 f r->Qm f l1 M1->Qr r s1)->
  P2 c.M c.A (run c.env) Qr c.E s
end
section
section
variable{G:GX}{cx:Cx}
theorem aW.bad{run:Vs->Xa Xg}:aW G cx run cQ:=λ_ _ _ _ _ _ _ _ _ _ _ _ _ h _=>h.elim
theorem aW.pass:aW G cx (exec (.Pass pos)) iP:=by
 intro c hG hcx ok so s m as M l Qm Qr a d k;exact wpAny_Pass (k _ _ _ _ _ _ _ a .next d)
theorem e8(h:gQ e=false)(line:Nat)(t:Option Expr)(env:Vs):Wl e t line env=pure false:=by
 induction e using PW<;>first |rfl |exact no h.symm
theorem gO(h:∀x p,t≠.Name x p)(line:Nat)(env:Vs):Wl e (some t) line env=pure false:=by
 induction e using PW<;>first |rfl |(induction t using PW<;>first |rfl |exact absurd rfl (h _ _))
theorem CA{c:WC}(ok:c.OK):interactive c.env=false:=by
 unfold interactive;rw[ok.sc,ok.kind];rfl
theorem aW.expr(hc:gQ e=false)(he:ar G cx e d):aW G cx (exec (.Expr e pos)) (bj d):=by
 intro c hG hcx ok so s m as M l Qm Qr a dd k;exact wpAny_Expr_any (he c hG hcx ok s m as M l _ _ a dd λv s1 M1 as1 x a1 S1 r1 q=>k _ _ _ _ _ _ _ a1 .next q) (CA ok) (e8 hc _ _ _)
theorem aW.l9:aW G cx (exec (.Return none pos)) (aL (aa .none)):=by
 intro c hG hcx ok so s m as M l Qm Qr a dd k;exact wpAny_Return_none (k _ _ _ _ _ _ _ a (.ret .none) dd)
theorem aW.ret(he:ar G cx e d):aW G cx (exec (.Return (some e) pos)) (aL d):=by
 intro c hG hcx ok so s m as M l Qm Qr a dd k;exact V4 (he c hG hcx ok s m as M l _ _ a dd λv s1 M1 as1 x a1 S1 r1 q=>k _ _ _ _ _ _ _ a1 (.ret r1) q)
theorem aW.set(hc:gQ e=false)(hi:cx.loc x=some i)(he:ar G cx e d):aW G cx (exec (.Assign [.Name x np] e pos)) (aV i d):=by
 intro c hG hcx ok so s m as M l Qm Qr a dd k;subst hG hcx;exact Th (he c rfl rfl ok s m as M l _ _ a dd λv s1 M1 as1 x a1 S1 r1 q=>bG ok so a1 hi r1 λs2 m2 a2 _=>k _ _ _ _ _ _ _ a2 .next q) (e8 hc _ _ _)
theorem aW.setAttr(ho:ar G cx o do_)(he:ar G cx e de):aW G cx (exec (.Assign [.Attribute o (jg f) apos] e pos)) (fu f do_ de):=by
 intro c hG hcx ok so s m as M l Qm Qr a dd k;subst hG hcx;refine RY (he c rfl rfl ok s m as M l _ _ a dd λv s1 M1 as1 x a1 S1 r1 d1=>ho c rfl rfl ok s1 m as1 M1 l _ _ a1 d1 λvo s2 M2 as2 xo a2 S2 r2 d2=>?_) (gO (λ_ _ h=>by cases h) _ _)
 replace r1:=r1.step S2
 (refine aT (j2 d2) λr q1q d2=>?_;obtain rfl:=q1q)
 obtain⟨⟨p,q,t⟩,e,d2⟩:=bg (d2 trivial)
 (refine xA r2.lX λq0q hm=>?_;obtain rfl:=q0q)
 refine xE a2.inv.rep λD R=>?_;have hM:M2 r=some (.av p q t):=(a2.av e).2.1;refine nY (R.mem _ _ hM) λ_ hdx e1 n t1 t2 t3 xp xf xs e2 rp rf rs=>?_;refine q7 ok.g.Lf λg1 g2 g3 g4=>?_;have hl:(getL (jg f) (ei c.G.w.params t1 t2 t3 xp xf xs)).isSome=true:=by rw[ml];rfl
 refine mi (gp ok a2) e1 e2 g1 g2 (g4 _ (lC f)) g3 hl (by show 3<=999;decide) λh' hs hD=>?_;induction f using vz.casesOn with
 |plain=>exact k _ _ _ _ _ _ _ (a2.nJ ok R hM hs _ t1 t2 t3 v xf xs hD r1 rf rs (s2.toks+2)).1 .next d2
 |first=>exact k _ _ _ _ _ _ _ (a2.nJ ok R hM hs _ t1 t2 t3 xp v xs hD rp r1 rs (s2.toks+2)).1 .next d2
 |second=>exact k _ _ _ _ _ _ _ (a2.nJ ok R hM hs _ t1 t2 t3 xp xf v hD rp rf r1 (s2.toks+2)).1 .next d2
section
variable{c:WC}(ok:c.OK){s:PM}{m:Qd->Option Value}{as:List Addr}{M:Mem}{l:Loc}(a:At c s m as M l){r:Nat}{kk:Int}{xo v:Value}{t:Tok}{Qm:Fl->Loc->Mem->Prop}{Qr:Unit->PM->Prop}
include ok a
theorem EW(r2:aF c.G s.heap as (.lst r) xo)(r1:aF c.G s.heap as y v)(h:N7 r kk y l M Qm)(k:∀s1 M1,At c s1 m as M1 l->Qm .next l M1->Qr () s1):P2 c.M c.A (setItem xo (.int kk t) v) Qr c.E s:=by
 refine b6 (a.lst h) λxs its n h e3 g rr z hl=>?_;refine aT (bg h) λj hj h=>?_
 (refine xA r2.lst_inv λq0q _=>?_;obtain rfl:=q0q)
 have hc:=zm z;refine xA (idx?_some hj) λh1 h2=>?_;rw[hl] at h1 h2;refine xA (a.rR ok e3 g (f:=λy=>y.setIfInBounds j v) (vs':=xs.set j y) (by rw[Array.size_setIfInBounds];exact z) (by rw[Array.toList_setIfInBounds];exact rr.set j r1)) λa4 S4=>?_;rcases h2 with⟨h0,rfl⟩ |⟨h0,h3,rfl⟩
 ·exact sM g h0 (by omega) (by omega) (k _ _ a4 h)
 ·exact ua g h0 h3 (by omega) (k _ _ a4 h)
theorem FV(r2:aF c.G s.heap as (.hJ r) xo)(r1:aF c.G s.heap as (.int y) v)(h:NC r kk y l M Qm)(k:∀s1 M1,At c s1 m as M1 l->Qm .next l M1->Qr () s1):P2 c.M c.A (setItem xo (.int kk t) v) Qr c.E s:=by
 refine j8 (bg h) λes e3 hc h=>?_
 (refine xA r2.rF λq0q _=>?_;obtain rfl:=q0q)
 (refine xE r1.int_inv λu q1q=>?_;obtain rfl:=q1q)
 refine jQ (a.dict e3) λhin hM f n hm hz hn hf=>?_;refine wpAny_setItem_intMap_le hm hz (PH hn (kp hc)) λh' hm' hz' hs=>?_;have he':h'.get? r≠none:=by refine cY hm' λo _ _ e _=>?_;rw[e];exact λz=>by exact b8 z
 obtain⟨a4,S4⟩:=a.upd ok hM trivial trivial hs he' (o':=.dict (dictPut es kk y)) ⟨_,_,hm',hz',Qs hn,λk'=>by
  show match ((kk,y)::es).lookup k' with |some v=>_ |none=>_
  rw[QN];by_cases hk:k'=kk
  ·subst hk;rw[beq_self_eq_true];exact⟨u,if_pos rfl⟩
  ·rw[beq_eq_false_iff_ne.mpr hk,if_neg hk];exact hf k'⟩
 exact k _ _ (a4.toks _) h
end
theorem aW.setItem(ho:ar G cx o do_)(hi:ar G cx i di)(he:ar G cx e de):aW G cx (exec (.Assign [.Subscript o i spos] e pos)) (ew do_ di de):=by
 intro c hG hcx ok so s m as M l Qm Qr a dd k;subst hG hcx;refine UT (he c rfl rfl ok s m as M l _ _ a dd λv s1 M1 as1 x a1 S1 r1 d1=>ho c rfl rfl ok s1 m as1 M1 l _ _ a1 d1 λvo s2 M2 as2 xo a2 S2 r2 d2=>hi c rfl rfl ok s2 m as2 M2 l _ _ a2 d2 λvi s3 M3 as3 xi a3 S3 r3 d3=>?_) (gO (λ_ _ h=>by cases h) _ _)
 replace r1:=(r1.step S2).step S3;replace r2:=r2.step S3;induction xo using V.casesOn
 case lst r=>
  (refine aT (bE d3) λkk q1q d3=>?_;obtain rfl:=q1q)
  (refine xE r3.int_inv λt q1q=>?_;obtain rfl:=q1q)
  exact EW ok a3 r2 r1 (d3 trivial) λs1 M1 a q=>k _ _ _ _ _ _ _ a .next q
 case hJ r=>
  (refine aT (bE d3) λkk q1q d5=>?_;obtain rfl:=q1q)
  (refine aT (bE d5) λy q1q d6=>?_;obtain rfl:=q1q)
  (refine xE r3.int_inv λt q1q=>?_;obtain rfl:=q1q)
  exact FV ok a3 r2 r1 (d6 trivial) λs1 M1 a q=>k _ _ _ _ _ _ _ a .next q
 all_goals exact d3.elim
theorem aW.BQ{o e:Expr}{lo hi:Option Expr}{slpos spos pos:Pos}{do_ de:ME}{dlo dhi:Option ME}(ho:ar G cx o do_)(hlo:lS G cx lo dlo)(hhi:lS G cx hi dhi)(he:ar G cx e de):
  aW G cx (exec (.Assign [.Subscript o (.Slice lo hi none slpos) spos] e pos)) (aZ do_ dlo dhi de):=by
 intro c hG hcx ok so s m as M l Qm Qr a dd k;subst hG hcx;refine UT (he c rfl rfl ok s m as M l _ _ a dd λv s1 M1 as1 x a1 S1 r1 d1=>ho c rfl rfl ok s1 m as1 M1 l _ _ a1 d1 λvo s2 M2 as2 xo a2 S2 r2 d2=>U9 (hlo c rfl rfl ok s2 m as2 M2 l _ _ a2 d2 λvlo s3 M3 as3 ilo a3 S3 plo d3=>hhi c rfl rfl ok s3 m as3 M3 l _ _ a3 d3 λvhi s4 M4 as4 ihi a4 S4 phi d4=>?_)) (gO (λ_ _ h=>by cases h) _ _)
 rw[Vz];refine wpAny_pure ?_;replace r1:=((r1.step S2).step S3).step S4;replace r2:=(r2.step S3).step S4;refine xA (a4.push {cls:=.type "slice",data:=.fields #[vlo,vhi,.none]}) λa5 S5=>?_
 (refine aT (cp d4) λr q1q d5=>?_;obtain rfl:=q1q)
 (refine aT (cp d5) λr' q1q d6=>?_;obtain rfl:=q1q)
 refine b6 (a5.lst (d6 trivial)) λxs its n d7 e1 g rr z hl=>?_;refine b6 (a5.lst d7) λys its2 n2 d8 e2 g2 pe z2 hl2=>?_;refine kr d8 λhne hc d9=>?_
 (refine xA r2.lst_inv λq0q _=>?_;obtain rfl:=q0q)
 (refine xA r1.lst_inv λq0q _=>?_;obtain rfl:=q0q)
 rw[hl,hl2] at hc;refine uV g (aU g2) hne (R8 ..) plo phi (by have hsl:R0=16777216:=rfl;unfold bh at hc;exact nA hc (nR hsl)) λh' its' n' hs e' hx=>?_;have hlen:its'.size<=bh+1:=by
  rw[<- P9,hx,PS,PS,Tv,RH,P9,P9];exact H2 (QK _ _) hc
 obtain⟨a6,S6⟩:=a5.n9 ok e1 (vs':=cu xs ys ilo ihi) hs e' hlen (by
  rw[hx];unfold cu;rw[hl];exact((rr.take _).append pe).append (rr.drop _))
 exact k _ _ _ _ _ _ _ a6 .next d9
theorem aW.aug(hop:lu op=some o)(hi:cx.loc x=some i)(he:ar G cx e d):aW G cx (exec (.AugAssign (.Name x np) op e pos)) (uT o i d):=by
 intro c hG hcx ok so s m as M l Qm Qr a dd k;subst hG hcx;refine wpAny_AugAssign_Name ?_;unfold uT ab at dd;split at dd
 ·rename_i v hv
  refine aT (a.loc.is x i v hi hv) λval r N=>?_;refine ip ok a N (he c rfl rfl ok s m as M l _ _ a dd λv2 s1 M1 as1 x2 a1 S1 r1 d1=>?_);replace r:=r.step S1;induction op using UK<;>first |exact nX hop |cases hop
  case h_1.Add.refl=>
   (refine aT (bE d1) λi q1q d2=>?_;obtain rfl:=q1q)
   (refine aT (bE d2) λj q1q d3=>?_;obtain rfl:=q1q)
   (refine xE r.int_inv λt q1q=>?_;obtain rfl:=q1q)
   (refine xE r1.int_inv λu q1q=>?_;obtain rfl:=q1q)
   exact AutoIntOps.iadd_0 (bG ok so a1.tok hi (.int _ _) λs2 m2 a2 _=>k _ _ _ _ _ _ _ a2 .next d3)
  case h_1.Sub.refl=>
   (refine aT (bE d1) λi q1q d2=>?_;obtain rfl:=q1q)
   (refine aT (bE d2) λj q1q d3=>?_;obtain rfl:=q1q)
   (refine xE r.int_inv λt q1q=>?_;obtain rfl:=q1q)
   (refine xE r1.int_inv λu q1q=>?_;obtain rfl:=q1q)
   exact AutoIntOps.isub_0 (bG ok so a1.tok hi (.int _ _) λs2 m2 a2 _=>k _ _ _ _ _ _ _ a2 .next d3)
  all_goals exact d1.elim
 ·exact dd.elim
theorem aW.ite{b2:List Sp}(ht:cC G cx t dt)(h1:aW G cx (execs b1) d1)(h2:aW G cx (execs b2) d2):aW G cx (exec (.If t b1 b2 pos)) (bl dt d1 d2):=by
 intro c hG hcx ok so s m as M l Qm Qr a dd k;refine wpAny_If (ht c hG hcx ok s m as M l _ _ a dd λb s1 M1 as1 a1 S1 q=>?_);induction b using PU with
 |true=>exact h1 c hG hcx ok so s1 m as1 M1 l _ _ a1 q k
 |false=>exact h2 c hG hcx ok so s1 m as1 M1 l _ _ a1 q k
theorem aW.nil:aW G cx (execs []) iP:=by
 intro c hG hcx ok so s m as M l Qm Qr a d k;exact RQ (k _ _ _ _ _ _ _ a .next d)
theorem aW.cons{st:Sp}{r:List Sp}(h1:aW G cx (exec st) d1)(h2:aW G cx (execs r) d2):aW G cx (execs (st::r)) (LQ d1 d2):=by
 intro c hG hcx ok so s m as M l Qm Qr a d k;refine RM (h1 c hG hcx ok so s m as M l _ _ a d λf r1 s1 m1 as1 M1 l1 a1 fr q=>?_);cases fr with
 |next=>exact h2 c hG hcx ok so s1 m1 as1 M1 l1 _ _ a1 q k
 |brk=>exact k _ _ _ _ _ _ _ a1 .brk q
 |cont=>exact k _ _ _ _ _ _ _ a1 .cont q
 |ret rv=>exact k _ _ _ _ _ _ _ a1 (.ret rv) q
theorem aW.all{f:Sp->MS}:∀{b:List Sp},(∀st∈b,aW G cx (exec st) (f st))->aW G cx (execs b) (ae (b.map f))
 |[],_=>.nil
 |st::r,h=>.cons (h st (.head _)) (aW.all λst' q=>h st' (.tail _ q))
end
end
section
section
variable{G:GX}{cx:Cx}
theorem iI(h:f6 e=some x):∃p,e = .Name x p:=by
 induction e using PW<;>first |exact bf h |exact⟨_,congrArg (Expr.Name · _) (PG h)⟩
theorem zA:∀{ts:List Expr}{is:List Nat}(env:Vs),idxs cx ts=some is->(UU ts env).length=ts.length/\(UU ts env).findIdx? (·.1)=none/\is.length=ts.length:=by
 intro ts;induction ts with
 |nil=>
  intro is env h;obtain rfl:=PG h;exact⟨rfl,rfl,rfl⟩
 |cons t r ih=>
  intro is env h;refine aT (Qh.mp h) λx hx h2=>?_;clear h;obtain⟨p,rfl⟩:=iI hx;refine aT (Qh.mp h2) λi hi h=>?_
  (refine aT (Qa.mp h) λis' hr q2q=>?_;obtain rfl:=q2q)
  refine kr (ih env hr) λa b c=>?_;refine⟨congrArg (· + 1) a,?_,congrArg (· + 1) c⟩
  show List.findIdx? (·.1) ((false,assign (.Name x p) env)::UU r env)=none
  rw[List.findIdx?_cons,b];rfl
theorem wG(ok:c.OK)(so:pJ c):∀{ts:List Expr}{is:List Nat},idxs c.cx ts=some is->∀(s:PM)(m:Qd->Option Value)(as:List Addr)(M:Mem)(l l':Loc)(vs:List V)(xs:List Value)(Q:Unit->PM->Prop),At c s m as M l->
  aE c.G s.heap as vs xs->jy l is vs=some l'->(∀s1 m1,At c s1 m1 as M l'->Q () s1)->P2 c.M c.A (Sg ((UU ts c.env).map (·.2)) xs) Q c.E s:=by
 intro ts;induction ts with
 |nil=>
  intro is h;intro s m as M l l' vs xs Q a r hs k;obtain rfl:=PG h;induction vs using PI with
  |nil=>obtain rfl:=PG hs;exact Ti (k _ _ a)
  |cons v vs=>exact bf hs
 |cons t r ih=>
  intro is h;intro s m as M l l' vs xs Q a rr hs k;refine aT (Qh.mp h) λx hx h2=>?_;clear h;obtain⟨p,rfl⟩:=iI hx;refine aT (Qh.mp h2) λi hi h=>?_
  (refine aT (Qa.mp h) λis' hr q2q=>?_;obtain rfl:=q2q)
  cases rr with
  |nil=>exact bf hs
  |cons r1 r2=>
   refine Rd (assign_Name (bG ok so a hi r1 λs1 m1 a1 S1=>?_));exact ih hr _ _ _ _ _ _ _ _ _ a1 (r2.step S1) hs k
theorem A6:∀{ts:List Expr}{is:List Nat},idxs cx ts=some is->∀{names:List Qd},names=ts.filterMap f6->names.length=is.length/\∀(j:Nat)(x:Qd)(i:Nat),names[j]?=some x->is[j]?=some i->cx.loc x=some i:=by
 intro ts;induction ts with
 |nil=>
  intro is h names hn;obtain rfl:=PG h;subst hn;exact⟨rfl,λj x i e=>by exact bf e⟩
 |cons t r ih=>
  intro is h names hn;refine aT (Qh.mp h) λx hx h2=>?_;clear h;obtain⟨p,rfl⟩:=iI hx;refine aT (Qh.mp h2) λi hi h=>?_
  (refine aT (Qa.mp h) λis' hr q2q=>?_;obtain rfl:=q2q)
  subst hn;refine xA (ih hr rfl) λa b=>?_;refine⟨congrArg (· + 1) a,λj y k e1 e2=>?_⟩
  induction j using P0 with
  |zero=>obtain rfl:=PG e1;obtain rfl:=PG e2;exact hi
  |succ j=>exact b j y k e1 e2
theorem xx(p:Option (List Qd)->β)(hb:b=false)(h:(if c1=true then some none else if c2=true then some none else if c3=true then some none else if c4=true then some none else if c5=true then none else if c6=true then some (some names) else none)=some r):
  (if(c1 || b)=true then p none else if c2=true then p none else if c3=true then p none else if c4=true then p none else if c5=true then U else p (some names))=p r/\∀n,r=some n->n=names/\c1=false/\c3=false/\c6=true:=by
 subst hb;have z {q:List Qd->Prop} (h:some none=some r):p none=p r/\∀n,r=some n->q n:=by obtain rfl:=PG h;exact⟨rfl,λn e=>bf e⟩
 induction c1 using PU
 ·induction c2 using PU
  ·induction c3 using PU
   ·induction c4 using PU
    ·induction c5 using PU
     ·induction c6 using PU
      ·exact bf h
      ·obtain rfl:=PG h;exact⟨rfl,λn e=>⟨(PG e).symm,rfl,rfl,rfl⟩⟩
     ·exact bf h
    ·exact z h
   ·exact z h
  ·exact z h
 ·exact z h
theorem CN(h:(l != k || d != l)=false)(h1:(!(k == 2 || k == 3) || n != k)=false):d=l/\(l=2\/l=3):=by
 simp only[Su,VS,bne_eq_false_iff_eq,TH,beq_iff_eq] at h h1;rw[h.1];exact⟨h.2.trans h.1,h1.1⟩
theorem vr{n2:Nat}(hk:env.scope.kind = .function)(h:D7 env.scope ts vs=some r):
  swappedStores [.Tuple ts n p] (.Tuple vs n2 p2) env=pure r/\(∀names,r=some names->names=ts.filterMap f6/\names.eraseDups.length=names.length/\(names.length=2\/names.length=3)):=by
 refine And.imp_right (λk names e=>?_) (xx pure (show(env.blockKind != .function)=false by unfold Env.blockKind;rw[hk];rfl) (id h));refine q7 (k names e) λe1 e2 e3 e4=>?_;exact⟨e1.trans (beq_iff_eq.mp e4),e1 ▸ CN e3 e2⟩
theorem wC(h:jj cx ts v=some r)(hs:env.scope=cx.sc)(hk:cx.sc.kind = .function):
  swappedStores [.Tuple ts n p] v env=pure r/\(∀names,r=some names->names=ts.filterMap f6/\names.eraseDups.length=names.length/\(names.length=2\/names.length=3)):=by
 have z (h:some none=some r):(pure none:Xa (Option (List Qd)))=pure r/\∀names,r=some names->names=ts.filterMap f6/\names.eraseDups.length=names.length/\(names.length=2\/names.length=3):=by
  obtain rfl:=PG h;exact⟨rfl,λn e=>bf e⟩
 revert h;rw[<- hs] at hk;unfold jj;rw[<- hs];induction v using PW<;>first |exact z |exact vr hk
theorem Ll{x y:Qd}(h:[x,y].eraseDups.length=[x,y].length):x≠y:=by
 intro e;subst e;have:[x,x].eraseDups=[x]:=by simp[WT,Wm,U4]
 rw[this] at h;cases h
theorem Lo{x y z:Qd}(h:[x,y,z].eraseDups.length=[x,y,z].length):x≠y/\x≠z/\y≠z:=by
 refine⟨?_,?_,?_⟩<;>intro e<;>subst e<;>revert h<;>simp[WT,Wm,U4]<;>split<;>simp
theorem jx:∀{is:List Nat}{vs:List V}{l l':Loc},jy l is vs=some l'->vs.length=is.length
 |[],[],_,_,_=>rfl
 |[],_::_,_,_,h=>by exact bf h
 |_::_,[],_,_,h=>by exact bf h
 |i::is,v::vs,l,l',h=>congrArg (· + 1) (jx (is:=is) (vs:=vs) h)
theorem rM(so:pJ c)(hx:c.cx.loc x=some i)(hy:c.cx.loc y=some j)(h:x≠y):i≠j:=λe=>by
 subst e;exact h (so.idx x y i (Cx.er hx).2.1 (Cx.er hy).2.1)
theorem JV(h:l.length=n+1):∃a r,l=a::r/\r.length=n:=by
 induction l using PI with
 |nil=>exact absurd h nofun
 |cons a r=>exact⟨a,r,rfl,Nat.succ.inj h⟩
theorem Gk(h:l.length=2):∃a b,l=[a,b]:=
 let ⟨a,_,e,h⟩:=JV h;let ⟨b,_,e2,h⟩:=JV h
 ⟨a,b,by rw[e,e2,QI h]⟩
theorem Bb(h:l.length=3):∃a b c,l=[a,b,c]:=
 let ⟨a,_,e,h⟩:=JV h;let ⟨b,c,e2⟩:=Gk h
 ⟨a,b,c,by rw[e,e2]⟩
section
variable{c:WC}(ok:c.OK)(so:pJ c){s:PM}{m:Qd->Option Value}{as:List Addr}{M:Mem}{l l':Loc}{Q:Unit->PM->Prop}
include ok so
theorem KR(a:At c s m as M l)(rr:aE c.G s.heap as [v,w] xs)(hx:c.cx.loc x=some i)(hy:c.cx.loc y=some j)(hne:x≠y)(hl:jy l [i,j] [v,w]=some l')(k:∀s1 m1,At c s1 m1 as M l'->Q () s1):P2 c.M c.A (Sg ([x,y].reverse.map λn=>Uz c.env n) xs.reverse) Q c.E s:=by
 obtain⟨x1,xs1,rfl,r1,rr⟩:=rr.cons_inv;obtain⟨x2,xs2,rfl,r2,rr⟩:=rr.cons_inv;obtain rfl:=rr.nil_inv;have hij:=rM so hx hy hne;have e:(l.set j (some w)).set i (some v)=l':=by rw[Un _ _ (Qu hij)];exact PG hl
 show P2 c.M c.A (Sg [Uz c.env y,Uz c.env x] [x2,x1]) Q c.E s;refine Rd (Vp (bG ok so a hy r2 λs3 m3 a3 S3=>?_));refine Rd (Vp (bG ok so a3 hx (r1.step S3) λs4 m4 a4 S4=>?_));exact Ti (k _ _ (e ▸ a4))
theorem L8(a:At c s m as M l)(rr:aE c.G s.heap as [v,w,u] xs)(hx:c.cx.loc x=some i)(hy:c.cx.loc y=some j)(hz:c.cx.loc z=some p)(hne:x≠y/\x≠z/\y≠z)(hl:jy l [i,j,p] [v,w,u]=some l')(k:∀s1 m1,At c s1 m1 as M l'->Q () s1):P2 c.M c.A (Sg ([x,y,z].reverse.map λn=>Uz c.env n) xs.reverse) Q c.E s:=by
 obtain⟨x1,xs1,rfl,r1,rr⟩:=rr.cons_inv;obtain⟨x2,xs2,rfl,r2,rr⟩:=rr.cons_inv;obtain⟨x3,xs3,rfl,r3,rr⟩:=rr.cons_inv;obtain rfl:=rr.nil_inv;have hij:=rM so hx hy hne.1;have hip:=rM so hx hz hne.2.1;have hjp:=rM so hy hz hne.2.2;have e:((l.set p (some u)).set j (some w)).set i (some v)=l':=by
  rw[Un (some w) (some v) (Qu hij),Un (some u) (some v) (Qu hip),Un (some u) (some w) (Qu hjp)];exact PG hl
 show P2 c.M c.A (Sg [Uz c.env z,Uz c.env y,Uz c.env x] [x3,x2,x1]) Q c.E s;refine Rd (Vp (bG ok so a hz r3 λs3 m3 a3 S3=>?_));refine Rd (Vp (bG ok so a3 hy (r2.step S3) λs4 m4 a4 S4=>?_));refine Rd (Vp (bG ok so a4 hx ((r1.step S3).step S4) λs5 m5 a5 S5=>?_));exact Ti (k _ _ (e ▸ a5))
end
theorem aW.Jf(hi:idxs cx ts=some is)(hw:jj cx ts e=some r)(he:ar G cx e d):
  aW G cx (exec (.Assign [.Tuple ts n tp] e pos)) (bu is d):=by
 intro c hG hcx ok so s m as M l Qm Qr a dd k;subst hG hcx;refine xA (wC (n:=n) (p:=tp) hw ok.sc ok.kind) λhsw hprop=>?_;have hs:swapsWithSole [.Tuple ts n tp] e pos.line c.env=pure false:=by
  show Wl e (some (.Tuple ts n tp)) pos.line c.env=pure false;exact gO (t:=.Tuple ts n tp) (λ_ _ h=>by cases h) _ _
 refine kr (zA c.env hi) λhlen hstar hil=>?_;induction r using Option.casesOn with
 |none=>
  refine Assign_Tuple (he c rfl rfl ok s m as M l _ _ a dd λv s1 M1 as1 x a1 S1 r1 d1=>?_) hs hsw
  (refine aT (nx d1) λvs q1q d2=>?_;obtain rfl:=q1q)
  refine aT (bg (d2 trivial)) λl' hl d3=>?_
  (refine cA r1.eg λits t q2q ht hn z rr=>?_;obtain rfl:=q2q)
  have hz:=jx hl;refine VT ok.a.handled ht (by rw[hlen,Qo,<- rr.length,hz,hil]) hstar λh' hx=>?_;refine xA (a1.grown (h':=h') (λb o e=>hx b o (Te (Qw e)) e) s1.toks) λa2 S2=>?_;exact wG ok so hi _ _ _ _ _ _ _ _ _ a2 (rr.step S2) hl λs3 m3 a3=>k _ _ _ _ _ _ _ a3 .next d3
 |some names=>
  refine kr (hprop names rfl) λhnm hdup h23=>?_;refine xA (A6 hi hnm) λhnl hloc=>?_;refine Assign_Tuple_swapped (names:=names) (he c rfl rfl ok s m as M l _ _ a dd λv s1 M1 as1 x a1 S1 r1 d1=>?_) hs hsw
  (refine aT (nx d1) λvs q1q d2=>?_;obtain rfl:=q1q)
  refine aT (bg (d2 trivial)) λl' hl d3=>?_
  (refine cA r1.eg λits t q2q ht hn z rr=>?_;obtain rfl:=q2q)
  have hz:=jx hl;have hsz:names.length=its.toArray.size:=by rw[Qo,<- rr.length,hz,hnl]
  rw[hsz];refine unpackItems_tuple ok.a.handled ht λh' hx=>?_;refine xA (a1.grown (h':=h') (λb o e=>hx b o (Te (Qw e)) e) s1.toks) λa2 S2=>?_;have pe:=rr.step S2;rw[Ry];rcases h23 with h2 |h3
  ·(refine vY (Gk h2) λx y q2q=>?_;obtain rfl:=q2q)
   (refine vY (Gk (hnl.symm.trans h2)) λi j q2q=>?_;obtain rfl:=q2q)
   (refine vY (Gk (hz.trans (hnl.symm.trans h2))) λv w q2q=>?_;obtain rfl:=q2q)
   exact KR ok so a2 pe (hloc 0 x i rfl rfl) (hloc 1 y j rfl rfl) (Ll hdup) hl λs3 m3 a3=>k _ _ _ _ _ _ _ a3 .next d3
  ·(refine og (Bb h3) λx y z' q3q=>?_;obtain rfl:=q3q)
   (refine og (Bb (hnl.symm.trans h3)) λi j p q3q=>?_;obtain rfl:=q3q)
   (refine og (Bb (hz.trans (hnl.symm.trans h3))) λv w u q3q=>?_;obtain rfl:=q3q)
   exact L8 ok so a2 pe (hloc 0 x i rfl rfl) (hloc 1 y j rfl rfl) (hloc 2 z' p rfl rfl) (Lo hdup) hl λs3 m3 a3=>k _ _ _ _ _ _ _ a3 .next d3
end
end
section
noncomputable def WC.lg(c:WC):WC:={c with X:=λ_=>False}
theorem WC.OK.lg{c:WC}(ok:c.OK):c.lg.OK:=⟨ok.g,ok.call,ok.fr,ok.a,ok.sc,ok.kind,ok.globals,ok.builtins,ok.frame,ok.glob,ok.BC⟩
theorem pJ.lg(so:pJ c):pJ c.lg:=⟨so.env,so.locs,so.MY,so.cells,so.apart,so.idx,so.lt⟩
section
variable{c:WC}{s:PM}{m:Qd->Option Value}{as:List Addr}{M:Mem}{l:Loc}
theorem At.lg(a:At c s m as M l):At c.lg s m as M l:=⟨a.inv,⟨a.loc.len,a.loc.is,a.loc.cell,a.loc.here⟩,a.st⟩
theorem At.lF(a:At c.lg s m as M l):At c s m as M l:=⟨a.inv,⟨a.loc.len,a.loc.is,a.loc.cell,a.loc.here⟩,a.st⟩
theorem f5(h:P2 c.M A t Q c.lg.E s):P2 c.M A t Q E s:=
 wpAny_mono h (λ_ _ x=>x) λ_ _ e=>by refine gr e λ_ _ _ _ _ _ _ hX _=>?_;exact hX.elim
end
section
variable{G:GX}{cx:Cx}
theorem aW.Ib(ht:cC G cx t dt)(hb:aW G cx (execs b) db):aW G cx (exec (.While t b [] pos)) (fq dt db):=by
 intro c hG hcx ok so s m as M l Qm Qr a dd k;refine xE dd λn dd=>?_;refine wpAny_While (codeAny_whileLoop (λn s=>∃m as M l,At c s m as M l/\fj c.call dt db n l M Qm) (λn s I=>?_) n ⟨m,as,M,l,a,dd⟩);refine IS I λm as M l a dd=>?_;induction n using P0 with
 |zero=>exact dd.elim
 |succ n=>
  refine f5 (c:=c) (ht c.lg hG hcx ok.lg s m as M l _ _ a.lg dd λr s1 M1 as1 a1 S1 d1=>?_);induction r using PU with
  |true=>
   rw[if_pos rfl] at d1 |-;refine f5 (c:=c) (hb c.lg hG hcx ok.lg so.lg s1 m as1 M1 l _ _ a1 d1 λf r s2 m2 as2 M2 l2 a2 fr d2=>?_);cases fr with
   |next=>exact⟨n,Qf n,m2,as2,M2,l2,a2.lF,d2⟩
   |cont=>exact⟨n,Qf n,m2,as2,M2,l2,a2.lF,d2⟩
   |brk=>exact k _ _ _ _ _ _ _ a2.lF .next d2
   |ret r=>exact k _ _ _ _ _ _ _ a2.lF (.ret r) d2
  |false=>
   rw[if_neg (by decide)] at d1 |-;exact RQ (k _ _ _ _ _ _ _ a1.lF .next d1)
end
end
section
structure Own (c:WC) (h:Qk) (as:List Addr) (b:Addr):Prop where
 as:b∉as
 fs:b∉c.fr.fs
 xs:b∉c.xs
 base:c.G.base.get? b=none
 h0:c.h0.get? b=none
 loc:b≠c.env.locals
 cells:∀x a,c.cx.sc.names.lookup x=some .cell->c.env.cells.lookup x=some a->a≠b
 nt:∀its,¬ Q3 h b its
 here:h.get? b≠none
section
variable{c:WC}{s:PM}{m:Qd->Option Value}{as:List Addr}{M:Mem}{l:Loc}
theorem Step.off{fs xs own:List Addr}{h0 h h':Qk}{eQ as:List Addr}(S:Step fs xs h0 eQ h as)(ho:∀b∈own,h0.get? b=none)(hk:∀a o,a∉own->h.get? a=some o->h'.get? a=some o):Step fs xs h0 eQ h' as where
 keep a o e n1 n2 n3:=hk a o (λq=>by rw[ho a q] at e;exact bf e) (S.keep a o e n1 n2 n3)
 cK a o e n1 n2:=by
  refine xE (S.cK a o e n1 n2) λsl e'=>?_;exact⟨sl,hk a _ (λq=>by rw[ho a q] at e;exact bf e) e'⟩
 tup a its e n:=by
  have q:a∉own:=λq=>by refine aT e λo e' _=>?_;rw[ho a q] at e';exact bf e'
  refine aT (S.tup a its e n) λo e' r=>?_;exact⟨o,hk a o q e',r⟩
 cB a e:=by
  have q:a∉own:=λq=>e (ho a q);induction z:h.get? a using Option.casesOn with
  |none=>exact absurd z (S.cB a e)
  |some o=>rw[hk a o q z];exact λw=>by exact b8 w
 grow a q:=S.grow a q
 more a q:=S.more a q
theorem Step.own{fs own:List Addr}{h h':Qk}{as:List Addr}(hn:∀b∈own,∀its,¬ Q3 h b its)(hh:∀b∈own,h'.get? b≠none)(hk:∀a o,a∉own->h.get? a=some o->h'.get? a=some o):Step fs own h as h' as where
 keep a o e _ _ n:=hk a o n e
 cK a o e _ n:=⟨o.slots,hk a o n e⟩
 tup a its e n:=by
  have q:a∉own:=λq=>hn a q its e;refine aT e λo e' r=>?_;exact⟨o,hk a o q e',r⟩
 cB a e:=by
  by_cases q:a∈own
  ·exact hh a q
  ·induction z:h.get? a using Option.casesOn with
   |none=>exact absurd z e
   |some o=>rw[hk a o q z];exact λw=>by exact b8 w
 grow a q:=.inl q
 more a q:=q
theorem aF.iy(ht:∀a its,Q3 h a its->a∉as->Q3 h' a its):aF G h as v x->aF G h' as v x:=(aF.pL (λ_ _ e n=>⟨ht _ _ e n,n⟩) λ_ q=>q).1
theorem aE.iy(ht:∀a its,Q3 h a its->a∉as->Q3 h' a its):aE G h as v x->aE G h' as v x:=(aF.pL (λ_ _ e n=>⟨ht _ _ e n,n⟩) λ_ q=>q).2
theorem Rep.iy(R:Rep G h as M)(ht:∀a its,Q3 h a its->a∉as->Q3 h' a its)(hs:∀a∈as,h'.get? a=h.get? a):Rep G h' as M:=by
 refine xE R λD R=>?_;refine⟨D,λa o e=>⟨(R.mem a o e).1,?_⟩,R.off,R.inj⟩;refine xA (R.mem a o e) λhm r=>?_;induction o using cz.casesOn with
 |list vs=>refine cI r λits n e z r=>?_;exact⟨its,n,(hs _ hm).trans e,z,r.iy ht⟩
 |av p f s=>
  refine fN r λm e n t1 t2 t3 xp xf xs e2 r1 r2 r3=>?_;exact⟨m,(hs _ hm).trans e,n,t1,t2,t3,xp,xf,xs,(hs _ m).trans e2,r1.iy ht,r2.iy ht,r3.iy ht⟩
 |dict es=>exact dN.jb (hs _ hm) r
theorem At.shift(a:At c s m as M l)(ok:qM c.fr){own:List Addr}(O:∀b∈own,Own c s.heap as b){h':Qk}(hk:∀a o,a∉own->s.heap.get? a=some o->h'.get? a=some o)(t:Nat):
  At c {s with heap:=h',toks:=t} m as M l:=by
 have I:=a.inv;have ht:∀a its,Q3 s.heap a its->a∉as->Q3 h' a its:=λa its e n=>by
  have q:a∉own:=λq=>(O a q).nt its e;refine aT e λo e' r=>?_;exact⟨o,hk a o q e',r⟩
 have has:∀b∈as,h'.get? b=s.heap.get? b:=λb q=>by
  obtain⟨⟨o,e⟩,_⟩:=I.mem b q;rw[e];exact hk b o (λz=>(O b z).as q) e
 have hfs:∀b∈c.fr.fs,∀o,s.heap.get? b=some o->h'.get? b=some o:=λb q o e=>hk b o (λz=>(O b z).fs q) e;refine⟨⟨⟨?_,λb o e=>hk b o (λz=>by rw[(O b z).base] at e;exact bf e) (I.F.keep b o e),I.F.above⟩,jI (λb hb o e hf=>⟨o,hfs b hb o e,hf⟩) I.eE,λb q=>?_,I.rep.iy ht has,I.os,I.gens⟩,⟨a.loc.len,λx i v hx hv=>?_,λx hx=>?_,?_⟩,a.st.off (λb q=>(O b q).h0) hk⟩
 ·refine cY I.F.ns λo es ep e r=>?_
  exact⟨o,es,ep,hfs _ ok.iW o e,r⟩
 ·obtain⟨⟨o,e⟩,r⟩:=I.mem b q
  exact⟨⟨o,(has b q).trans e⟩,r⟩
 ·refine aT (a.loc.is x i v hx hv) λval r N=>?_
  refine⟨val,r.iy ht,?_⟩;rcases N with⟨h1,q |⟨n1,n2,m',⟨o,es,ep,e,rr⟩,hm⟩⟩ |⟨h1,b,hb,h2,h3,o,e,hd⟩
  ·exact .inl ⟨h1,.inl q⟩
  ·exact .inl ⟨h1,.inr ⟨n1,n2,m',⟨o,es,ep,hk _ o (λz=>(O _ z).loc rfl) e,rr⟩,hm⟩⟩
  ·exact .inr ⟨h1,b,hb,h2,h3,o,hk _ o (λz=>(O _ z).cells x b h1 hb rfl) e,hd⟩
 ·refine pM (a.loc.cell x hx) λb w h1 h2 h3 h4 o e hd=>?_
  exact⟨b,w,h1,h2,h3,h4,o,hk _ o (λz=>(O _ z).cells x b hx h1 rfl) e,hd⟩
 ·induction z:s.heap.get? c.env.locals using Option.casesOn with
  |none=>exact absurd z a.loc.here
  |some o=>rw[hk _ o (λz=>(O _ z).loc rfl) z];exact λw=>by exact b8 w
inductive bC (G:GX) (h:Qk) (as:List Addr):It->Nat->Addr->List Addr->Prop
 |lst {r k I:Nat}:r∈as->h.IsListIter I r k->bC G h as (.lst r) k I [I]
 |tup {vs:List V} {its:List Value} {t k I:Nat}:Q3 h t its.toArray->t∉as->its.length<=bh+1->aE G h as vs its->IsTupIter h I t k->bC G h as (.tup vs) k I [I]
 |uu {n k I:Nat}:k<=n->IsRangeIter h I k ((n:Int) - k) 1->bC G h as (.uu n) k I [I]
 |kG {r k e it:Nat} {old:Value}:r∈as->e≠it->IsEnum h e it k old->h.IsListIter it r k->bC G h as (.kG r) k e [e,it]
theorem bC.step{I:Nat}(R:bC G h as it k I own)(S:Step fs xs h as h' as')(ho:∀b∈own,b∉as/\b∉fs/\b∉xs):bC G h' as' it k I own:=by
 have kk:∀b∈own,∀o,h.get? b=some o->h'.get? b=some o:=λb q o e=>S.keep b o e (ho b q).1 (ho b q).2.1 (ho b q).2.2;induction R using bC.casesOn with
 |lst m i=>refine aT i λo e r=>?_;exact .lst (S.more _ m) ⟨o,kk _ (.head _) o e,r⟩
 |tup t n z r i=>refine aT i λo e r'=>?_;exact .tup (S.tup _ _ t n) (let ⟨_,ho,_⟩:=t;S.out ho n) z (r.step S) ⟨o,kk _ (.head _) o e,r'⟩
 |uu hk i=>exact .uu hk (kk _ (.head _) _ i)
 |kG m ne i j=>refine aT j λo e r=>?_;exact .kG (S.more _ m) ne (kk _ (.head _) _ i) ⟨o,kk _ (.tail _ (.head _)) o e,r⟩
theorem bC.nt{I:Nat}(R:bC G h as it k I own):∀b∈own,(∀its,¬ Q3 h b its)/\h.get? b≠none:=by
 have go:∀(b:Addr)(o:Obj),h.get? b=some o->o.cls≠.type "tuple"->(∀its,¬ Q3 h b its)/\h.get? b≠none:=λb o e hc=>⟨λits t=>by
  refine j8 t λo' e' c' _=>?_;rw[e] at e';obtain rfl:=PG e';exact hc c',by rw[e];exact λz=>by exact b8 z⟩
 intro b q;induction R using bC.casesOn with
 |lst m i=>refine j8 i λo e c _=>?_;cases PL.mp q;exact go _ o e (by rw[c];decide)
 |tup t n z r i=>refine j8 i λo e c _=>?_;cases PL.mp q;exact go _ o e (by rw[c];decide)
 |uu hk i=>cases PL.mp q;exact go _ _ i (by show(UW "range_iterator")≠_;decide)
 |kG m ne i j=>
  rcases PJ.mp q with rfl |q
  ·exact go _ _ i (by show(UW "enumerate")≠_;decide)
  ·refine j8 j λo e c _=>?_;cases PL.mp q;exact go _ o e (by rw[c];decide)
end
end
section
section
variable{c:WC}{s:PM}{m:Qd->Option Value}{as:List Addr}{M:Mem}{l:Loc}
theorem Own.next(O:Own c h as b)(hn:(∀its,¬ Q3 h' b its)/\h'.get? b≠none):Own c h' as b:=⟨O.as,O.fs,O.xs,O.base,O.h0,O.loc,O.cells,hn.1,hn.2⟩
theorem cF{I:Addr}(hs:Q7 I h h'):∀a o,a∉[I]->h.get? a=some o->h'.get? a=some o:=λa o n e=>(hs.2 a λq=>n (q ▸ .head _)).trans e
theorem ea{I:Addr}(hs:Heap.ExtBut I h h'):∀a o,a∉[I]->h.get? a=some o->h'.get? a=some o:=λa o n e=>hs a o (λq=>n (q ▸ .head _)) e
theorem mx(h:(o.map f)=some (some r)):∃vs,o=some vs/\f vs=some r:=by
 refine aT (Qa.mp h) λvs a b=>?_;exact⟨vs,a,b⟩
theorem yr(a:At c s m as M l)(ok:c.OK){I:Nat}(R:bC c.G s.heap as it k I own)(O:∀b∈own,Own c s.heap as b)(hne:(l6.one 0).ok it)(h:cS M it k=some (some v))(kk:∀s1 x,At c s1 m as M l->Step c.fr.fs own s.heap as s1.heap as->bC c.G s1.heap as it (k+1) I own->(∀b∈own,Own c s1.heap as b)->aF c.G s1.heap as v x->Q (some x) s1):P2 c.M A (WU (.ref I)) Q E s:=by
 have fin:∀h' t x,(∀a o,a∉own->s.heap.get? a=some o->h'.get? a=some o)->(∀b∈own,h'.get? b≠none)->((∀v x,aF c.G s.heap as v x->aF c.G h' as v x)->(∀vs x,aE c.G s.heap as vs x->aE c.G h' as vs x)->(∀a its,Q3 s.heap a its->a∉as->Q3 h' a its)->bC c.G h' as it (k+1) I own)->aF c.G s.heap as v x->Q (some x) {s with heap:=h',toks:=t}:=by
  intro h' t x hk hh hR r;have S:Step c.fr.fs own s.heap as h' as:=Step.own (λb q=>(O b q).nt) hh hk;have R':=hR (λv x r=>r.step S) (λv x r=>r.step S) S.tup;exact kk _ x (a.shift ok.fr O hk t) S R' (λb q=>(O b q).next (R'.nt b q)) (r.step S)
 induction R using bC.casesOn with
 |lst hm hi=>
  refine aT (mx h) λvs e hv=>?_;refine aX (a.list e) λits n g r _ z=>?_;refine aT (r.get hv) λx hx rx=>?_;refine wpAny_pyNext_list_item hi (aU g) (by simpa using hx) λh' hi' hs=>?_;exact fin h' s.toks x (cF hs) (λb q=>by cases PL.mp q;refine aT hi' λo e _=>?_;rw[e];exact λz=>by exact b8 z) (λ_ _ _=>.lst hm hi') rx
 |tup t n z r hi=>
  have hv:=PG h;refine aT (r.get hv) λx hx rx=>?_;refine next_tuple_item hi t (by simpa using hx) λh' hi' hs=>?_;exact fin h' s.toks x (cF hs) (λb q=>by cases PL.mp q;refine aT hi' λo e _=>?_;rw[e];exact λz=>by exact b8 z) (λ_ hv ht=>.tup (ht _ _ t n) n z (hv _ _ r) hi') rx
 | @uu n k I hk hi=>
  have hv:=PG h;split at hv
  ·rename_i hlt
   obtain rfl:=PG hv;refine wpAny_pyNext_range_item hi (by lia) λh' hi' hs=>?_;refine fin h' (s.toks+1) _ (cF hs) (λb q=>by cases PL.mp q;rw[show h'.get? _=_ from hi'];exact λz=>by exact b8 z) (λ_ _ _=>.uu hlt ?_) (.int _ _)
   have e:(n:Int) - ((k+1:Nat):Int)=(n:Int) - k - 1:=by lia
   rw[e];exact hi'
  ·exact bf hv
 |kG=>exact hne.elim
theorem yJ(a:At c s m as M l)(ok:c.OK){I:Nat}(R:bC c.G s.heap as it k I own)(O:∀b∈own,Own c s.heap as b)(h:cS M it k=some none){A:QP}(hA:A.handled=none)(kk:∀s1,At c s1 m as M l->(∀b o,b∉own->s.heap.get? b=some o->s1.heap.get? b=some o)->Q none s1):P2 c.M A (WU (.ref I)) Q E s:=by
 induction R using bC.casesOn with
 | @lst r' k I hm hi=>
  refine aT (Qa.mp h) λvs e hv=>?_;refine aX (a.list e) λits n g r _ z=>?_;have hx:its[k]?=none:=by
   rw[RP,r.length,P9] at hv;exact TZ.mpr hv
  exact wpAny_pyNext_list_end hA hi (aU g) hx λh' hs=>kk _ (a.shift ok.fr O (ea hs) s.toks) (ea hs)
 |tup t n z r hi=>
  have hv:=PG h;refine next_tuple_end hA hi t ?_ λh' hs=>kk _ (a.shift ok.fr O (ea hs) s.toks) (ea hs);rw[RP,r.length] at hv
  simpa using hv
 |uu hk hi=>
  have hv:=PG h;split at hv
  ·exact b8 hv
  ·exact wpAny_pyNext_range_end hA hi (by lia) λh' hs=>kk _ (a.shift ok.fr O (ea hs) s.toks) (ea hs)
 | @kG r' k I it2 old hm ne he hi=>
  refine aT (Qa.mp h) λvs e hv=>?_;refine aX (a.list e) λits n g r _ z=>?_;rw[Option.map_eq_none_iff] at hv;have hx:its[k]?=none:=by
   rw[RP,r.length,P9] at hv;exact TZ.mpr hv
  exact wpAny_pyNext_enum_end hA he hi (aU g) hx λh' hs=>kk _ (a.shift ok.fr O (λa o n e=>hs a o (λq=>n (q ▸ .tail _ (.head _))) e) s.toks) (λa o n e=>hs a o (λq=>n (q ▸ .tail _ (.head _))) e)
theorem IA(a:At c s m as M l)(ok:c.OK){I:Nat}(R:bC c.G s.heap as it k I own)(O:∀b∈own,Own c s.heap as b)(h:cS M it k=some none)(hA:A.handled=none)(kk:∀s1,At c s1 m as M l->Q none s1):P2 c.M A (WU (.ref I)) Q E s:=
 yJ a ok R O h hA λs1 a1 _=>kk s1 a1
end
end
section
section
variable{c:WC}{s:PM}{m:Qd->Option Value}{as:List Addr}{M:Mem}{l:Loc}
theorem Own.fresh(a:At c s m as M l)(ok:c.OK)(hb:s.heap.get? b=none)(hn:(∀its,¬ Q3 h' b its)/\h'.get? b≠none):Own c h' as b where
 as q:=by obtain⟨⟨o,e⟩,_⟩:=a.inv.mem b q;rw[hb] at e;exact bf e
 fs q:=by refine xC (gw.iz a.inv.eE q) λ_ o e _=>?_;rw[hb] at e;exact bf e
 xs q:=a.st.cB b (ok.BC b q) hb
 base:=by
  induction q:c.G.base.get? b using Option.casesOn with
  |none=>rfl
  |some o=>have:=a.inv.F.keep _ _ q;rw[hb] at this;exact bf this
 h0:=by
  induction q:c.h0.get? b using Option.casesOn with
  |none=>rfl
  |some o=>exact absurd hb (a.st.cB b (by rw[q];exact λz=>by exact b8 z))
 loc q:=a.loc.here (q ▸ hb)
 cells x d h1 h2 q:=by
  refine pM (a.loc.cell x h1) λd' v h3 _ _ _ o e _=>?_;rw[h2] at h3;obtain rfl:=PG h3;rw[q,hb] at e;exact bf e
 nt:=hn.1
 here:=hn.2
end
theorem qi(h:isSet e=false)(env:Vs)(x:Value):foldedSetIterable e env x=pure x:=by
 induction e using PW<;>first |rfl |exact jr h
def gn(G:GX)(cx:Cx)(e:Expr)(d:MI):Prop:=
 ∀c:WC,c.G=G->c.cx=cx->c.OK->∀s m as M l Qm Qr,At c s m as M l->d c.call l M Qm c.X->
  (∀it I own s1 M1 as1,At c s1 m as1 M1 l->Step c.fr.fs [] s.heap as s1.heap as1->bC c.G s1.heap as1 it 0 I own->(∀b∈own,Own c s1.heap as1 b)->Qm it M1->Qr (.ref I) s1)->
  P2 c.M c.A (eval e c.env) (λx s1=>P2 c.M c.A (pyIter x) Qr c.E s1) c.E s
section
variable{G:GX}{cx:Cx}
theorem gn.bad:gn G cx e (λ_ _ _ _ _=>False):=λ_ _ _ _ _ _ _ _ _ _ _ _ h _=>h.elim
theorem gn.of(he:ar G cx e d):gn G cx e (g5 d):=by
 intro c hG hcx ok s m as M l Qm Qr a dd k;refine he c hG hcx ok s m as M l _ _ a dd λv s1 M1 as1 x a1 S1 r1 d1=>?_;have hsz:s1.heap.get? s1.heap.objs.size=none:=bL _;induction x using V.casesOn
 case lst r=>
  refine xA (d1 trivial) λhl d1=>?_;refine xE (Qt.mp hl) λxs e=>?_
  (refine xA r1.lst_inv λq0q _=>?_;obtain rfl:=q0q)
  refine aX (a1.list e) λits n g rr hm z=>?_;refine V3 (aU g) ?_;refine xA (a1.push {cls:=.type "list_iterator",data:=.fields #[.ref r,.int 0 0]}) λa2 S2=>?_;have R:bC c.G (s1.heap.push {cls:=.type "list_iterator",data:=.fields #[.ref r,.int 0 0]}) as1 (.lst r) 0 s1.heap.objs.size [s1.heap.objs.size]:=
   .lst hm ⟨_,QD _ rfl,rfl,rfl⟩
  exact k _ _ _ _ _ _ a2 (S1.trans S2) R (λb q=>by cases PL.mp q;exact Own.fresh a1 ok hsz (R.nt _ q)) d1
 case tup vs=>
  (refine cA r1.eg λits t q2q ht hn z rr=>?_;obtain rfl:=q2q)
  refine iter_tuple ht ?_;refine xA (a1.push {cls:=.type "tuple_iterator",data:=.fields #[.ref t,.int 0 0]}) λa2 S2=>?_;have R:bC c.G (s1.heap.push {cls:=.type "tuple_iterator",data:=.fields #[.ref t,.int 0 0]}) as1 (.tup _) 0 s1.heap.objs.size [s1.heap.objs.size]:=
   .tup (S2.tup _ _ ht hn) hn z (rr.step S2) ⟨_,QD _ rfl,rfl,rfl⟩
  exact k _ _ _ _ _ _ a2 (S1.trans S2) R (λb q=>by cases PL.mp q;exact Own.fresh a1 ok hsz (R.nt _ q)) d1
 all_goals exact d1.elim
theorem gn.range(h:cx.blt x "range" = true)(hs:isStar e=false)(he:ar G cx e de):gn G cx (.Call (.Name x np) [e] [] pos) (eG de):=by
 intro c hG hcx ok s m as M l Qm Qr a d k;subst hG hcx;refine xm (Q:=λx s1=>P2 c.M c.A (pyIter x) Qr c.E s1) ok a h (by decide) hs he d (by rw[Boot.«range»]) (.inr ⟨_,rfl⟩) λv s1 M1 as1 x a1 S1 r1 d1=>?_
 (refine aT (bE d1) λi q1q d1=>?_;obtain rfl:=q1q)
 refine kr (d1 trivial) λh1 h2 d1=>?_
 (refine xE r1.int_inv λt q1q=>?_;obtain rfl:=q1q)
 have hcap:bh=1000000:=rfl;refine call_range_1 ?_;refine xA (a1.push {cls:=.type "range",data:=.fields #[.int 0 s1.toks,.int i t,.int 1 (s1.toks+1)]}) λa2 S2=>?_;replace a2:=a2.toks (s1.toks+1+1);refine wpAny_pyIter_range (IsRange.new s1.heap 0 i 1 s1.toks t (s1.toks+1)) (small_one (by decide) (by decide) (by lia) (by lia)) ?_;refine xA (a2.push {cls:=.type "range_iterator",data:=.fields #[Wk 0,Wk (S8 0 i 1),Wk 1]}) λa3 S3=>?_;have hr:S8 0 i 1=((i.toNat:Nat):Int) - ((0:Nat):Int):=by rw[rangeSize_one];split<;>lia
 have R:=bC.uu (G:=c.G) (as:=as1) (n:=i.toNat) (k:=0) (P4 _) (show IsRangeIter ((s1.heap.push {cls:=.type "range",data:=.fields #[.int 0 s1.toks,.int i t,.int 1 (s1.toks+1)]}).push {cls:=.type "range_iterator",data:=.fields #[Wk 0,Wk (S8 0 i 1),Wk 1]})
  (s1.heap.push {cls:=.type "range",data:=.fields #[.int 0 s1.toks,.int i t,.int 1 (s1.toks+1)]}).objs.size (0:Nat) ((i.toNat:Nat) - ((0:Nat):Int)) 1 by rw[<- hr];exact QD _ rfl)
 exact k _ _ _ _ _ _ a3 ((S1.trans S2).trans S3) R (λb q=>by cases PL.mp q;exact Own.fresh a2 ok (bL _) (R.nt _ q)) d1
theorem gn.enum(h:cx.blt x "enumerate" = true)(hs:isStar e=false)(he:ar G cx e de):gn G cx (.Call (.Name x np) [e] [] pos) (yC de):=by
 intro c hG hcx ok s m as M l Qm Qr a d k;subst hG hcx;refine xm (Q:=λx s1=>P2 c.M c.A (pyIter x) Qr c.E s1) ok a h (by decide) hs he d (by rw[Boot.«enumerate»]) (.inr ⟨_,rfl⟩) λv s1 M1 as1 x a1 S1 r1 d1=>?_
 (refine aT (cp d1) λr q1q d1=>?_;obtain rfl:=q1q)
 refine xA (d1 trivial) λhl d1=>?_;refine xE (Qt.mp hl) λxs e=>?_
 (refine xA r1.lst_inv λq0q _=>?_;obtain rfl:=q0q)
 refine aX (a1.list e) λits n g rr hm z=>?_;refine call_enumerate_1 g λh' he hi hz hk=>V5 he ?_;refine xA (a1.grown hk s1.toks) λa2 S2=>?_;have R:bC c.G h' as1 (.kG r) 0 (s1.heap.objs.size+1) [s1.heap.objs.size+1,s1.heap.objs.size]:=.kG hm (R5 _) he hi;have hsz:s1.heap.get? s1.heap.objs.size=none:=bL _;have hsz1:s1.heap.get? (s1.heap.objs.size+1)=none:=by
  induction q:s1.heap.get? (s1.heap.objs.size+1) using Option.casesOn with
  |none=>rfl
  |some o=>exact absurd (Qw q) (UQ.mpr (P5 _))
 exact k _ _ _ _ _ _ a2 (S1.trans S2) R (λb q=>by
  refine Own.fresh a1 ok ?_ (R.nt _ q);rcases PJ.mp q with rfl |q
  ·exact hsz1
  ·cases PL.mp q;exact hsz) d1
end
end
section
noncomputable def WC.re(c:WC)(h:Qk)(as:List Addr):WC:={c with X:=λ_=>False,h0:=h,eQ:=as}
section
variable{c:WC}{s:PM}{m:Qd->Option Value}{as:List Addr}{M:Mem}{l:Loc}
theorem WC.OK.re(ok:c.OK)(a:At c s m as M l):(c.re s.heap as).OK:=⟨ok.g,ok.call,ok.fr,ok.a,ok.sc,ok.kind,ok.globals,ok.builtins,ok.frame,ok.glob,λb q=>a.st.cB b (ok.BC b q)⟩
theorem pJ.re(so:pJ c)(h:Qk)(as:List Addr):pJ (c.re h as):=⟨so.env,so.locs,so.MY,so.cells,so.apart,so.idx,so.lt⟩
theorem At.re(a:At c s m as M l):At (c.re s.heap as) s m as M l:=⟨a.inv,⟨a.loc.len,a.loc.is,a.loc.cell,a.loc.here⟩,.refl⟩
theorem At.Nd(a:At (c.re h eQ) s m as M l)(S:Step c.fr.fs c.xs c.h0 c.eQ h eQ):At c s m as M l:=⟨a.inv,⟨a.loc.len,a.loc.is,a.loc.cell,a.loc.here⟩,S.trans a.st⟩
theorem B9(w:P2 c.M A t Q (c.re h eQ).E s):P2 c.M A t Q E s:=
 wpAny_mono w (λ_ _ x=>x) λ_ _ e=>by refine gr e λ_ _ _ _ _ _ _ hX _=>?_;exact hX.elim
theorem Own.step(O:Own c h as b)(S:Step c.fr.fs c.xs h as h' as')(hn:(∀its,¬ Q3 h' b its)/\h'.get? b≠none):Own c h' as' b where
 as:=by
  induction q:h.get? b using Option.casesOn with
  |none=>exact absurd q O.here
  |some o=>exact S.out q O.as
 fs:=O.fs
 xs:=O.xs
 base:=O.base
 h0:=O.h0
 loc:=O.loc
 cells:=O.cells
 nt:=hn.1
 here:=hn.2
end
section
variable{G:GX}{cx:Cx}
def HM(c:WC)(t:l6)(db:MS)(it:It)(I:Addr)(own:List Addr)(Qm:Fl->Loc->Mem->Prop)(n:Nat)(s:PM):Prop:=
 ∃m as M l k,At c s m as M l/\bC c.G s.heap as it k I own/\(∀b∈own,Own c s.heap as b)/\ct c.call t db it n k l M Qm
theorem CQ{c:WC}(ok:c.OK)(so:pJ c){b:List Sp}(hb:aW c.G c.cx (execs b) db){t:l6}{it:It}{k I:Nat}{own:List Addr}{Qm:Fl->Loc->Mem->Prop}{n:Nat}{s:PM}{m:Qd->Option Value}{as:List Addr}(a:At c s m as M l)(R:bC c.G s.heap as it (k+1) I own)(O:∀b∈own,Own c s.heap as b)(d:db c.call l M (lE (λl2 M2=>ct c.call t db it n (k+1) l2 M2 Qm) Qm) (λ_=>False)){E:Value->PM->Prop}{Qr:Xg->PM->Prop}(kk:∀f r s1 m1 as1 M1 l1,At c s1 m1 as1 M1 l1->Kb c.G s1.heap as1 f r->Qm f l1 M1->Qr r s1):
  P2 c.M c.A (execs b c.env) (λf s₃=>match f with
   |.next |.cont=>∃m,m < n+1/\HM c t db it I own Qm m s₃
   |.brk=>Qr .next s₃
   |.ret v=>Qr (.ret v) s₃) E s:=by
 refine B9 (c:=c) (hb (c.re s.heap as) rfl rfl (ok.re a) (so.re _ _) s m as M l _ _ a.re d λf r s3 m3 as3 M3 l3 a3 fr d3=>?_);have S3:Step c.fr.fs c.xs s.heap as s3.heap as3:=a3.st;have b3:=a3.Nd a.st;have R3:bC c.G s3.heap as3 it (k+1) I own:=R.step S3 λb q=>⟨(O b q).as,(O b q).fs,(O b q).xs⟩;have O3:∀b∈own,Own c s3.heap as3 b:=λb q=>(O b q).step S3 (R3.nt b q);cases fr with
 |next=>exact⟨n,Qf n,m3,as3,M3,l3,k+1,b3,R3,O3,d3⟩
 |cont=>exact⟨n,Qf n,m3,as3,M3,l3,k+1,b3,R3,O3,d3⟩
 |brk=>exact kk _ _ _ _ _ _ _ b3 .next d3
 |ret r=>exact kk _ _ _ _ _ _ _ b3 (.ret r) d3
theorem tG(ok:c.OK)(so:pJ c)(a:At c s m as M l)(hx:c.cx.loc x=some i)(hy:c.cx.loc y=some j)(r:aE c.G s.heap as [v,w] xs)(k:∀s1 m1,At c s1 m1 as M ((l.set i (some v)).set j (some w))->Step c.fr.fs c.xs s.heap as s1.heap as->Q () s1):P2 c.M c.A (Sg ((UU [.Name x px,.Name y py] c.env).map (·.2)) xs) Q c.E s:=by
 obtain⟨x1,xs1,rfl,r1,r⟩:=r.cons_inv;obtain⟨x2,xs2,rfl,r2,r⟩:=r.cons_inv;obtain rfl:=r.nil_inv;show P2 c.M c.A (Sg [assign (.Name x px) c.env,assign (.Name y py) c.env] [x1,x2]) Q c.E s;refine Rd (So (bG ok so a hx r1 λs3 m3 a3 S3=>?_));refine Rd (So (bG ok so a3 hy (r2.step S3) λs4 m4 a4 S4=>?_));exact Ti (k _ _ a4 (S3.trans S4))
def Turn(c:WC)(tgt:Expr)(t:l6):Prop:=∀{s:PM}{m:Qd->Option Value}{as:List Addr}{M:Mem}{l l':Loc}{it:It}{k I:Nat}{own:List Addr}{v:V},At c s m as M l->bC c.G s.heap as it k I own->(∀b∈own,Own c s.heap as b)->t.ok it->cS M it k=some (some v)->t.set l v=some l'->
 ∀{Q:Option Value->PM->Prop}{B:Unit->PM->Prop}{E E1 E2:Value->PM->Prop},(∀x s1,P2 (model c.G.prog c.G.w) c.A (letOwnedTupleGo tgt (.ref I) x) (λ_ s2=>P2 (model c.G.prog c.G.w) c.A (assign tgt c.env x) B E1 s2) E2 s1->Q (some x) s1)->
  (∀s4 m4,At c s4 m4 as M l'->bC c.G s4.heap as it (k+1) I own->(∀b∈own,Own c s4.heap as b)->B () s4)->P2 (model c.G.prog c.G.w) c.A (WU (.ref I)) Q E s
theorem DQ(ok:c.OK)(so:pJ c)(hx:c.cx.loc x=some i):Turn c (.Name x np) (.one i):=λ{s m as M l l' it k I own v} a R O hok hv hl {Q B E E1 E2} hQ hB=>by
 obtain rfl:=PG hl;refine yr a ok R O (by induction it using It.casesOn<;>exact hok) hv λs2 x2 a2 S2 R2 O2 r2=>hQ _ _ (wpAny_pure ?_)
 refine f5 (c:=c) (So (bG ok.lg so.lg a2.lg hx r2 λs3 m3 a3 S3=>?_));have R3:bC c.G s3.heap as it (k+1) I own:=R2.step S3 λb q=>⟨(O2 b q).as,(O2 b q).fs,(O2 b q).xs⟩;exact hB _ _ a3.lF R3 (λb q=>(O2 b q).step S3 (R3.nt b q))
theorem Bx{c:WC}(ok:c.OK)(so:pJ c){s:PM}{m:Qd->Option Value}{as:List Addr}{M:Mem}{l:Loc}(a:At c s m as M l){r k I it2:Nat}{old:Value}(hm:r∈as)(ne:I≠it2)(he:IsEnum s.heap I it2 k old)(hit:s.heap.IsListIter it2 r k)(O:∀b∈[I,it2],Own c s.heap as b){vs:List V}(e1:M.list? r=some vs)(hw:vs[k]?=some w){x y:Qd}{n1:Nat}{px py tp:Pos}{i j:Nat}(hx:c.cx.loc x=some i)(hy:c.cx.loc y=some j){Q:Option Value->PM->Prop}{B:Unit->PM->Prop}{E E1 E2:Value->PM->Prop}(hQ:∀v s1,P2 (model c.G.prog c.G.w) c.A (letOwnedTupleGo (.Tuple [.Name x px,.Name y py] n1 tp) (.ref I) v) (λ_ s2=>P2 (model c.G.prog c.G.w) c.A (assign (.Tuple [.Name x px,.Name y py] n1 tp) c.env v) B E1 s2) E2 s1->Q (some v) s1)(hB:∀s4 m4,At c s4 m4 as M ((l.set i (some (.int k))).set j (some w))->bC c.G s4.heap as (.kG r) (k+1) I [I,it2]->(∀b∈[I,it2],Own c s4.heap as b)->B () s4):P2 (model c.G.prog c.G.w) c.A (WU (.ref I)) Q E s:=by
 obtain⟨its,n',g,rr,_,z⟩:=a.list e1;obtain⟨xw,hxw,rw_⟩:=rr.get hw;refine wpAny_pyNext_enum_item he hit (aU g) (by simpa using hxw) ne λh1 he1 hit1 hT hz hk1=>hQ _ _ ?_;refine wpAny_letOwnedTupleGo_enum he1 λh2 he2 hs2=>?_;have hTI:s.heap.objs.size≠I:=TO (Qw he);have k2:∀a o,a∉[I,it2]->s.heap.get? a=some o->h2.get? a=some o:=λa o q e=>by
  have n1:a≠I:=λz=>q (z ▸ .head _);exact(hs2.2 a n1).trans (hk1 a o n1 (λz=>q (z ▸ .tail _ (.head _))) e)
 have hit2:h2.IsListIter it2 r (k+1):=by
  refine aT hit1 λo e q=>?_;exact⟨o,(hs2.2 it2 (Qu ne)).trans e,q⟩
 have a2:=a.shift ok.fr O k2 (s.toks+1);have R2:bC c.G h2 as (.kG r) (k+1) I [I,it2]:=.kG hm ne (show h2.get? I=some _ from he2) hit2;have O2:∀b∈[I,it2],Own c h2 as b:=λb q=>(O b q).next (R2.nt b q);have S2:Step c.fr.fs [I,it2] s.heap as h2 as:=Step.own (λb q=>(O b q).nt) (λb q=>(R2.nt b q).2) k2;have hT2:Q3 h2 s.heap.objs.size [.int k s.toks,xw].toArray:=⟨_,(hs2.2 _ hTI).trans hT,rfl,_,rfl⟩;refine VT ok.a.handled hT2 rfl rfl λh3 hx3=>?_;refine xA (a2.grown (h':=h3) (λb o e=>hx3 b o (Te (Qw e)) e) (s.toks+1)) λa3 S3=>?_;have rs:aE c.G h3 as [.int k,w] [.int k s.toks,xw]:=.cons (.int _ _) (.cons ((rw_.step S2).step S3) .nil);have R3:bC c.G h3 as (.kG r) (k+1) I [I,it2]:=R2.step S3 λb q=>⟨(O2 b q).as,(O2 b q).fs,P6⟩;have O3:∀b∈[I,it2],Own c h3 as b:=λb q=>(O2 b q).step S3.weaken (R3.nt b q);refine f5 (c:=c) (tG ok.lg so.lg a3.lg hx hy rs λs4 m4 a4 S4=>?_);have R4:bC c.G s4.heap as (.kG r) (k+1) I [I,it2]:=R3.step S4 λb q=>⟨(O3 b q).as,(O3 b q).fs,(O3 b q).xs⟩;exact hB _ _ a4.lF R4 (λb q=>(O3 b q).step S4 (R4.nt b q))
theorem Cb(ok:c.OK)(so:pJ c){n1:Nat}(hx:c.cx.loc x=some i)(hy:c.cx.loc y=some j):Turn c (.Tuple [.Name x px,.Name y py] n1 tp) (.two i j):=λ{s m as M l l' it k I own v} a R O hok hv hl {Q B E E1 E2} hQ hB=>by
 induction R using bC.casesOn with
 |lst=>exact hok.elim
 |tup=>exact hok.elim
 |uu=>exact hok.elim
 | @kG r k I it2 old hm ne he hit=>
 obtain⟨vs,e1,hv⟩:=mx hv
 (refine aT (Qa.mp hv) λw hw q2q=>?_;obtain rfl:=q2q)
 obtain rfl:=PG hl;exact Bx ok so a hm ne he hit O e1 hw hx hy hQ hB
theorem aW.LL(hs:isSet e=false)(hi:gn G cx e di)(hb:aW G cx (execs b) db)(T:∀c:WC,c.G=G->c.cx=cx->c.OK->pJ c->Turn c tgt t):aW G cx (exec (.For tgt e b [] pos)) (bX t di db):=by
 intro c hG hcx ok so s m as M l Qm Qr a dd kk;have Tc:Turn c tgt t:=@T c hG hcx ok so;subst hG hcx;unfold bX at dd;refine wpAny_For (hi c rfl rfl ok s m as M l _ _ a dd λit I own s1 M1 as1 a1 S1 R1 O1 d1=>?_) (qi hs _);refine NS d1 λhok n d1=>?_;refine codeAny_forLoop_any (HM c t db it I own Qm) (λn s I=>?_) n ⟨m,as1,M1,l,0,a1,R1,O1,d1⟩;refine AK I λm as M l k a R O d=>?_;induction n using P0 with
 |zero=>exact d.elim
 |succ n=>
  refine aT (bg d) λo hv d=>?_;induction o using Option.casesOn with
  |some v=>exact aT (bg d) λl' hl d=>Tc a R O hok hv hl (λx s1 q=>q) λs4 m4 a4 R4 O4=>CQ ok so hb a4 R4 O4 d kk
  |none=>exact IA a ok R O hv ok.a.handled λs2 a2=>RQ (kk _ _ _ _ _ _ _ a2 .next d)
theorem aW.NX(hx:cx.loc x=some i)(hs:isSet e=false)(hi:gn G cx e di)(hb:aW G cx (execs b) db):
  aW G cx (exec (.For (.Name x np) e b [] pos)) (bX (.one i) di db):=.LL hs hi hb λc hG hcx ok so=>DQ ok so (hcx ▸ hx)
theorem aW.Nj{n1:Nat}(hx:cx.loc x=some i)(hy:cx.loc y=some j)(hs:isSet e=false)(hi:gn G cx e di)(hb:aW G cx (execs b) db):
  aW G cx (exec (.For (.Tuple [.Name x px,.Name y py] n1 tp) e b [] pos)) (bX (.two i j) di db):=.LL hs hi hb λc hG hcx ok so=>Cb ok so (hcx ▸ hx) (hcx ▸ hy)
end
end
section
theorem BF(hD:∀its,¬ Q3 h D its):(∀{v x},aF G h as v x->aF G h (D::as) v x)/\∀{v x},aE G h as v x->aE G h (D::as) v x:=
 aF.pL (λ_ _ e n=>⟨e,λq=>(PJ.mp q).elim (λz=>hD _ (z ▸ e)) n⟩) λ_=>.tail _
theorem aF.adopt(hD:∀its,¬ Q3 h D its):aF G h as v x->aF G h (D::as) v x:=(BF hD).1
theorem aE.adopt(hD:∀its,¬ Q3 h D its):aE G h as v x->aE G h (D::as) v x:=(BF hD).2
theorem dN.adopt(hD:∀its,¬ Q3 h D its)(r:dN G h as dx a o):dN G h (D::as) dx a o:=by
 induction o using cz.casesOn with
 |list vs=>refine cI r λits n e z r=>?_;exact⟨its,n,e,z,r.adopt hD⟩
 |av p f s=>
  refine fN r λm e n t1 t2 t3 xp xf xs e2 r1 r2 r3=>?_;exact⟨.tail _ m,e,n,t1,t2,t3,xp,xf,xs,e2,r1.adopt hD,r2.adopt hD,r3.adopt hD⟩
 |dict es=>exact r
section
variable{c:WC}{s:PM}{m:Qd->Option Value}{as:List Addr}{M:Mem}{l:Loc}
theorem At.adopt(a:At c s m as M l)(O:Own c s.heap as D)(hD:s.heap.get? D=some (listOf ys nD))(hz:ys.size<=bh+1)(r:aE c.G s.heap as vs ys.toList):
  M D=none/\At c s m (D::as) (M.set D (.list vs)) l:=by
 have I:=a.inv;refine xE I.rep λDm R=>?_;have hM:M D=none:=by
  induction q:M D using Option.casesOn with
  |none=>rfl
  |some o=>exact absurd (R.mem _ o q).1 O.as
 have ne:∀x o,(M.set D (.list vs)) x=some o->(x=D/\o = .list vs)\/(x≠D/\M x=some o):=λx o e=>by
  unfold Mem.set at e;by_cases q:x=D
  ·rw[if_pos q] at e;obtain rfl:=PG e;exact .inl ⟨q,rfl⟩
  ·rw[if_neg q] at e;exact .inr ⟨q,e⟩
 refine⟨hM,⟨⟨I.F,I.eE,λb q=>?_,⟨Dm,λx o e=>?_,λx p f t e=>?_,λx p f t y p' f' t' e1 e2 q=>?_⟩,I.os,I.gens⟩,⟨a.loc.len,λx i v hx hv=>?_,λx hx=>?_,a.loc.here⟩,?_⟩⟩
 ·rcases PJ.mp q with rfl |q
  ·exact⟨⟨_,hD⟩,O.base,O.fs⟩
  ·exact I.mem b q
 ·rcases ne x o e with⟨rfl,rfl⟩ |⟨_,e⟩
  ·exact⟨.head _,ys,nD,hD,hz,r.adopt O.nt⟩
  ·exact⟨.tail _ (R.mem x o e).1,(R.mem x o e).2.adopt O.nt⟩
 ·rcases ne x _ e with⟨_,q⟩ |⟨_,e⟩
  ·cases q
  ·have hd:Dm x≠D:=λz=>O.as (z ▸ (R.mem x _ e).2.1)
   unfold Mem.set;rw[if_neg hd];exact R.off x p f t e
 ·rcases ne x _ e1 with⟨_,q⟩ |⟨_,e1⟩
  ·cases q
  ·rcases ne y _ e2 with⟨_,q⟩ |⟨_,e2⟩
   ·cases q
   ·exact R.inj x _ _ _ y _ _ _ e1 e2 q
 ·refine aT (a.loc.is x i v hx hv) λval r N=>?_
  refine⟨val,r.adopt O.nt,?_⟩;rcases N with⟨h1,q |⟨n1,n2,w⟩⟩ |⟨h1,b,hb,h2,h3,hv⟩
  ·exact .inl ⟨h1,.inl q⟩
  ·exact .inl ⟨h1,.inr ⟨λq=>(PJ.mp q).elim (λz=>O.loc z.symm) n1,n2,w⟩⟩
  ·exact .inr ⟨h1,b,hb,λq=>(PJ.mp q).elim (λz=>O.cells x b h1 hb z) h2,h3,hv⟩
 ·refine cA (a.loc.cell x hx) λb w h1 h2 h3 h4 hv=>?_
  exact⟨b,w,h1,λq=>(PJ.mp q).elim (λz=>O.cells x b hx h1 z) h2,h3,h4,hv⟩
 ·exact⟨a.st.keep,a.st.cK,a.st.tup,a.st.cB,λb q=>(PJ.mp q).elim (λz=>.inr (z ▸ O.h0)) (a.st.grow b),λb q=>.tail _ (a.st.more b q)⟩
theorem Step.adopt(S:Step fs xs h0 eQ h as)(hD:h0.get? D=none):Step fs xs h0 eQ h (D::as):=
 ⟨S.keep,S.cK,S.tup,S.cB,λb q=>(PJ.mp q).elim (λz=>.inr (z ▸ hD)) (S.grow b),λb q=>.tail _ (S.more b q)⟩
theorem Own.adopt(O:Own c h as b)(hne:b≠D):Own c h (D::as) b:=⟨λq=>(PJ.mp q).elim hne O.as,O.fs,O.xs,O.base,O.h0,O.loc,O.cells,O.nt,O.here⟩
theorem Step.rL{fs own:List Addr}{h0 h h':Qk}{eQ as as':List Addr}(S:Step fs [] h0 eQ h as)(T:Step fs own h as h' as')(ho:∀b∈own,h0.get? b=none):Step fs [] h0 eQ h' as' where
 keep a o e n1 n2 _:=T.keep a o (S.keep a o e n1 n2 P6) (S.out e n1) n2 λq=>by rw[ho a q] at e;exact bf e
 cK a o e n1 _:=by
  refine xE (S.cK a o e n1 P6) λsl e'=>?_;refine xE (T.cK a _ e' n1 λq=>by rw[ho a q] at e;exact bf e) λsl' e''=>?_;exact⟨sl',e''⟩
 tup a its e n:=T.tup a its (S.tup a its e n) (let ⟨_,ho,_⟩:=e;S.out ho n)
 cB a e:=T.cB a (S.cB a e)
 grow a q:=by
  rcases T.grow a q with q |q
  ·exact S.grow a q
  ·induction e:h0.get? a using Option.casesOn with
   |none=>exact .inr rfl
   |some o=>exact absurd q (S.cB a (by rw[e];exact λz=>by exact b8 z))
 more a q:=T.more a (S.more a q)
end
noncomputable def jo(cells:List (Qd × Addr)):List (Qd × Tj)->List (Qd × Addr)->List (Qd × Addr)
 |[],acc=>acc
 |(n,k)::r,acc=>jo cells r (if k == .free then(match cells.lookup n with |some a=>(n,a)::acc |none=>acc) else acc)
theorem Jb(hc:∀n,(n,Rg)∈scope.names->∃a,env.cells.lookup n=some a)(h:Q (jo env.cells scope.names []) s):P2 M A (VU scope env) Q E s:=by
 unfold VU;refine wpAny_bind (wpAny_mono (Q:=λr s'=>Q r s') ?_ (λ_ _ x=>wpAny_pure x) λ_ _ x=>x);generalize ([]:List (Qd × Addr))=acc at h |-;generalize scope.names=names at h hc;induction names generalizing acc with
 |nil=>exact wpAny_pure h
 |cons p r ih=>
  obtain⟨n,k⟩:=p;rw[Sd];unfold jo at h;by_cases hk:(k == Rg)=true
  ·refine xE (hc n (by rw[show k=Rg from by simpa using hk];exact .head _)) λa ha=>?_
   simp only[hk,if_true,ha] at h |-;exact wpAny_bind (wpAny_bind (wpAny_cellOf ha (wpAny_pure (ih _ h λn' q=>hc n' (.tail _ q)))))
  ·simp only[RJ] at hk
   simp only[hk,QF,if_false] at h |-;exact wpAny_bind (wpAny_pure (ih _ h λn' q=>hc n' (.tail _ q)))
theorem wL:∀(names:List (Qd × Tj))(acc:List (Qd × Addr)),(∀p∈acc,cells.lookup p.1=some p.2)->∀p∈jo cells names acc,cells.lookup p.1=some p.2:=by
 intro names;induction names with
 |nil=>
  intro acc h p q;exact h p q
 |cons pq r ih=>
  obtain⟨n,k⟩:=pq;intro acc h p q;unfold jo at q;refine ih _ (λp' q'=>?_) p q;split at q'
  ·split at q'
   ·rename_i a ha
    rcases PJ.mp q' with rfl |q'
    ·exact ha
    ·exact h p' q'
   ·exact h p' q'
  ·exact h p' q'
theorem Dq(ha:cells.lookup n=some a):∀(names:List (Qd × Tj))(acc:List (Qd × Addr)),((n,Rg)∈names\/(n,a)∈acc)->(n,a)∈jo cells names acc:=by
 intro names;induction names with
 |nil=>
  intro acc h;exact h.elim (λq=>by cases q) id
 |cons pq r ih=>
  obtain⟨n',k⟩:=pq;intro acc h;unfold jo;refine ih _ ?_;rcases h with h |h
  ·rcases PJ.mp h with e |h
   ·cases e
    right;simp only[beq_self_eq_true,if_true,ha];exact .head _
   ·exact .inl h
  ·right
   split
   ·split
    ·exact .tail _ h
    ·exact h
   ·exact h
theorem lT{L cells:List (Qd × Addr)}(hs:∀p∈L,cells.lookup p.1=some p.2)(hm:(n,a)∈L):L.lookup n=some a:=by
 induction L with
 |nil=>cases hm
 |cons p r ih=>
  obtain⟨n',a'⟩:=p;rw[QN];by_cases e:n=n'
  ·subst e
   simp only[beq_self_eq_true];have h1:=hs (n,a') (.head _);have h2:=hs (n,a) hm;simp only at h1 h2;rw[h1] at h2;exact h2
  ·have:(n == n')=false:=beq_eq_false_iff_ne.mpr e
   simp only[this];refine ih (λp q=>hs p (.tail _ q)) ?_;rcases PJ.mp hm with q |q
   ·cases q;exact absurd rfl e
   ·exact q
end
section
theorem xr(hc:∀n,(n,Rg)∈scope.names->∃a,env.cells.lookup n=some a):VU scope env=pure (jo env.cells scope.names []):=by
 unfold VU;generalize ([]:List (Qd × Addr))=acc;generalize scope.names=names at hc;dsimp only;induction names generalizing acc with
 |nil=>rfl
 |cons p r ih=>
  obtain⟨n,k⟩:=p;rw[Sd];unfold jo;by_cases hk:(k == Rg)=true
  ·refine xE (hc n (by rw[show k=Rg from by simpa using hk];exact .head _)) λa ha=>?_
   have hcell:cellOf env n=pure a:=by unfold cellOf;rw[ha]
   simp only[hk,if_true,ha,hcell];exact ih ((n,a)::acc) λn' q=>hc n' (.tail _ q)
  ·simp only[RJ] at hk
   simp only[hk,QF,if_false];exact ih acc λn' q=>hc n' (.tail _ q)
noncomputable def WC.Es(c:WC)(sc:Rb)(x:Qd)(C:Addr)(h:Qk)(as:List Addr):WC:=
 {c with cx:=c.cx.inner sc x c.cx.idx.length,env:=Vh sc (jo c.env.cells sc.names []) C c.env,h0:=h,eQ:=as,xs:=[],X:=λ_=>False}
structure iM (cx:Cx) (sc:Rb) (x:Qd):Prop where
 loc:∀n k,sc.names.lookup n=some k->k = .local\/k = .free\/k = .globalImplicit
 Pa:∀n,sc.names.lookup n=some .local->n=x\/n=PR ".0"
 free:∀n,(n,Rg)∈sc.names->cx.sc.names.lookup n=some .cell/\n≠x
 locs:∀y∈sc.names,y.2 = .local->(dZ cx.sc sc).names.lookup y.1=some .local
 cells:∀y∈sc.names,y.2≠.cell
 hx:sc.names.lookup x=some .local
 dot:cx.idx.lookup (PR ".0")=none
 nd:Nm.Internal.HQ x=false
 kind:sc.kind = .function
 outer:cx.sc.kind = .function
 idx:∀y i,cx.idx.lookup y=some i->i < cx.idx.length
 pure:∀y∈sc.names,y.2 = .local->sc.names.lookup y.1=some .local
theorem mem_of_lookup{α:Type}{n:Qd}{k:α}:∀{l:List (Qd × α)},l.lookup n=some k->(n,k)∈l:=by
 intro l;induction l with
 |nil=>
  intro h;exact bf h
 |cons pq r ih=>
  obtain⟨n',k'⟩:=pq;intro h;rw[QN] at h;by_cases e:n=n'
  ·subst e;simp only[beq_self_eq_true] at h;obtain rfl:=PG h;exact .head _
  ·have:(n == n')=false:=beq_eq_false_iff_ne.mpr e
   simp only[this] at h;exact .tail _ (ih h)
theorem DH(h:fresh? cx sc x=true)(hp:(sc.names.all λ(n,k)=>k != .local || sc.names.lookup n == some .local)=true):iM cx sc x:=by
 unfold fresh? at h;simp only[Qy,QZ] at h;obtain⟨⟨⟨⟨⟨⟨h1,h2⟩,h3⟩,h4⟩,h5⟩,h6⟩,h7⟩:=h;rw[QZ] at hp;have hloc:∀n,(n,NameKind.local)∈sc.names->(n=x\/n=PR ".0")/\(dZ cx.sc sc).names.lookup n=some .local:=λn hn=>by
  have:=h1 _ hn;simp only[Qy,TH,beq_iff_eq] at this;exact this
 refine⟨λn k hk=>?_,λn hn=>(hloc n (mem_of_lookup hn)).1,λn hn=>?_,λy hy e=>?_,λy hy e=>?_,by simpa using h2,by simpa using h3,by simpa using h4,by simpa using h5,by simpa using h6,λy i hi=>by simpa using h7 _ (mem_of_lookup hi),λy hy e=>?_⟩
 ·have:=h1 _ (mem_of_lookup hk)
  induction k using Xc<;>simp_all
 ·have:=h1 _ hn
  simp only[Qy,beq_iff_eq,bne_iff_ne,ne_eq] at this;exact this
 ·obtain⟨n,k⟩:=y
  cases e
  exact(hloc n hy).2
 ·obtain⟨n,k⟩:=y
  cases e
  have:=h1 _ hy;simp at this
 ·obtain⟨n,k⟩:=y
  cases e
  have:=hp _ hy
  simpa using this
end
section
noncomputable def gk(outer:Rb)(n:Qd)(k:Tj):Tj:=if(k == .free && outer.kind == .function && outer.names.lookup n == some .cell) then .cell else k
theorem lB(outer:Rb):∀{names:List (Qd × Tj)},(names.map λ(n,k)=>if(k == .free && outer.kind == .function && outer.names.lookup n == some .cell) then(n,WZ) else(n,k)).lookup y=some k'->∃k,names.lookup y=some k/\k'=gk outer y k:=by
 intro names;induction names with
 |nil=>
  intro h;exact bf h
 |cons pq r ih=>
  obtain⟨n,k⟩:=pq;intro h;have e:(if(k == .free && outer.kind == .function && outer.names.lookup n == some .cell)=true then(n,WZ) else(n,k))=(n,gk outer n k):=by
   unfold gk;split<;>rfl
  rw[RX] at h;dsimp only at h;rw[e,QN] at h;rw[QN];induction hy:y == n using PU with
  |true=>
   simp only[hy] at h;obtain rfl:=PG h;exact⟨k,rfl,by rw[beq_iff_eq.mp hy]⟩
  |false=>
   simp only[hy] at h;exact ih h
section
variable{c:WC}{s:PM}{m:Qd->Option Value}{as:List Addr}{M:Mem}{l:Loc}{sc:Rb}{x:Qd}{C:Addr}
theorem nG(ok:c.OK):relabel sc c.env=dZ c.cx.sc sc:=by
 unfold relabel dZ Rx;rw[ok.sc]
theorem Ic(ok:c.OK)(F:iM c.cx sc x)(h:Qk)(as:List Addr):(c.Es sc x C h as).OK where
 g:=ok.g
 call:=ok.call
 fr:=ok.fr
 a:=ok.a
 sc:=nG ok
 kind:=F.kind
 globals:=ok.globals
 builtins:=ok.builtins
 frame:=ok.frame
 glob:=ok.glob
 BC:=λb q=>by cases q
theorem oi(F:iM c.cx sc x)(h:(dZ c.cx.sc sc).names.lookup y=some .cell):(y,Rg)∈sc.names/\c.cx.sc.names.lookup y=some .cell:=by
 refine aT (lB c.cx.sc h) λk hk e=>?_;have hm:=mem_of_lookup hk;unfold gk at e;split at e
 ·rename_i q
  simp only[Qy,beq_iff_eq] at q;obtain⟨⟨rfl,_⟩,q⟩:=q;exact⟨hm,q⟩
 ·exact absurd e.symm (F.cells _ hm)
theorem sA(F:iM c.cx sc x)(hm:(y,Rg)∈sc.names)(hb:c.env.cells.lookup y=some b):(jo c.env.cells sc.names []).lookup y=some b:=
 lT (wL _ _ λp q=>by cases q) (Dq hb _ _ (.inl hm))
theorem H8(a:At c s m as M l)(F:iM c.cx sc x)(r1:aF c.G s.heap as v x1)(n1:s.heap.Ns C m')(hm:m' x=some x1)(h1:C∉as)(h2:C∉c.fr.fs):
  At (c.Es sc x C s.heap as) s m as M (l++[some v]):=by
 refine⟨a.inv,⟨?_,λy i w hy hw=>?_,λy hy=>?_,?_⟩,.refl⟩
 ·show(l++[some v]).length=c.cx.idx.length+1
  rw[PS,a.loc.len];rfl
 ·refine kr (Cx.er hy) λhd hix hk=>?_
  have hix:((x,c.cx.idx.length)::c.cx.idx).lookup y=some i:=hix;rw[QN] at hix;by_cases e:y=x
  ·subst e
   simp only[beq_self_eq_true] at hix;obtain rfl:=PG hix;rw[<- a.loc.len,Rj (PK _),TP] at hw;cases hw
   exact⟨x1,r1,.inl ⟨F.locs _ (mem_of_lookup F.hx) rfl,.inr ⟨h1,h2,m',n1,hm⟩⟩⟩
  ·have:(y == x)=false:=beq_eq_false_iff_ne.mpr e
   simp only[this] at hix;rcases hk with hk |hk
   ·refine aT (lB c.cx.sc hk) λk hk' e'=>?_
    unfold gk at e';split at e'
    ·cases e'
    ·subst e'
     rcases F.Pa y hk' with q |q
     ·exact absurd q e
     ·rw[q,F.dot] at hix;exact bf hix
   ·refine xA (oi F hk) λhmem hout=>?_
    have hlt:=F.idx y i hix;rw[T8 (by rw[a.loc.len];exact hlt)] at hw;have hloc:c.cx.loc y=some i:=by
     unfold Cx.loc;have hnd:HQ y=false:=hd;rw[hnd,hout];exact hix
    refine aT (a.loc.is y i w hloc hw) λval r N=>?_;refine⟨val,r,?_⟩;rcases N with⟨q,_⟩ |⟨q,b,hb,n2,n3,hv⟩
    ·rw[hout] at q;cases q
    ·exact .inr ⟨hk,b,sA F hmem hb,n2,n3,hv⟩
 ·refine xA (oi F hy) λhmem hout=>?_
  refine sd (a.loc.cell y hout) λb w h1 r=>?_;exact⟨b,w,sA F hmem h1,r⟩
 ·refine cY n1 λo _ _ e _=>?_
  show s.heap.get? C≠none;rw[e];exact λz=>by exact b8 z
end
end
section
theorem lr(n:h.Ns a m):(∀its,¬ Q3 h a its)/\h.get? a≠none:=⟨λits t=>kJ n t,by refine cY n λo _ _ e _=>?_;rw[e];exact λz=>by exact b8 z⟩
theorem gJ(e:h.get? a=some (listOf ys n)):(∀its,¬ Q3 h a its)/\h.get? a≠none:=⟨λits t=>(by
 refine j8 t λo e' c' _=>?_;rw[e] at e';obtain rfl:=PG e';have c2:UW "list" = UW "tuple":=c';exact absurd c2 (by decide)),(by rw[e];exact λz=>by exact b8 z)⟩
theorem uQ{h h':Qk}(n:h.Ns a m)(k:∀o,h.get? a=some o->h'.get? a=some o):h'.Ns a m:=let ⟨o,es,ep,e,r⟩:=n;⟨o,es,ep,k o e,r⟩
section
structure CB where
 c:WC
 m:Qd->Option Value
 l:Loc
 C:Addr
 D:Addr
 I:Addr
 own:List Addr
 it:It
 Il:Qk
 G5:List Addr
structure CB.OK (b:CB):Prop where
 ok:b.c.OK
 hD:b.Il.get? b.D=none
 hC:b.Il.get? b.C=none
 hI:∀a∈b.own,b.Il.get? a=none
 Do:b.D∉b.own
 Co:b.C∉b.own
 ne:b.C≠b.D
 it:(l6.one 0).ok b.it
structure CS (b:CB) (s:PM) (as:List Addr) (M:Mem) (k:Nat) (acc:List V) (ys:Array Value) (nD:Nat):Prop where
 a:At b.c s b.m as M b.l
 S:Step b.c.fr.fs [] b.Il b.G5 s.heap as
 R:bC b.c.G s.heap as b.it k b.I b.own
 OC:Own b.c s.heap as b.C
 OD:Own b.c s.heap as b.D
 O:∀a∈b.own,Own b.c s.heap as a
 hD:s.heap.get? b.D=some (listOf ys nD)
 r:aE b.c.G s.heap as acc ys.toList
 hN:∃m',s.heap.Ns b.C m'
def CompI(b:CB)(P:Nat->Nat->List V->Mem->Prop)(n:Nat)(s:PM):Prop:=∃as M k acc ys nD,CS b s as M k acc ys nD/\P n k acc M
variable{b:CB}{sc:Rb}{x:Qd}{s:PM}{as:List Addr}{M:Mem}{k:Nat}{acc:List V}{ys:Array Value}{nD:Nat}
theorem DT(st:b.OK)(cs:CS b s as M k acc ys nD)(hz:acc.length<=bh)(rv:aF b.c.G s.heap as v xv)(p:P n k (acc++[v]) M):
  P2 b.c.M A (call (.builtin "list.append") [.ref b.D,xv]) (λ_ s₅=>∃m₁,m₁ < n+1/\CompI b P m₁ s₅) E s:=by
 have hsz:ys.size=acc.length:=by rw[cs.r.length,P9]
 refine append_at cs.hD (λh' hs e=>?_) (by rw[hsz];exact kp hz);have kk:∀a o,a∉[b.D]->s.heap.get? a=some o->h'.get? a=some o:=cF hs;have O1:∀a∈[b.D],Own b.c s.heap as a:=λa q=>by rw[PL.mp q];exact cs.OD
 have nt':=gJ e;have T:Step b.c.fr.fs [b.D] s.heap as h' as:=Step.own (λa q=>(O1 a q).nt) (λa q=>by rw[PL.mp q];exact nt'.2) kk;have R':bC b.c.G h' as b.it k b.I b.own:=cs.R.step T λa q=>⟨(cs.O a q).as,(cs.O a q).fs,λz=>st.Do (PL.mp z ▸ q)⟩;refine xE cs.hN λm' hN=>?_;have N':h'.Ns b.C m':=uQ hN λo e=>kk b.C o (λz=>st.ne (PL.mp z)) e;exact⟨n,Qf n,as,M,k,acc++[v],ys.push xv,_,⟨cs.a.shift st.ok.fr O1 kk s.toks,cs.S.rL T (λa q=>by rw[PL.mp q];exact st.hD),R',cs.OC.next (lr N'),cs.OD.next nt',λa q=>(cs.O a q).next (R'.nt a q),e,by rw[V0];exact(cs.r.step T).append (.cons (rv.step T) .nil),_,N'⟩,p⟩
def Nt(b:CB)(sc:Rb)(x:Qd)(h2:Qk)(as:List Addr)(v:V)(k:Nat)(acc:List V)(ys:Array Value)(nD:Nat):Prop:=
 ∀s3 as3 M3,At (b.c.Es sc x b.C h2 as) s3 b.m as3 M3 (b.l++[some v])->Step b.c.fr.fs [] h2 as s3.heap as3->CS b s3 as3 M3 (k+1) acc ys nD
theorem zY(st:b.OK)(F:iM b.c.cx sc x)(cs:CS b s as M k acc ys nD)(hv:cS M b.it k=some (some v))(hQ:∀y s1,P2 b.c.M b.c.A (assign (.Name x px) (Vh sc (jo b.c.env.cells sc.names []) b.C b.c.env) y) B E1 s1->Q (some y) s1)(hB:∀s2,At (b.c.Es sc x b.C s2.heap as) s2 b.m as M (b.l++[some v])->Nt b sc x s2.heap as v k acc ys nD->B () s2):P2 b.c.M b.c.A (WU (.ref b.I)) Q E s:=by
 refine yr cs.a st.ok cs.R cs.O st.it hv λs1 x1 a1 S1 R1 O1 r1=>hQ _ _ ?_;have keep1:∀a,a∉b.own->Own b.c s.heap as a->∀o,s.heap.get? a=some o->s1.heap.get? a=some o:=λa hb Ob o e=>S1.keep a o e Ob.as Ob.fs hb;have hD1:=keep1 b.D st.Do cs.OD _ cs.hD;refine xE cs.hN λm' hN=>?_;have hN1:=uQ hN (keep1 b.C st.Co cs.OC);have OC1:Own b.c s1.heap as b.C:=cs.OC.next (lr hN1);have OD1:Own b.c s1.heap as b.D:=cs.OD.next (gJ hD1);refine So (U3 (env:=Vh sc (jo b.c.env.cells sc.names []) b.C b.c.env) (by show(relabel sc b.c.env).names.lookup x=some .local;rw[nG st.ok];exact F.locs _ (mem_of_lookup F.hx) rfl) hN1 (λh2 hN2 hs2=>?_) (by rw[show(Vh sc (jo b.c.env.cells sc.names []) b.C b.c.env).scope.kind = .function from F.kind];rfl));have k2:=cF hs2;have OC1':∀a∈[b.C],Own b.c s1.heap as a:=λa q=>by rw[PL.mp q];exact OC1
 have a2:=a1.shift st.ok.fr OC1' k2 (s1.toks+1);have T2:Step b.c.fr.fs [b.C] s1.heap as h2 as:=Step.own (λa q=>(OC1' a q).nt) (λa q=>by rw[PL.mp q];exact(lr hN2).2) k2;have R2:bC b.c.G h2 as b.it (k+1) b.I b.own:=R1.step T2 λa q=>⟨(O1 a q).as,(O1 a q).fs,λz=>st.Co (PL.mp z ▸ q)⟩;have hD2:=k2 b.D _ (λz=>st.ne (PL.mp z).symm) hD1;have S2:Step b.c.fr.fs [] b.Il b.G5 h2 as:=(cs.S.rL S1 st.hI).rL T2 λa q=>by rw[PL.mp q];exact st.hC
 have OC2:Own b.c h2 as b.C:=OC1.next (lr hN2);have OD2:Own b.c h2 as b.D:=OD1.next (gJ hD2);have OO2:∀a∈b.own,Own b.c h2 as a:=λa q=>(O1 a q).next (R2.nt a q);refine hB {s1 with heap:=h2,toks:=s1.toks+1} (H8 (s:={s1 with heap:=h2,toks:=s1.toks+1}) a2 F (r1.step T2) hN2 (if_pos rfl) OC2.as OC2.fs) λs3 as3 M3 a3 S3=>?_;have R3:=R2.step S3 λa q=>⟨(OO2 a q).as,(OO2 a q).fs,P6⟩;have hD3:=S3.keep b.D _ hD2 OD2.as OD2.fs P6;have hN3:=uQ hN2 λo e=>S3.keep b.C o e OC2.as OC2.fs P6;exact⟨a2.step a3.inv S3,S2.trans S3,R3,OC2.step S3.weaken (lr hN3),OD2.step S3.weaken (gJ hD3),λa q=>(OO2 a q).step S3.weaken (R3.nt a q),hD3,((cs.r.step S1).step T2).step S3,_,hN3⟩
theorem Ad(st:b.OK)(cs:CS b s as M k acc ys nD){s1:PM}(a1:At b.c s1 b.m as M b.l)(kk:∀a o,a∉b.own->s.heap.get? a=some o->s1.heap.get? a=some o):
  Step b.c.fr.fs [] b.Il b.G5 s1.heap as/\(∀a∈[b.C,b.D],Own b.c s1.heap as a)/\s1.heap.get? b.D=some (listOf ys nD)/\aE b.c.G s1.heap as acc ys.toList/\∃m',s1.heap.Ns b.C m':=by
 refine xE cs.hN λm' hN=>?_;have hD1:=kk b.D _ st.Do cs.hD;have hN1:=uQ hN (λo e=>kk b.C o st.Co e);refine⟨cs.S.off st.hI λa o q e=>kk a o q e,λa q=>?_,hD1,cs.r.iy λa its e n=>?_,_,hN1⟩
 ·rcases PJ.mp q with rfl |q
  ·exact cs.OC.next (lr hN1)
  ·rw[PL.mp q];exact cs.OD.next (gJ hD1)
 ·refine aT e λo e' r=>?_
  exact⟨o,kk a o (λq=>(cs.O a q).nt its e) e',r⟩
theorem Az{c:WC}(ok:c.OK){ifs:List Expr}{cond:Option MB}(hifs:(ifs=[]/\cond=none)\/∃te t,ifs=[te]/\cond=some t/\cC c.G c.cx te t){m:Qd->Option Value}{Y N:Mem->Prop}(a:At c s m as M l)(d:He cond c.call l M Y N c.X){Q:Bool->PM->Prop}(k:∀bb s3 M3 as3,At c s3 m as3 M3 l->Step c.fr.fs [] s.heap as s3.heap as3->(if bb=true then Y M3 else N M3)->Q bb s3):
  P2 c.M c.A (forIn ifs true λe r=>if r=true then do let ok <- isTrue e c.env (eval e c.env);pure (WA ok) else pure (WA r)) Q c.E s:=by
 rcases hifs with⟨rfl,rfl⟩ |⟨te,t,rfl,rfl,ht⟩
 ·exact wpAny_tests_nil (k _ _ _ _ a .refl d)
 ·exact wpAny_tests_one (ht c rfl rfl ok _ m as M _ _ _ a d λbb s3 M3 as3 a3 S3 d3=>k bb s3 M3 as3 a3 S3 d3)
variable{Qm:V->Mem->Prop}
theorem AW(st:b.OK)(F:iM b.c.cx sc x){px:Pos}{elt iter:Expr}{ifs:List Expr}{pos:Pos}{cond:Option MB}(helt:ar b.c.G (b.c.cx.inner sc x b.c.cx.idx.length) elt de)(hifs:(ifs=[]/\cond=none)\/∃te t,ifs=[te]/\cond=some t/\cC b.c.G (b.c.cx.inner sc x b.c.cx.idx.length) te t){R:Vb->PM->Prop}(hR:∀s as M acc ys nD m',At b.c s b.m as M b.l->Step b.c.fr.fs [] b.Il b.G5 s.heap as->(∀a∈[b.C,b.D],Own b.c s.heap as a)->s.heap.get? b.D=some (listOf ys nD)->aE b.c.G s.heap as acc ys.toList->s.heap.Ns b.C m'->bw M acc Qm->R (.ok .next) s)(n:Nat)(h:CompI b (λn k acc M=>dE b.c.call b.l de cond b.it (λ_=>False) n k acc M Qm) n s):
  Sl b.c.M b.c.A (.compLoop (.ListComp elt [⟨.Name x px,iter,ifs,0⟩] sc pos) 0 (.ref b.I) (.ref b.D) (Vh sc (jo b.c.env.cells sc.names []) b.C b.c.env)) R s:=by
 refine codeAny_compLoop_tests (CompI b (λn k acc M=>dE b.c.call b.l de cond b.it (λ_=>False) n k acc M Qm)) (λn s J=>?_) n h;refine j1 J λas M k acc ys nD cs d=>?_;induction n using P0 with
 |zero=>exact d.elim
 |succ n=>
  refine aT (bg d) λo hv d=>?_;induction o using Option.casesOn with
  |some v=>
   refine xA d λhz d=>?_;refine zY st F cs hv (λy s1 q=>q) λs2 a2 cB=>?_;have oki:(b.c.Es sc x b.C s2.heap as).OK:=Ic st.ok F s2.heap as;have lg:∀{α:Type}{t:Xa α}{Q:α->PM->Prop}{E:Value->PM->Prop}{s:PM},P2 b.c.M b.c.A t Q (b.c.Es sc x b.C s2.heap as).E s->P2 b.c.M b.c.A t Q E s:=λw=>
    wpAny_mono w (λ_ _ y=>y) λ_ _ e=>by refine gr e λ_ _ _ _ _ _ _ hX _=>?_;exact hX.elim
   refine lg (Az oki hifs a2 d λbb s3 M3 as3 a3 S3 d3=>?_);induction bb using PU with
   |true=>exact lg (helt (b.c.Es sc x b.C s2.heap as) rfl rfl oki _ b.m as3 M3 _ _ _ a3 d3 λy s4 M4 as4 xv a4 S4 rv d4=>DT st (cB _ _ _ a4 (S3.trans S4)) hz rv d4)
   |false=>exact⟨n,Qf n,as3,M3,k+1,acc,ys,nD,cB _ _ _ a3 S3,d3⟩
  |none=>
   refine yJ cs.a st.ok cs.R cs.O hv st.ok.a.handled λs1 a1 kk=>?_;exact Hz (Ad st cs a1 kk) λS O hD r hN=>hN.elim λm' hN=>hR s1 as M acc ys nD m' a1 S O hD r hN d
end
end
section
noncomputable def WC.base(c:WC)(h:Qk)(as:List Addr):WC:={c with h0:=h,eQ:=as,xs:=[]}
section
variable{c:WC}{s:PM}{m:Qd->Option Value}{as:List Addr}{M:Mem}{l:Loc}
theorem WC.OK.base(ok:c.OK)(h:Qk)(as:List Addr):(c.base h as).OK:=⟨ok.g,ok.call,ok.fr,ok.a,ok.sc,ok.kind,ok.globals,ok.builtins,ok.frame,ok.glob,λb q=>by cases q⟩
theorem At.base(a:At c s m as M l):At (c.base s.heap as) s m as M l:=⟨a.inv,⟨a.loc.len,a.loc.is,a.loc.cell,a.loc.here⟩,.refl⟩
theorem At.xy(a:At (c.base h eQ) s m as M l)(S:Step c.fr.fs c.xs c.h0 c.eQ h eQ):At c s m as M l:=⟨a.inv,⟨a.loc.len,a.loc.is,a.loc.cell,a.loc.here⟩,S.trans a.st.weaken⟩
theorem xM(a:At c s m as M l)(w:P2 c.M A t Q (c.base s.heap as).E s'):P2 c.M A t Q c.E s':=
 wpAny_mono w (λ_ _ x=>x) λ_ _ e=>Exc.mono a.st e
theorem Own.xy(ok:c.OK)(a:At c s m as M l)(O:Own (c.base s.heap as) h' as' b):Own c h' as' b:=⟨O.as,O.fs,λq=>a.st.cB b (ok.BC b q) O.h0,O.base,by
 induction q:c.h0.get? b using Option.casesOn with
 |none=>rfl
 |some o=>exact absurd O.h0 (a.st.cB b (by rw[q];exact λz=>by exact b8 z)),O.loc,O.cells,O.nt,O.here⟩
theorem F3{I:Nat}(R:bC G s.heap as it k I own)(h:Q (.ref I) s):P2 (model prog w) A (pyIter (.ref I)) Q E s:=by
 induction R using bC.casesOn with
 |lst m i=>exact wpAny_pyIter_listiter i h
 |tup t n z r i=>exact wpAny_pyIter_tupleiter i h
 |uu hk i=>exact wpAny_pyIter_rangeiter i h
 |kG m ne i j=>exact V5 i h
end
section
variable{c:WC}{sc:Rb}{x:Qd}
theorem mU(ok:c.OK)(F:iM c.cx sc x){px:Pos}{elt iter:Expr}{ifs:List Expr}{pos pos':Pos}{di:MI}{cond:Option MB}(hs:isSet iter=false)(hi:gn c.G c.cx iter di)(helt:ar c.G (c.cx.inner sc x c.cx.idx.length) elt de)(hifs:(ifs=[]/\cond=none)\/∃te t,ifs=[te]/\cond=some t/\cC c.G (c.cx.inner sc x c.cx.idx.length) te t){s:PM}{m:Qd->Option Value}{as:List Addr}{Qm:V->Mem->Prop}(a:At c s m as M l)(d:dP de di cond c.call l M Qm c.X){use:Option (Value->Xa Unit)}{Q:Value->PM->Prop}(post:∀C D s' as' M' acc ys nD m',At c s' m as' M' l->Step c.fr.fs [] s.heap as s'.heap as'->(∀b∈[C,D],Own c s'.heap as' b/\s.heap.get? b=none)->s'.heap.get? D=some (listOf ys nD)->aE c.G s'.heap as' acc ys.toList->s'.heap.Ns C m'->C≠D->bw M' acc Qm->
   compPost c.M c.A c.E use Q (.ref D) C (.ok .next) s'):
  P2 c.M c.A (comprehension (.ListComp elt [⟨.Name x px,iter,ifs,0⟩] sc pos) sc c.env pos' (newList []) false (eval iter c.env) use) Q c.E s:=by
 unfold dP at d;have hfree:∀n,(n,Rg)∈sc.names->∃b,c.env.cells.lookup n=some b:=λn hn=>by
  refine sd (a.loc.cell n (F.free n hn).1) λb _ h1 _=>?_;exact⟨b,h1⟩
 refine wpAny_comprehension_free (g:=⟨.Name x px,iter,ifs,0⟩) (gs:=[]) rfl (qi hs _) (xr hfree) F.kind F.pure ?_;refine wpAny_mono (hi (c.base s.heap as) rfl rfl (ok.base _ _) s m as M l _ _ a.base d λit I own s1 M1 as1 a1 S1 R1 O1 d1=>?_) (λ_ _ w=>xM a w) λ_ _ e=>Exc.mono a.st e;refine NS d1 λhok n d1=>?_;have hIn:∀b∈own,s.heap.get? b=none:=λb q=>(O1 b q).h0;have b1:At c s1 m as1 M1 l:=a1.xy a.st;have hDs:s1.heap.get? s1.heap.objs.size=none:=bL _;have hCs:s1.heap.get? (s1.heap.objs.size+1)=none:=by
  induction q:s1.heap.get? (s1.heap.objs.size+1) using Option.casesOn with
  |none=>rfl
  |some o=>exact absurd (Qw q) (UQ.mpr (P5 _))
 have old:∀b,s1.heap.get? b=none->s.heap.get? b=none:=λb e=>by
  induction q:s.heap.get? b using Option.casesOn with
  |none=>rfl
  |some o=>exact absurd e (S1.cB b (by rw[q];exact λz=>by exact b8 z))
 refine Ta (hd:=by size_fits) (wpAny_newFunctionEnv F.cells (by intro y hy;simp at hy) (λh2 hN2 hs2=>?_) F.kind);dsimp only at hN2 hs2 |-;have hsz:(s1.heap.push {cls:=.type "list",dict:=none,data:=.seq ([]:List Value).toArray}).objs.size=s1.heap.objs.size+1:=Ve ..;rw[hsz] at hN2 hs2 |-;have k2:∀b o,s1.heap.get? b=some o->h2.get? b=some o:=λb o e=>(hs2.2 b (λq=>by rw[q,hCs] at e;exact bf e)).trans (PY _ (PY _ e));have hD2:h2.get? s1.heap.objs.size=some (listOf #[] 0):=(hs2.2 _ (Te (Qf _))).trans (PY _ (QD _ rfl));refine xA (b1.grown k2 s1.toks) λa2 S2=>?_;have R2:bC c.G h2 as1 it 0 I own:=R1.step S2 λb q=>⟨(O1 b q).as,(O1 b q).fs,P6⟩;have hown:∀b∈own,s1.heap.get? b≠none:=λb q=>(O1 b q).here;let b:CB:=⟨c,m,l,s1.heap.objs.size+1,s1.heap.objs.size,I,own,it,s.heap,as⟩;have st:b.OK:=⟨ok,old _ hDs,old _ hCs,hIn,λq=>hown _ q hDs,λq=>hown _ q hCs,R5 _,hok⟩;have hI:CompI b (λn k acc M=>dE c.call l de cond it (λ_=>False) n k acc M Qm) n {s1 with heap:=h2,toks:=s1.toks}:=
  ⟨as1,M1,0,[],#[],0,⟨a2,S1.trans S2,R2,Own.fresh b1 ok hCs (lr hN2),Own.fresh b1 ok hDs (gJ hD2),λa q=>((O1 a q).xy ok ‹At c s m as M l›).next (R2.nt a q),hD2,.nil,_,hN2⟩,d1⟩
 have loop:Sl c.M c.A (.compLoop (.ListComp elt [⟨.Name x px,iter,ifs,0⟩] sc pos) 0 (.ref I) (.ref s1.heap.objs.size) (Vh sc (jo c.env.cells sc.names []) (s1.heap.objs.size+1) c.env)) (compPost c.M c.A c.E use Q (.ref s1.heap.objs.size) (s1.heap.objs.size+1)) {s1 with heap:=h2,toks:=s1.toks}:=by
  refine AW (b:=b) (Qm:=Qm) st F helt hifs (λs' as' M' acc ys nD m' a' S' O' hD' r' hN' al=>?_) n hI;exact post _ _ s' as' M' acc ys nD m' a' S' (λb q=>⟨O' b q,by
   rcases PJ.mp q with rfl |q
   ·exact old _ hCs
   ·rw[PL.mp q];exact old _ hDs⟩) hD' r' hN' (R5 _) al
 exact codeAny_compStart_list loop (F3 R2 loop)
theorem ar.comp{G:GX}{cx:Cx}(F:iM cx sc x){px:Pos}{elt iter:Expr}{ifs:List Expr}{pos:Pos}{di:MI}{cond:Option MB}(hs:isSet iter=false)(hi:gn G cx iter di)(helt:ar G (cx.inner sc x cx.idx.length) elt de)(hifs:(ifs=[]/\cond=none)\/∃te t,ifs=[te]/\cond=some t/\cC G (cx.inner sc x cx.idx.length) te t):ar G cx (.ListComp elt [⟨.Name x px,iter,ifs,0⟩] sc pos) (dP de di cond):=by
 intro c hG hcx ok s m as M l Qm Qr a d k;subst hG hcx;rw[eval_ListComp];refine mU (use:=none) ok F hs hi helt hifs a d λC D s' as' M' acc ys nD m' a' S' O' hD' r' hN' hCD al=>⟨m',hN',λh' hs'=>?_⟩;have k2:=cF hs';have OC:∀b∈[C],Own c s'.heap as' b:=λb q=>(O' b (by rw[PL.mp q];exact .head _)).1;refine xA (O' D (.tail _ (.head _))) λOD hDn=>?_;have a2:=a'.shift ok.fr OC k2 s'.toks;have hD2:=k2 D _ (λq=>hCD (PL.mp q).symm) hD';have ht:∀a its,Q3 s'.heap a its->a∉as'->Q3 h' a its:=λa its e n=>mL hs' (λq=>kJ (q ▸ hN') e) e;have r2:=r'.iy ht;have hz:ys.size<=bh+1:=by rw[<- P9,<- r'.length];exact Q0 al.1
 have OD2:Own c h' as' D:=OD.next (gJ hD2);refine xA (At.adopt (s:={s' with heap:=h',toks:=s'.toks}) a2 OD2 hD2 hz r2) λhM a3=>?_;have S2:Step c.fr.fs [] s.heap as h' as':=S'.off (λb q=>(O' b (by rw[PL.mp q];exact .head _)).2) k2;exact k _ _ _ _ _ a3 (S2.adopt hDn) (.lst (.head _)) (al.2 D hM)
end
end
section
theorem nW(elt:Expr)(gens:List VA)(sc:Rb)(pos np:Pos)(y:Qd)(line:Nat)(env:Vs):∃b,Wl (.ListComp elt gens sc pos) (some (.Name y np)) line env=pure b:=⟨_,rfl⟩
theorem aW.ya{G:GX}{cx:Cx}{sc:Rb}{x y:Qd}(F:iM cx sc x){px np:Pos}{elt iter:Expr}{ifs:List Expr}{pos spos:Pos}{di:MI}{de:ME}{cond:Option MB}{i:Nat}(hy:cx.loc y=some i)(hs:isSet iter=false)(hi:gn G cx iter di)(helt:ar G (cx.inner sc x cx.idx.length) elt de)(hifs:(ifs=[]/\cond=none)\/∃te t,ifs=[te]/\cond=some t/\cC G (cx.inner sc x cx.idx.length) te t):
  aW G cx (exec (.Assign [.Name y np] (.ListComp elt [⟨.Name x px,iter,ifs,0⟩] sc pos) spos)) (aV i (dP de di cond)):=by
 intro c hG hcx ok so s m as M l Qm Qr a dd k;refine xE (nW elt [⟨.Name x px,iter,ifs,0⟩] sc pos np y spos.line c.env) λb hb=>?_;induction b using PU with
 |false=>
  have he:ar G cx (.ListComp elt [⟨.Name x px,iter,ifs,0⟩] sc pos) (dP de di cond):=ar.comp F hs hi helt hifs;subst hG hcx;exact Th (he c rfl rfl ok s m as M l _ _ a dd λv s1 M1 as1 x a1 S1 r1 q=>bG ok so a1 hy r1 λs2 m2 a2 _=>k _ _ _ _ _ _ _ a2 .next q) hb
 |true=>
  subst hG hcx;rw[exec_Assign_Name_used _ _ _ _ hb];refine wpAny_bind (wpAny_standAt (wpAny_bind ?_));show P2 c.M c.A (do let _ <- comprehension (.ListComp elt [⟨.Name x px,iter,ifs,0⟩] sc pos) sc c.env _ (newList []) false (eval iter c.env) (some (assign (.Name y np) c.env))) _ _ s;refine wpAny_bind (wpAny_mono (Q:=λ_ s'=>Qr .next s') (mU (use:=some (assign (.Name y np) c.env)) ok F hs hi helt hifs a dd λC D s' as' M' acc ys nD m' a' S' O' hD' r' hN' hCD al=>?_) (λ_ s' hq=>wpAny_pure (wpAny_pure hq)) λ_ _ e=>e);refine xA (O' C (.head _)) λOC hCn=>?_;refine xA (O' D (.tail _ (.head _))) λOD hDn=>?_;have hz:ys.size<=bh+1:=by rw[<- P9,<- r'.length];exact Q0 al.1
  refine xA (a'.adopt OD hD' hz r') λhM aD=>?_;have OC1:Own c s'.heap (D::as') C:=OC.adopt hCD;refine So (bG ok so aD hy (.lst (.head _)) λs2 m2 a2 S2=>?_);have hN2:=uQ hN' λo e=>S2.keep C o e OC1.as OC1.fs OC1.xs;refine⟨m',hN2,λh' hs'=>?_⟩;have OC2:∀b∈[C],Own c s2.heap (D::as') b:=λb q=>by rw[PL.mp q];exact OC1.step S2 (lr hN2)
  have a3:=a2.shift ok.fr OC2 (cF hs') s2.toks;exact k _ _ _ _ _ _ _ a3 .next (al.2 D hM)
end
section
theorem km(e:Expr)(h:isStar e=true):eB n cx e=bH:=by
 induction e using PW
 case Starred=>induction n using P0<;>rfl
 all_goals exact no h
theorem lS.bad:lS G cx e (Option.some bH):=λ_ _ _ _ _ _ _ _ _ _ _ _ h _=>h.elim
theorem dD(h:(s == PR t)=true):s=PR t:=beq_iff_eq.mp h
theorem iY(h:vI cx sc x iter=true):iM cx sc x/\isSet iter=false:=
 have h:=QV.mp h;have h1:=QV.mp h.1
 ⟨DH h1.1 h1.2,(V6 _).mp h.2⟩
theorem aR{α:Type}{p:α->Prop}{b:Bool}{x y:α}(h1:b=true->p x)(h0:b=false->p y):p (if b then x else y):=by
 induction b using PU
 ·exact h0 rfl
 ·exact h1 rfl
theorem Bl(h:Hg c=true):c = .none:=by
 induction c using TK
 case none=>rfl
 all_goals exact no h
theorem jB(h:rh e=true):∃k p,e = .Constant .none k p:=by
 induction e using PW
 case Constant c k p=>exact⟨k,p,by rw[Bl h]⟩
 all_goals exact no h
theorem Fe(h:L6 c=true):c = .int 1:=by
 induction c using TK
 case int i=>rw[beq_iff_eq.mp (h:(i == 1)=true)]
 all_goals exact no h
theorem A3(h:BD e=true):∃k p,e = .Constant (.int 1) k p:=by
 induction e using PW
 case Constant c k p=>exact⟨k,p,by rw[Fe h]⟩
 all_goals exact no h
theorem GV(h:Kl e=true):∃k p q,e = .UnaryOp .USub (.Constant (.int 1) k p) q:=by
 induction e using PW
 case UnaryOp op e q=>
  have h:=QV.mp h
  (refine vY (A3 h.2) λk p q2q=>?_;obtain rfl:=q2q)
  exact⟨k,p,q,by rw[beq_iff_eq.mp h.1]⟩
 all_goals exact no h
theorem yZ(h:E3 o=some b):o=if b then .Is else .IsNot:=by
 induction o using Vt
 case Is=>obtain rfl:=PG h;rfl
 case IsNot=>obtain rfl:=PG h;rfl
 all_goals exact nX h
structure Sound (G:GX) (n:Nat):Prop where
 e:∀cx e,ar G cx e (eB n cx e)
 o:∀cx e,lS G cx e (JR n cx e)
 b:∀cx e,cC G cx e (Eg n cx e)
 i:∀cx e,gn G cx e (I0 n cx e)
section
variable{G:GX}{n:Nat}
theorem uP{args:List Expr}(h:args.any isStar=false):∀e∈args,isStar e=false:=any_false h
theorem nonempty(h:l.isEmpty=false):l≠[]:=λq=>by rw[q] at h;exact jr h
theorem tL:ar G cx (.Constant c k pos) (yH c):=by
 induction c using TK
 case int=>exact .MW
 case none=>exact .KO
 case bool=>exact .Lk
 case str=>
  refine aR (p:=λd=>ar G cx _ d) (λh=>?_) λ_=>aR (p:=λd=>ar G cx _ d) (λh=>?_) λ_=>.bad
  ·rw[dD h];exact .L7
  ·rw[dD h];exact .L7
 all_goals exact .bad
theorem wR(S:Sound G n)(hst:∀e∈args,isStar e=false)(hb:eF o=false)(hl:(p.endLine == pos.line)=true):
  ar G cx (.Call (.Attribute o a p) args [] pos) (C7 (eB n cx) (eB n cx o) a args):=by
 match args with
 |[]=>
  refine aR (p:=λd=>ar G cx _ d) (λh=>?_) λ_=>aR (p:=λd=>ar G cx _ d) (λh=>?_) λ_=>aR (p:=λd=>ar G cx _ d) (λh=>?_) λ_=>.bad
  ·rw[dD h];exact .pop hb hl (S.e cx o)
  ·rw[dD h];exact .FI (by simp) hb hl (S.e cx o)
  ·rw[dD h];exact .FI (by simp) hb hl (S.e cx o)
 |[x]=>
  refine aR (p:=λd=>ar G cx _ d) (λh=>?_) λ_=>aR (p:=λd=>ar G cx _ d) (λh=>?_) λ_=>.bad
  ·rw[dD h];exact .append hb hl (hst x (.head _)) (S.e cx o) (S.e cx x)
  ·rw[dD h];exact .extend hb hl (hst x (.head _)) (S.e cx o) (S.e cx x)
 |_::_::_=>exact .bad
theorem zN(S:Sound G n)(hst:∀e∈args,isStar e=false):ar G cx (.Call (.Name f np) args [] pos) (Hl cx (eB n cx) f args):=by
 match args with
 |[x]=>
  have hx:=hst x (.head _);exact aR (p:=λd=>ar G cx _ d) (λh=>.len h hx (S.e cx x)) λ_=>aR (p:=λd=>ar G cx _ d) (λh=>.any h hx (S.e cx x)) λ_=>
   aR (p:=λd=>ar G cx _ d) (λh=>.Mp h hx (S.e cx x)) λ_=>aR (p:=λd=>ar G cx _ d) (λh=>.listOf h hx (S.e cx x)) λ_=>
   aR (p:=λd=>ar G cx _ d) (λh=>.intOf h hx (S.e cx x)) λ_=>.bad
 |[x,y]=>exact aR (p:=λd=>ar G cx _ d) (λh=>.min h (hst x (.head _)) (hst y (.tail _ (.head _))) (S.e cx x) (S.e cx y)) λ_=>.bad
 |[]=>exact .bad
 |_::_::_::_=>exact .bad
theorem Bw(S:Sound G n)(hst:∀e∈args,isStar e=false):ar G cx (.Call (.Name f np) args [] pos) (I6 cx (eB n cx) f args):=by
 unfold I6;induction hk:cx.gl f using Option.casesOn with
 |none=>exact zN S hst
 |some v=>
  refine aR (p:=λd=>ar G cx _ d) (λ_=>.bad) λhne=>?_;have hne:=nonempty hne;induction v using V.casesOn
  case fn k=>exact .call km hne hst hk λe _=>S.e cx e
  case obj k=>induction k using P0 with
   |zero=>exact Ej km hne hst hk λe _=>S.e cx e
   |succ k=>exact .bad
  all_goals exact .bad
theorem xT(S:Sound G n)(cx:Cx)(f:Expr)(args:List Expr)(pos:Pos):ar G cx (.Call f args [] pos) (Cp cx (eB n cx) f args pos):=by
 refine aR (p:=λd=>ar G cx _ d) (λ_=>.bad) λhst=>?_;have hst':=uP hst;induction f using PW
 case Attribute o a ap=>
  refine aR (p:=λd=>ar G cx _ d) (λ_=>.bad) λhb=>?_;have hb:=Su.mp hb;exact wR S hst' hb.1 ((VS _).mp hb.2)
 case Name f np=>exact Bw S hst'
 case Subscript v i p=>exact aR (p:=λd=>ar G cx _ d) (λ_=>.bad) λhne=>.Ly km (nonempty hne) hst' (S.e cx _) λe _=>S.e cx e
 all_goals exact .bad
theorem xO(S:Sound G n)(cx:Cx)(v:Expr)(a:Qd)(pos:Pos):ar G cx (.Attribute v a pos) (DP v (eB n cx v) a):=by
 refine aR (p:=λd=>ar G cx _ d) (λ_=>.bad) λhb=>aR (p:=λd=>ar G cx _ d) (λh=>?_) λ_=>aR (p:=λd=>ar G cx _ d) (λh=>?_) λ_=>aR (p:=λd=>ar G cx _ d) (λh=>?_) λ_=>aR (p:=λd=>ar G cx _ d) (λh=>?_) λ_=>.bad
 ·rw[dD h];exact ar.attr (f:=.plain) hb (S.e cx v)
 ·rw[dD h];exact ar.attr (f:=.first) hb (S.e cx v)
 ·rw[dD h];exact ar.attr (f:=.second) hb (S.e cx v)
 ·rw[dD h];exact .prop hb (S.e cx v)
theorem zQ(S:Sound G n)(cx:Cx)(l:Expr)(ops:List Vy)(cs:List Expr)(pos:Pos):ar G cx (.Compare l ops cs pos) (yQ bH fA mW (eB n cx) l ops cs):=by
 match ops,cs with
 |[o],[r]=>
  show ar G cx _ (mj bH fA mW (eB n cx) l r o);unfold mj;induction ho:E3 o using Option.casesOn with
  |none=>
   refine aR (p:=λd=>ar G cx _ d) (λ_=>.bad) λhs=>?_;induction ho:eu o using Option.casesOn with
   |none=>exact .bad
   |some o'=>exact .cmp hs ho (S.e cx l) (S.e cx r)
  |some b=>
   refine aR (p:=λd=>ar G cx _ d) (λh=>?_) λ_=>.bad
   (refine vY (jB h) λk p q2q=>?_;obtain rfl:=q2q)
   rw[yZ ho];induction b using PU
   ·exact .isSome (S.e cx l)
   ·exact .isNone (S.e cx l)
 |[o1,o2],[a,b]=>
  refine aR (p:=λd=>ar G cx _ d) (λ_=>.bad) λhs=>?_;induction h1:eu o1 using Option.casesOn with
  |none=>exact .bad
  |some q1=>induction h2:eu o2 using Option.casesOn with
   |none=>exact .bad
   |some q2=>exact .Jz hs h1 h2 (S.e cx l) (S.e cx a) (S.e cx b)
 |[],_=>exact .bad
 |[_],[]=>exact .bad
 |[_],_::_::_=>exact .bad
 |[_,_],[]=>exact .bad
 |[_,_],[_]=>exact .bad
 |[_,_],_::_::_::_=>exact .bad
 |_::_::_::_,_=>exact .bad
theorem vG(S:Sound G n)(cx:Cx)(l:Expr)(ops:List Vy)(cs:List Expr)(pos:Pos):cC G cx (.Compare l ops cs pos) (yQ Aq aq id (eB n cx) l ops cs):=by
 match ops,cs with
 |[o],[r]=>
  show cC G cx _ (mj Aq aq id (eB n cx) l r o);unfold mj;induction ho:E3 o using Option.casesOn with
  |none=>
   refine aR (p:=λd=>cC G cx _ d) (λ_=>.bad) λhs=>?_;induction ho:eu o using Option.casesOn with
   |none=>exact .bad
   |some o'=>exact .cmp hs ho (S.e cx l) (S.e cx r)
  |some b=>
   refine aR (p:=λd=>cC G cx _ d) (λh=>?_) λ_=>.bad
   (refine vY (jB h) λk p q2q=>?_;obtain rfl:=q2q)
   rw[yZ ho];induction b using PU
   ·exact .isSome (S.e cx l)
   ·exact .isNone (S.e cx l)
 |[o1,o2],[a,b]=>
  refine aR (p:=λd=>cC G cx _ d) (λ_=>.bad) λhs=>?_;induction h1:eu o1 using Option.casesOn with
  |none=>exact .bad
  |some q1=>induction h2:eu o2 using Option.casesOn with
   |none=>exact .bad
   |some q2=>exact .Jz hs h1 h2 (S.e cx l) (S.e cx a) (S.e cx b)
 |[],_=>exact .bad
 |[_],[]=>exact .bad
 |[_],_::_::_=>exact .bad
 |[_,_],[]=>exact .bad
 |[_,_],[_]=>exact .bad
 |[_,_],_::_::_::_=>exact .bad
 |_::_::_::_,_=>exact .bad
theorem Dk(S:Sound G n)(cx:Cx)(v:Expr)(lo hi st:Option Expr)(p pos:Pos):ar G cx (.Subscript v (.Slice lo hi st p) pos) (LB (eB n cx v) (JR n cx) lo hi st):=by
 induction st using Option.casesOn with
 |none=>exact .slice (S.e cx v) (S.o cx _) (S.o cx _)
 |some s=>
  refine aR (p:=λd=>ar G cx _ d) (λh=>?_) λ_=>.bad;have h:=QV.mp h;have h1:=QV.mp h.1
  (refine og (GV h1.1) λk p q q3q=>?_;obtain rfl:=q3q)
  induction lo using Option.casesOn with
  |some x=>exact cy h1.2
  |none=>induction hi using Option.casesOn with
   |some x=>exact cy h.2
   |none=>exact .rev (S.e cx v)
theorem AL(S:Sound G n)(cx:Cx)(v i:Expr)(pos:Pos):ar G cx (.Subscript v i pos) (HJ (eB n cx) (JR n cx) v i):=by
 induction i using PW
 case Slice lo hi st p=>exact Dk S cx v lo hi st p pos
 all_goals exact .index (S.e cx v) (S.e cx _)
theorem wN(S:Sound G n)(cx:Cx)(elt:Expr)(gens:List VA)(sc:Rb)(pos:Pos):ar G cx (.ListComp elt gens sc pos) (xR cx (eB n) (Eg n) (I0 n cx) elt sc gens):=by
 match gens with
 |[⟨t,iter,ifs,k⟩]=>
  refine aR (p:=λd=>ar G cx _ d) (λh=>?_) λ_=>.bad;obtain rfl:k=0:=beq_iff_eq.mp h;induction t using PW
  case Name x px=>
   match ifs with
   |[]=>
    refine aR (p:=λd=>ar G cx _ d) (λh=>?_) λ_=>.bad;refine xA (iY h) λF hs=>?_;exact ar.comp F hs (S.i cx _) (S.e _ elt) (.inl ⟨rfl,rfl⟩)
   |[t]=>
    refine aR (p:=λd=>ar G cx _ d) (λh=>?_) λ_=>.bad;refine xA (iY h) λF hs=>?_;exact ar.comp F hs (S.i cx _) (S.e _ elt) (.inr ⟨_,_,rfl,rfl,S.b _ _⟩)
   |_::_::_=>exact .bad
  all_goals exact .bad
 |[]=>exact .bad
 |⟨_,_,_,_⟩::_::_=>exact .bad
theorem EF(S:Sound G n)(cx:Cx)(e:Expr):ar G cx e (eB (n+1) cx e):=by
 induction e using PW
 case Call f args kws pos=>
  induction kws using PI with
  |nil=>exact xT S cx f args pos
  |cons k r=>exact .bad
 case Attribute v a pos=>exact xO S cx v a pos
 case Constant c k pos=>exact tL
 case Name x pos=>exact .name
 case BinOp l op r pos=>
  show ar G cx _ (BJ op _ _);unfold BJ;induction ho:lu op using Option.casesOn with
  |none=>exact .bad
  |some o=>exact .bin ho (S.e cx l) (S.e cx r)
 case UnaryOp op x pos=>
  induction op using Tq
  case USub=>exact .neg (S.e cx x)
  case Not=>exact .not (S.e cx x)
  all_goals exact .bad
 case BoolOp op vs pos=>
  induction op using Vi
  case And=>exact .yR λe _=>S.e cx e
  case Or=>exact .DS λe _=>S.e cx e
 case IfExp t a b pos=>exact .ite (S.b cx t) (S.e cx a) (S.e cx b)
 case Tuple es k pos=>exact .tup km λe _=>S.e cx e
 case List es pos=>exact .list km λe _=>S.e cx e
 case Compare l ops cs pos=>exact zQ S cx l ops cs pos
 case Subscript v i pos=>exact AL S cx v i pos
 case ListComp elt gens sc pos=>exact wN S cx elt gens sc pos
 case Dict ks vs pos=>match ks,vs with
  |[],[]=>exact .dict
  |_::_,_=>exact .bad
  |[],_::_=>exact .bad
 all_goals exact .bad
theorem E0(S:Sound G n)(cx:Cx)(e:Expr):cC G cx e (Eg (n+1) cx e):=by
 induction e using PW
 case UnaryOp op x p=>
  induction op using Tq
  case Not=>exact .not (S.b cx _)
  all_goals exact .of rfl (S.e cx _)
 case BoolOp op vs p=>
  induction op using Vi
  case And=>exact .and λe _=>S.b cx e
  case Or=>exact .or λe _=>S.b cx e
 case IfExp=>exact .bad
 case Compare l ops cs p=>exact vG S cx l ops cs p
 all_goals exact .of rfl (S.e cx _)
theorem C6(S:Sound G n)(cx:Cx)(f:Expr)(xs:List Expr)(q:Pos):gn G cx (.Call f xs [] q) (K8 cx (eB n cx) (.Call f xs [] q) f xs):=by
 match xs with
 |[x]=>
  induction f using PW
  case Name f p=>
   refine aR (p:=λd=>gn G cx _ d) (λ_=>.bad) λhs=>?_;induction cx.gl f using Option.casesOn with
   |some v=>exact .of (S.e cx _)
   |none=>exact aR (p:=λd=>gn G cx _ d) (λh=>.range h hs (S.e cx _)) λ_=>aR (p:=λd=>gn G cx _ d) (λh=>.enum h hs (S.e cx _)) λ_=>.of (S.e cx _)
  all_goals exact .of (S.e cx _)
 |[]=>exact .of (S.e cx _)
 |_::_::_=>exact .of (S.e cx _)
theorem G4(S:Sound G n)(cx:Cx)(e:Expr):gn G cx e (I0 (n+1) cx e):=by
 induction e using PW
 case Call f xs kws q=>
  induction kws using PI with
  |nil=>exact C6 S cx f xs q
  |cons k r=>exact .of (S.e cx _)
 all_goals exact .of (S.e cx _)
theorem FP(S:Sound G n)(cx:Cx)(e:Option Expr):lS G cx e (JR (n+1) cx e):=by
 induction e using Option.casesOn with
 |none=>exact .none
 |some e=>exact .some (S.e cx _)
end
theorem sound(G:GX):∀n,Sound G n
 |0=>⟨λ_ _=>.bad,λ_ _=>.bad,λ_ _=>.bad,λ_ _=>.bad⟩
 |n+1=>⟨EF (sound G n),FP (sound G n),E0 (sound G n),G4 (sound G n)⟩
end
section
structure gZ (G:GX):Prop where
 raise:∀cx x y p1 p2 p3 pos s,cx.gl x=some (.obj 1)->cx.gl y=some (.str s)->aW G cx (exec (.Raise (some (.Call (.Name x p1) [.Name y p2] [] p3)) none pos)) qJ
 Oa:∀cx y np e ap x p1 k p3 p4 p2 pos i de,cx.gl x=some (.obj 1)->cx.loc y=some i->gQ e=false->ar G cx e de->
  aW G cx (exec (.Try [.Assign [.Name y np] e ap] [.ExceptHandler (some (.Name x p1)) none [.Return (some (.Constant .none k p3)) p4] p2] [] [] pos)) (Fp (aV i de) (aL (aa .none)))
structure qB (G:GX) (n:Nat):Prop where
 s:∀cx st,aW G cx (exec st) (Nw n cx st)
 ss:∀cx b,aW G cx (execs b) (uk n cx b)
section
variable{G:GX}{n:Nat}
theorem FH(h:gQ e=true):eB n cx e=bH\/∃elt gens sc pos,e = .ListComp elt gens sc pos:=by
 induction e using PW
 case ListComp=>exact .inr ⟨_,_,_,_,rfl⟩
 case SetComp=>exact .inl (by generalize n=z9;induction z9 using P0<;>rfl)
 case DictComp=>exact .inl (by generalize n=z9;induction z9 using P0<;>rfl)
 all_goals exact no h
theorem aW.gy{cx:Cx}{run:Vs->Xa Xg}{i:Nat}:aW G cx run (aV i bH):=λ_ _ _ _ _ _ _ _ _ _ _ _ _ h _=>h.elim
theorem oR(cx:Cx)(y:Qd)(np:Pos)(i:Nat)(hy:cx.loc y=some i)(elt:Expr)(gens:List VA)(sc:Rb)(pos spos:Pos):
  aW G cx (exec (.Assign [.Name y np] (.ListComp elt gens sc pos) spos)) (aV i (eB n cx (.ListComp elt gens sc pos))):=by
 induction n using P0 with
 |zero=>exact .gy
 |succ n=>
  have S:=sound G n;show aW G cx _ (aV i (xR cx (eB n) (Eg n) (I0 n cx) elt sc gens))
  match gens with
  |[⟨t,iter,ifs,k⟩]=>
   refine aR (p:=λd=>aW G cx _ (aV i d)) (λh=>?_) λ_=>.gy;obtain rfl:k=0:=beq_iff_eq.mp h;induction t using PW
   case Name x px=>
    match ifs with
    |[]=>
     refine aR (p:=λd=>aW G cx _ (aV i d)) (λh=>?_) λ_=>.gy;refine xA (iY h) λF hs=>?_;exact aW.ya F hy hs (S.i cx _) (S.e _ elt) (.inl ⟨rfl,rfl⟩)
    |[t]=>
     refine aR (p:=λd=>aW G cx _ (aV i d)) (λh=>?_) λ_=>.gy;refine xA (iY h) λF hs=>?_;exact aW.ya F hy hs (S.i cx _) (S.e _ elt) (.inr ⟨_,_,rfl,rfl,S.b _ _⟩)
    |_::_::_=>exact .gy
   all_goals exact .gy
  |[]=>exact .gy
  |⟨_,_,_,_⟩::_::_=>exact .gy
theorem AD(cx:Cx)(y:Qd)(np:Pos)(i:Nat)(hy:cx.loc y=some i)(e:Expr)(spos:Pos):aW G cx (exec (.Assign [.Name y np] e spos)) (aV i (eB n cx e)):=by
 induction hc:gQ e using PU with
 |false=>exact .set hc hy ((sound G n).e cx e)
 |true=>
  rcases FH (n:=n) (cx:=cx) hc with h |⟨elt,gens,sc,pos,rfl⟩
  ·rw[h];exact .gy
  ·exact oR cx y np i hy elt gens sc pos spos
theorem xt(cx:Cx)(t v:Expr)(pos:Pos):aW G cx (exec (.Assign [t] v pos)) (CV cx (eB n cx) (JR n cx) v t):=by
 have S:=sound G n;induction t using PW
 case Name x np=>
  show aW G cx _ (match cx.loc x with |some i=>aV i (eB n cx v) |none=>cQ)
  induction hi:cx.loc x using Option.casesOn with
  |none=>exact .bad
  |some i=>exact AD cx x np i hi v pos
 case Tuple ts k p=>
  show aW G cx _ (match idxs cx ts,jj cx ts v with |some is,some _=>bu is (eB n cx v) |_,_=>cQ)
  induction hi:idxs cx ts using Option.casesOn with
  |none=>exact .bad
  |some is=>induction hw:jj cx ts v using Option.casesOn with
   |none=>exact .bad
   |some r=>exact .Jf hi hw (S.e cx _)
 case Attribute o a p=>
  refine aR (p:=λd=>aW G cx _ d) (λh=>?_) λ_=>aR (p:=λd=>aW G cx _ d) (λh=>?_) λ_=>aR (p:=λd=>aW G cx _ d) (λh=>?_) λ_=>.bad
  ·rw[dD h];exact aW.setAttr (f:=.plain) (S.e cx _) (S.e cx _)
  ·rw[dD h];exact aW.setAttr (f:=.first) (S.e cx _) (S.e cx _)
  ·rw[dD h];exact aW.setAttr (f:=.second) (S.e cx _) (S.e cx _)
 case Subscript o i p=>
  induction i using PW
  case Slice lo hi st p=>
   induction st using Option.casesOn with
   |none=>exact .BQ (S.e cx _) (S.o cx _) (S.o cx _) (S.e cx _)
   |some s=>exact .bad
  all_goals exact .setItem (S.e cx _) (S.e cx _) (S.e cx _)
 all_goals exact .bad
theorem yU(h:H7 cx e=true):∃x p,e = .Name x p/\cx.gl x=some (.obj 1):=by
 induction e using PW
 case Name x p=>
  refine⟨x,p,rfl,?_⟩;replace h:(match cx.gl x with |some (.obj k)=>k == 1 |_=>false)=true:=h
  induction hg:cx.gl x using Option.casesOn with
  |none=>rw[hg] at h;exact cy h
  |some v=>
   rw[hg] at h;induction v using V.casesOn
   case obj k=>rw[beq_iff_eq.mp h]
   all_goals exact no h
 all_goals exact no h
theorem EV(h:strN cx e=true):∃x p s,e = .Name x p/\cx.gl x=some (.str s):=by
 induction e using PW
 case Name x p=>
  replace h:(match cx.gl x with |some (.str _)=>true |_=>false)=true:=h
  induction hg:cx.gl x using Option.casesOn with
  |none=>rw[hg] at h;exact cy h
  |some v=>
   rw[hg] at h;induction v using V.casesOn
   case str s=>exact⟨x,p,s,rfl,hg⟩
   all_goals exact no h
 all_goals exact no h
theorem tF(R:gZ G)(cx:Cx)(e c:Option Expr)(pos:Pos):aW G cx (exec (.Raise e c pos)) (yE cx e c):=by
 induction e using Option.casesOn with
 |none=>exact .bad
 |some e=>induction c using Option.casesOn with
  |some c=>exact .bad
  |none=>
   refine aR (p:=λd=>aW G cx _ d) (λh=>?_) λ_=>.bad;induction e using PW
   case Call f ys ks p3=>
    match ys with
    |[y]=>
     have h:=QV.mp h;have h1:=QV.mp h.1
     (refine sd (yU h1.1) λx p1 q2q e1=>?_;obtain rfl:=q2q)
     (refine cY (EV h1.2) λy p2 s q3q e2=>?_;obtain rfl:=q3q)
     induction ks using PI with
     |nil=>exact R.raise cx _ _ _ _ _ _ _ e1 e2
     |cons k r=>exact cy h.2
    |[]=>exact no h
    |_::_::_=>exact no h
   all_goals exact no h
theorem wd(h:l9 s=true):∃k p q,s = .Return (some (.Constant .none k p)) q:=by
 induction s using T1
 case Return e q=>
  induction e using Option.casesOn with
  |none=>exact no h
  |some e=>
   (refine vY (jB h) λk p q2q=>?_;obtain rfl:=q2q)
   exact⟨k,p,q,rfl⟩
 all_goals exact no h
theorem GP(q:Ec cx h=true):∃x p1 k p3 p4 p2,h = .ExceptHandler (some (.Name x p1)) none [.Return (some (.Constant .none k p3)) p4] p2/\cx.gl x=some (.obj 1):=by
 obtain⟨x,y,b,p2⟩:=h;induction x using Option.casesOn with
 |none=>exact no q
 |some x=>induction y using Option.casesOn with
  |some y=>exact no q
  |none=>match b with
   |[r]=>
    have h:=QV.mp q
    (refine sd (yU h.1) λx p1 q2q e1=>?_;obtain rfl:=q2q)
    (refine og (wd h.2) λk p3 p4 q3q=>?_;obtain rfl:=q3q)
    exact⟨x,p1,k,p3,p4,p2,rfl,e1⟩
   |[]=>exact no q
   |_::_::_=>exact no q
theorem zV(R:gZ G)(cx:Cx)(b:List Sp)(hs:List ExceptHandler)(pos:Pos):aW G cx (exec (.Try b hs [] [] pos)) (HB cx (eB n cx) b hs):=by
 match b,hs with
 |[s],[h]=>
  refine aR (p:=λd=>aW G cx _ d) (λq=>?_) λ_=>.bad
  (refine j1 (GP q) λx p1 k p3 p4 p2 q6q e1=>?_;obtain rfl:=q6q)
  induction s using T1
  case Assign ts e ap=>
   match ts with
   |[t]=>
    induction t using PW
    case Name y np=>
     refine aR (p:=λd=>aW G cx _ d) (λ_=>.bad) λhc=>?_;induction hi:cx.loc y using Option.casesOn with
     |none=>exact .bad
     |some i=>exact R.Oa cx _ _ _ _ _ _ _ _ _ _ _ _ _ e1 hi hc ((sound G n).e cx _)
    all_goals exact .bad
   |[]=>exact .bad
   |_::_::_=>exact .bad
  all_goals exact .bad
 |[],_=>exact .bad
 |[_],[]=>exact .bad
 |[_],_::_::_=>exact .bad
 |_::_::_,_=>exact .bad
theorem CW(h:HN cx es=some tg):∃x y p1 p2 i j,es=[.Name x p1,.Name y p2]/\cx.loc x=some i/\cx.loc y=some j/\tg = .two i j:=by
 match es with
 |[a,b]=>
  replace h:(match f6 a,f6 b with |some x,some y=>(cx.loc x).bind λi=>(cx.loc y).map λj=>l6.two i j |_,_=>none)=some tg:=h
  induction ha:f6 a using Option.casesOn with
  |none=>rw[ha] at h;exact nX h
  |some x=>induction hb:f6 b using Option.casesOn with
   |none=>rw[ha,hb] at h;exact nX h
   |some y=>
    rw[ha,hb] at h
    (refine xE (iI ha) λp1 q1q=>?_;obtain rfl:=q1q)
    (refine xE (iI hb) λp2 q1q=>?_;obtain rfl:=q1q)
    refine aT (Qh.mp h) λi hi h=>?_;refine aT (Qa.mp h) λj hj e=>?_;exact⟨x,y,p1,p2,i,j,rfl,hi,hj,e.symm⟩
 |[]=>exact nX h
 |[_]=>exact nX h
 |_::_::_::_=>exact nX h
theorem DL(h:yV cx t=some tg):(∃x p i,t = .Name x p/\cx.loc x=some i/\tg = .one i)\/∃x y p1 p2 k p i j,t = .Tuple [.Name x p1,.Name y p2] k p/\cx.loc x=some i/\cx.loc y=some j/\tg = .two i j:=by
 induction t using PW
 case Name x p=>
  refine aT (Qa.mp h) λi hi e=>?_;exact .inl ⟨x,p,i,rfl,hi,e.symm⟩
 case Tuple es k p=>
  (refine wQ (CW h) λx y p1 p2 i j q6q hi hj e=>?_;obtain rfl:=q6q)
  exact .inr ⟨x,y,p1,p2,k,p,i,j,rfl,hi,hj,e⟩
 all_goals exact nX h
theorem Ao(T:qB G n)(cx:Cx)(t it:Expr)(b:List Sp)(pos:Pos)(hs:isSet it=false):
  aW G cx (exec (.For t it b [] pos)) (match yV cx t with |some t=>bX t (I0 n cx it) (uk n cx b) |none=>cQ):=by
 have S:=sound G n;induction ht:yV cx t using Option.casesOn with
 |none=>exact .bad
 |some tg=>
  rcases DL ht with⟨x,p,i,rfl,hi,rfl⟩ |⟨x,y,p1,p2,k,p,i,j,rfl,hi,hj,rfl⟩
  ·exact .NX hi hs (S.i cx _) (T.ss cx _)
  ·exact .Nj hi hj hs (S.i cx _) (T.ss cx _)
theorem GI(R:gZ G)(T:qB G n)(cx:Cx)(st:Sp):aW G cx (exec st) (Nw (n+1) cx st):=by
 have S:=sound G n;induction st using T1
 case Expr e p=>exact aR (p:=λd=>aW G cx _ d) (λ_=>.bad) λh=>.expr h (S.e cx _)
 case Pass p=>exact .pass
 case Assign ts v p=>
  match ts with
  |[t]=>exact xt cx t v p
  |[]=>exact .bad
  |_::_::_=>exact .bad
 case AugAssign t op v p=>
  induction t using PW
  case Name x np=>
   show aW G cx _ (match cx.loc x,lu op with |some i,some o=>uT o i (eB n cx v) |_,_=>cQ)
   induction hi:cx.loc x using Option.casesOn with
   |none=>exact .bad
   |some i=>induction ho:lu op using Option.casesOn with
    |none=>exact .bad
    |some o=>exact .aug ho hi (S.e cx _)
  all_goals exact .bad
 case Return e p=>induction e using Option.casesOn with
  |none=>exact .l9
  |some e=>exact .ret (S.e cx _)
 case If t a b p=>exact .ite (S.b cx _) (T.ss cx _) (T.ss cx _)
 case While t b o p=>induction o using PI with
  |nil=>exact .Ib (S.b cx _) (T.ss cx _)
  |cons _ _=>exact .bad
 case For t it b o p=>
  refine aR (p:=λd=>aW G cx _ d) (λ_=>.bad) λh=>?_;have h:=Su.mp h;induction o using PI with
  |nil=>exact Ao T cx t it b p h.1
  |cons _ _=>exact jr h.2
 case Raise e c p=>exact tF R cx e c p
 case Try b hs o f p=>induction o using PI with
  |nil=>induction f using PI with
   |nil=>exact zV R cx b hs p
   |cons _ _=>exact .bad
  |cons _ _=>exact .bad
 all_goals exact .bad
theorem Em(T:qB G n)(cx:Cx)(b:List Sp):aW G cx (execs b) (uk (n+1) cx b):=by
 exact .all λst _=>T.s cx st
end
theorem qV{G:GX}(R:gZ G):∀n,qB G n
 |0=>⟨λ_ _=>.bad,λ_ _=>.bad⟩
 |n+1=>⟨GI R (qV R n),Em (qV R n)⟩
end
section
structure lA (G:GX) (k:Nat) (f:Fn) (fd:Rn) (body:List Sp) (params:List Qd):Prop where
 at_:∃oc od sl,G.K.lookup (G.dS k)=some ⟨oc,od,.func fd,sl⟩
 code:WN G.K fd.code fd.qualname=true
 bd:fd.body = .stmts body
 globals:fd.globals=mainGlobals
 builtins:fd.builtins=TU
 closure:fd.closure=[]
 JW:f.body=Cj G.glob fd.scope body
 vE:f.locals=(bz fd.scope).length
 Of:params.length=f.params
 OY:f.params<=f.locals
 bind:∀s:PM,G.K.In s.heap->∀vals:List Value,vals.length=f.params->Vn s fd ⟨vals,[]⟩ (params.zip vals)
 Jm:∀(i:Nat) x,params[i]?=some x->(bz fd.scope).lookup x=some i
 Mf:∀x∈params,fd.scope.names.lookup x=some .local\/fd.scope.names.lookup x=some .cell
 OV:((R6 0 fd.scope.names []).map (·.1)).Nodup
 co:fd.scope.isCoroutine=false
 gen:fd.scope.isGenerator=false
 kind:fd.scope.kind = .function
theorem fS[BEq α][LawfulBEq α]:∀{l:List α}{n:Nat}{x:α}{i:Nat},(l.zipIdx n).lookup x=some i->n<=i/\l[i - n]?=some x:=by
 intro l;induction l with
 |nil=>
  intro _ _ _ h;exact bf h
 |cons a r ih=>
  intro n x i h;rw[List.zipIdx_cons,QN] at h;induction e:x == a using PU with
  |true=>
   simp only[e] at h;obtain rfl:=PG h;rw[beq_iff_eq] at e;subst e;exact⟨PK _,by rw[TP];rfl⟩
  |false=>
   simp only[e] at h;refine xA (ih h) λh1 h2=>?_;refine⟨by exact nA h1,?_⟩;rw[show i - n=(i - (n+1))+1 by exact PN (nA (nT (i) (n) (nA h1)) (nA (nS (i) (n+1)))) (nA (nT (i) (n+1) (nA h1)) (nA (nS (i) (n))))];exact h2
theorem gK(h1:(bz sc).lookup x=some i)(h2:(bz sc).lookup y=some i):x=y:=by
 have a:=(fS h1).2;have b:=(fS h2).2;rw[a] at b;exact PG b
theorem lM(h:(bz sc).lookup x=some i):i < (bz sc).length:=by
 have a:=(fS h).2;rw[UR] at a;have:=(QJ.mp a).1;unfold bz;rw[List.length_zipIdx];exact this
theorem D1{kindOf:Qd->Option Tj}{x:Qd}{v:Value}(hk:kindOf x=some .local):∀{binds:List (Qd × Value)}{m:Qd->Option Value},(binds.map (·.1)).Nodup->(x,v)∈binds->W5 kindOf binds m x=some v:=by
 have keep:∀{binds:List (Qd × Value)}{m:Qd->Option Value},m x=some v->x∉binds.map (·.1)->W5 kindOf binds m x=some v:=by
  intro binds;induction binds with
  |nil=>intro m h _;exact h
  |cons p r ih=>
   intro m h hn;obtain⟨n,w⟩:=p;have hne:x≠n:=λe=>hn (e ▸ .head _);unfold W5;refine ih ?_ λq=>hn (.tail _ q);split
   ·show(if x=n then some w else m x)=some v
    rw[if_neg hne];exact h
   ·exact h
 intro binds;induction binds with
 |nil=>intro m _ h;cases h
 |cons p r ih=>
  intro m hd hm;obtain⟨n,w⟩:=p;rw[RX,U0] at hd;unfold W5;rcases PJ.mp hm with e |hm
  ·cases e
   rw[if_pos hk];exact keep (if_pos rfl) hd.1
  ·exact ih hd.2 hm
theorem BB{kindOf:Qd->Option Tj}{x:Qd}{v:Value}(hk:kindOf x≠some .local):∀{binds:List (Qd × Value)}{m:Qd->Option Value},(binds.map (·.1)).Nodup->(x,v)∈binds->Xh kindOf binds m x=some v:=by
 have keep:∀{binds:List (Qd × Value)}{m:Qd->Option Value},m x=some v->x∉binds.map (·.1)->Xh kindOf binds m x=some v:=by
  intro binds;induction binds with
  |nil=>intro m h _;exact h
  |cons p r ih=>
   intro m h hn;obtain⟨n,w⟩:=p;have hne:x≠n:=λe=>hn (e ▸ .head _);unfold Xh;refine ih ?_ λq=>hn (.tail _ q);split
   ·exact h
   ·show(if x=n then some w else m x)=some v
    rw[if_neg hne];exact h
 intro binds;induction binds with
 |nil=>intro m _ h;cases h
 |cons p r ih=>
  intro m hd hm;obtain⟨n,w⟩:=p;rw[RX,U0] at hd;unfold Xh;rcases PJ.mp hm with e |hm
  ·cases e
   rw[if_neg hk];exact keep (if_pos rfl) hd.1
  ·exact ih hd.2 hm
section
variable{G:GX}{k:Nat}{f:Fn}{fd:Rn}{body:List Sp}{params:List Qd}
theorem lA.nodup(D:lA G k f fd body params):params.Nodup:=by
 unfold List.Nodup;rw[List.pairwise_iff_getElem];intro i j hi hj hlt h;have h1:=D.Jm i params[i] (Ql hi);have h2:=D.Jm j params[j] (Ql hj);rw[h,h2] at h1;have:=PG h1;exact nF (nA hlt (nQ this))
end
end
section
noncomputable def bM(fd:Rn)(L a:Addr):Vs:=newEnv fd.scope L fd.globals (R6 (L+1) fd.scope.names []) (fd.qualname++".<locals>.") (some a) fd.code none fd.builtins
noncomputable def WC.enter(G:GX)(n:Nat)(call:Call)(fr:gw)(A:QP)(fd:Rn)(L a:Addr)(h1:Qk)(as:List Addr)(X:Mem->Prop):WC:=
 {G:=G,n:=n,call:=call,fr:=⟨bM fd L a,fr.env::fr.outer⟩,A:=A.deeper (bM fd L a),cx:=⟨fd.scope,bz fd.scope,G.glob⟩,env:=bM fd L a,h0:=h1,eQ:=as,xs:=L::(R6 (L+1) fd.scope.names []).map (·.2),X:=X}
section
variable{G:GX}{k:Nat}{f:Fn}{fd:Rn}{body:List Sp}{params:List Qd}
theorem xg{cs:List (Qd × Addr)}(h:cs.Pairwise λx y=>x.2≠y.2)(h1:(x,a)∈cs)(h2:(y,a)∈cs):x=y:=by
 induction cs with
 |nil=>cases h1
 |cons p r ih=>
  refine xA (List.pairwise_cons.mp h) λhp hr=>?_;rcases PJ.mp h1 with e1 |h1
  ·rcases PJ.mp h2 with e2 |h2
   ·rw[<- e1] at e2;exact(Xi e2).1.symm
   ·exact absurd (by rw[<- e1]) (hp _ h2)
  ·rcases PJ.mp h2 with e2 |h2
   ·exact absurd (by rw[<- e2]) (hp _ h1)
   ·exact ih hr h1 h2
theorem Eb(g:CZ G){n:Nat}{call:Call}(hc:qQ G n call){fr:gw}{A:QP}(ha:Cw fr (n+1) A)(D:lA G k f fd body params){s s1:PM}{m1 cm:Qd->Option Value}(x:WK s s.heap.objs.size m1 (R6 (s.heap.objs.size+1) fd.scope.names []) cm s1)(as:List Addr)(X:Mem->Prop):
  (WC.enter G n call fr A fd s.heap.objs.size (G.dS k) s1.heap as X).OK/\pJ (WC.enter G n call fr A fd s.heap.objs.size (G.dS k) s1.heap as X):=by
 refine⟨⟨g,hc,⟨rfl,D.kind⟩,⟨Vj ha.frames,ha.handled,?_,?_⟩,rfl,D.kind,D.globals,D.builtins,rfl,rfl,λb q=>?_⟩,⟨rfl,rfl,.head _,λy a hk hl=>.tail _ (SH.mpr ⟨(y,a),mem_of_lookup hl,rfl⟩),λy z a _ _ h1 h2=>xg x.apart (mem_of_lookup h1) (mem_of_lookup h2),λy z i h1 h2=>gK h1 h2,λy i h=>lM h⟩⟩
 ·have:=ha.depth
  show A.depth+1+3 * n < 980;exact nA this
 ·have:=ha.units
  show A.units+3+20 * n < 9700;exact nA this
 ·rcases PJ.mp q with rfl |q
  ·refine cY x.toInCall.ns λo _ _ e _=>?_
   show s1.heap.get? s.heap.objs.size≠none;rw[e];exact λz=>by exact b8 z
  ·obtain⟨⟨y,a⟩,hm,rfl⟩:=SH.mp q
   refine aT (x.cell y a (lookup_of_mem_nodup (cellsFrom_names fd.scope.names 0 (s.heap.objs.size+1) [] [] rfl ▸ D.OV) hm)) λo e _=>?_;show s1.heap.get? a≠none;rw[e];exact λz=>by exact b8 z
theorem kz{s1:PM}(x:WK s s.heap.objs.size m1 (R6 (s.heap.objs.size+1) fd.scope.names []) cm s1)(h:(y,a)∈R6 (s.heap.objs.size+1) fd.scope.names []):s.heap.get? a=none:=by
 induction q:s.heap.get? a using Option.casesOn with
 |none=>rfl
 |some o=>exact absurd (Qw q) (UQ.mpr (UX (x.above y a h)))
theorem Ct(g:CZ G){n:Nat}{call:Call}{fr:gw}{A:QP}(D:lA G k f fd body params){s s1:PM}{m:Qd->Option Value}{as:List Addr}{M:Mem}(I:Inv G fr s m as M){vs:List V}{vals:List Value}(r:aE G s.heap as vs vals)(hl:vs.length=f.params)(x:WK s s.heap.objs.size (W5 (bM fd s.heap.objs.size (G.dS k)).kindOf (params.zip vals) λ_=>none) (R6 (s.heap.objs.size+1) fd.scope.names []) (Xh (bM fd s.heap.objs.size (G.dS k)).kindOf (params.zip vals) λ_=>none) s1)(X:Mem->Prop):
  At (WC.enter G n call fr A fd s.heap.objs.size (G.dS k) s1.heap as X) s1 (W5 (bM fd s.heap.objs.size (G.dS k)).kindOf (params.zip vals) λ_=>none) as M (vs.map some++Qi (f.locals - f.params) none):=by
 (refine sd x.done λh1 tk q2q hk=>?_;obtain rfl:=q2q)
 have hn:=x.toInCall.ns;have hLs:s.heap.get? s.heap.objs.size=none:=bL _;have notfs:∀b,s.heap.get? b≠none->b≠s.heap.objs.size:=λb e q=>e (q ▸ hLs);have S1:Step [] [] s.heap as h1 as:=Step.gD hk;have hvl:vals.length=params.length:=by rw[<- r.length,hl,D.Of]
 have hzip:((params.zip vals).map (·.1))=params:=by rw[List.map_fst_zip];exact nR hvl
 refine⟨⟨⟨hn,λb o e=>hk b o (I.F.keep b o e),?_⟩,Vv (by show fd.scope.kind≠_;rw[D.kind];decide) rfl hn I.qv (I.eE.of_keeps λb o e _=>⟨o,hk b o e,rfl⟩),λb q=>?_,I.rep.same (fs:=[]) (xs:=[]) S1 (λb q=>?_),I.os,I.gens⟩,⟨?_,λy i v hy hv=>?_,λy hy=>?_,?_⟩,.refl⟩
 ·exact PH I.F.above (UX I.F.ns.lt)
 ·obtain⟨⟨o,e⟩,hb,hf⟩:=I.mem b q
  refine⟨⟨o,hk b o e⟩,hb,λz=>?_⟩;have z:b∈((bM fd s.heap.objs.size (G.dS k))::fr.env::fr.outer).filterMap (·.frame):=z
  rw[QC] at z;rcases PJ.mp z with e2 |z
  ·exact notfs b (by rw[e];exact λw=>by exact b8 w) e2
  ·exact hf z
 ·obtain⟨⟨o,e⟩,_⟩:=I.mem b q
  rw[e];exact hk b o e
 ·show(vs.map some++Qi (f.locals - f.params) none).length=(bz fd.scope).length
  have:=D.OY;rw[PS,Qc,List.length_replicate,hl,<- D.vE];exact PN (nA (nT (f.locals) (f.params) (nA this))) (nA (nS (f.locals) (f.params)))
 ·refine kr (Cx.er hy) λhd hix hkk=>?_
  have hix:(bz fd.scope).lookup y=some i:=hix;have hlt:i < vs.length:=by
   by_cases q:i < vs.length
   ·exact q
   ·rw[Rj (by rw[Qc];exact nN q),UA] at hv
    split at hv<;>cases hv
  rw[T8 (by rw[Qc];exact hlt),QE] at hv;refine aT (Qa.mp hv) λw hw e=>?_;obtain rfl:=PG e;refine aT (r.get hw) λxv hxv rv=>?_;have hp:∃z,params[i]?=some z:=⟨_,Ql (by rw[<- hvl,<- r.length];exact hlt)⟩;refine xE hp λz hz=>?_;have:z=y:=gK (D.Jm i z hz) hix;subst this;have hmem:(z,xv)∈params.zip vals:=by
   have:(params.zip vals)[i]?=some (z,xv):=by rw[List.getElem?_zip_eq_some];exact⟨hz,hxv⟩
   exact TB this
  have hnd:((params.zip vals).map (·.1)).Nodup:=by rw[hzip];exact D.nodup
  refine⟨xv,rv.step S1,?_⟩;rcases hkk with hkk |hkk
  ·exact .inl ⟨hkk,.inl ⟨rfl,D1 hkk hnd hmem⟩⟩
  ·refine xE (Qt.mp (cellsFrom_some fd.scope.names (s.heap.objs.size+1) [] (.inl hkk))) λb hb=>?_
   have hcell:=x.cell z b hb;have hnew:=kz x (mem_of_lookup hb);rw[BB (by show fd.scope.names.lookup z≠_;rw[show fd.scope.names.lookup z=some .cell from hkk];exact λw=>by cases w) hnd hmem] at hcell
   refine .inr ⟨hkk,b,hb,λq=>?_,λq=>?_,hcell⟩
   ·obtain⟨⟨o,e⟩,_⟩:=I.mem b q
    rw[hnew] at e;exact bf e
   ·have q:b∈((bM fd s.heap.objs.size (G.dS k))::fr.env::fr.outer).filterMap (·.frame):=q
    rw[QC] at q;rcases PJ.mp q with e2 |q
    ·exact absurd (x.above z b (mem_of_lookup hb)) (by rw[e2];exact Q4 _)
    ·refine xC (gw.iz I.eE q) λ_ o e _=>?_
     rw[hnew] at e;exact bf e
 ·refine xE (Qt.mp (cellsFrom_some fd.scope.names (s.heap.objs.size+1) [] (.inl hy))) λb hb=>?_
  have hnew:=kz x (mem_of_lookup hb);refine⟨b,_,hb,λq=>?_,λq=>?_,?_,x.cell y b hb⟩
  ·obtain⟨⟨o,e⟩,_⟩:=I.mem b q
   rw[hnew] at e;exact bf e
  ·have q:b∈((bM fd s.heap.objs.size (G.dS k))::fr.env::fr.outer).filterMap (·.frame):=q
   rw[QC] at q;rcases PJ.mp q with e2 |q
   ·exact absurd (x.above y b (mem_of_lookup hb)) (by rw[e2];exact Q4 _)
   ·refine xC (gw.iz I.eE q) λ_ o e _=>?_
    rw[hnew] at e;exact bf e
  ·induction q:G.base.get? b using Option.casesOn with
   |none=>exact q
   |some o=>have:=I.F.keep b o q;rw[hnew] at this;exact bf this
 ·refine cY hn λo _ _ e _=>?_
  show h1.get? s.heap.objs.size≠none;rw[show h1.get? s.heap.objs.size=_ from e];exact λw=>by exact b8 w
end
end
section
section
variable{G:GX}{k:Nat}{f:Fn}{fd:Rn}{body:List Sp}{params:List Qd}
theorem pA(I:Inv G fr s m as M)(hk:∀b o,s.heap.get? b=some o->h1.get? b=some o)(hfs:∀b,b∈fs'->b∉fr.fs->s.heap.get? b=none)(hfs':∀b∈fr.fs,b∈fs')(hxs:∀b∈xs,s.heap.get? b=none)(T:Step fs' xs h1 as h3 as3):Step fr.fs [] s.heap as h3 as3 where
 keep a o e n1 n2 _:=T.keep a o (hk a o e) n1 (λq=>by rw[hfs a q n2] at e;exact bf e) (λq=>by rw[hxs a q] at e;exact bf e)
 cK a o e n1 _:=T.cK a o (hk a o e) (hfs' a n1) (λq=>by rw[hxs a q] at e;exact bf e)
 tup a its e n:=T.tup a its (e.keeps hk) n
 cB a e:=T.cB a (by
  induction z:s.heap.get? a using Option.casesOn with
  |none=>exact absurd z e
  |some o=>rw[hk a o z];exact λw=>by exact b8 w)
 grow a q:=by
  rcases T.grow a q with q |q
  ·exact .inl q
  ·induction e:s.heap.get? a using Option.casesOn with
   |none=>exact .inr rfl
   |some o=>rw[hk a o e] at q;exact b8 q
 more a q:=T.more a q
theorem uO(ok:qM fr){s3:PM}(I:Inv G fr s m as M)(S:Step fr.fs [] s.heap as s3.heap as3)(J:Inv G ⟨env',fr.env::fr.outer⟩ s3 m3 as3 M3):Inv G fr s3 m as3 M3:=by
 refine⟨⟨?_,J.F.keep,I.F.above⟩,J.eE.2.2,λb q=>?_,J.rep,J.os,J.gens⟩
 ·refine nu I.F.ns λo es ep e hd r=>?_
  refine xE (S.cK _ o e ok.iW P6) λsl e'=>?_;exact⟨_,es,ep,e',hd,r⟩
 ·refine kr (J.mem b q) λh1 h2 h3=>?_
  refine⟨h1,h2,λz=>h3 ?_⟩;show b∈(env'::fr.env::fr.outer).filterMap (·.frame)
  rw[QC];split
  ·exact z
  ·exact .tail _ z
theorem vn(ok:qM fr)(I:Inv G fr s m as M)(S2:Step fr.fs [] s.heap as s'.heap as')(J2:Inv G fr s' m as' M')(hB:G.base.StaysIn B)(hBas:∀a∈as',∀o,s'.heap.get? a=some o->B.get? a=some o)(hold:∀a o,s.heap.get? a=some o->a∉as->a∉fr.fs->B.get? a=some o)(hKeep:∀b o,B.get? b=some o->h'.get? b=some o)(hus:s'.heap.UpToSlots h')(hfun:h'.FunFrames B (fr.env::fr.outer)):
  Inv G fr {s' with heap:=h'} m as' M'/\Step fr.fs [] s.heap as h' as'/\∀b∈as',h'.get? b=s'.heap.get? b:=by
 have has:∀b∈as',h'.get? b=s'.heap.get? b:=λb q=>by
  obtain⟨⟨o,e⟩,_⟩:=J2.mem b q;rw[e];exact hKeep b o (hBas b q o e)
 have ht:∀b its,Q3 s'.heap b its->b∉as'->Q3 h' b its:=λb its e _=>by
  refine qc e λo eo hc n hd=>?_;refine xE (hus b o eo (by rw[hd];exact λvs z=>by cases z)) λsl e'=>?_
  exact⟨_,e',hc,n,hd⟩
 have hfields:∀b∈fr.fs,∀o,s.heap.get? b=some o->∀vs,o.data≠.fields vs:=λb q o e=>by
  refine xC (gw.iz I.eE q) λ_ o' e' hn=>?_;rw[e] at e';obtain rfl:=PG e';exact hn
 have S3:Step fr.fs [] s.heap as h' as':=by
  refine⟨λb o e n1 n2 _=>hKeep b o (hold b o e n1 n2),λb o e n1 _=>?_,λb its e n=>ht b its (S2.tup b its e n) (let ⟨_,ho,_⟩:=e;S2.out ho n),λb e=>?_,S2.grow,S2.more⟩
  ·refine xE (S2.cK b o e n1 P6) λsl e'=>?_
   refine xE (hus b _ e' (hfields b n1 o e)) λsl2 e2=>?_;exact⟨sl2,e2⟩
  ·by_cases q:b∈as'
   ·rw[has b q];exact S2.cB b e
   ·have q1:b∉as:=λz=>q (S2.more b z)
    induction z:s.heap.get? b using Option.casesOn with
    |none=>exact absurd z e
    |some o=>
     by_cases q2:b∈fr.fs
     ·refine xE (S2.cK b o z q2 P6) λsl e'=>?_
      refine xE (hus b _ e' (hfields b q2 o z)) λsl2 e2=>?_;rw[e2];exact λw=>by exact b8 w
     ·rw[hKeep b o (hold b o z q1 q2)];exact λw=>by exact b8 w
 refine⟨⟨⟨hus.ns J2.F.ns,λb o e=>hKeep b o (hB b o e),J2.F.above⟩,funFrames_base hB hfun,λb q=>?_,J2.rep.iy ht has,J2.os,J2.gens⟩,S3,has⟩;obtain⟨⟨o,e⟩,r⟩:=J2.mem b q;exact⟨⟨o,(has b q).trans e⟩,r⟩
theorem Ag(ok:qM fr)(I:Inv G fr s m as M)(hf:env'.frame=some L')(hA:A.frames=some (env'::fr.env::fr.outer))(hk:∀b o,s.heap.get? b=some o->h1.get? b=some o)(hL':s.heap.get? L'=none)(hxs:∀b∈xs,s.heap.get? b=none)(h:Exc G ⟨env',fr.env::fr.outer⟩ h1 as xs X e s')(kk:∀s'',Exc G fr s.heap as [] X e s''->Q () s''):P2 (model prog w) A (leaving env' e) Q E s':=by
 (refine eD h λa t M' as' B m' q6q hX J S hB hBas hBold hne hfl=>?_;obtain rfl:=q6q)
 have hfs:∀b,b∈(⟨env',fr.env::fr.outer⟩:gw).fs->b=L'\/b∈fr.fs:=λb q=>by
  have q:b∈(env'::fr.env::fr.outer).filterMap (·.frame):=q
  rw[QC,hf] at q;rcases PJ.mp q with q |q
  ·exact .inl q
  ·exact .inr q
 have hfs':∀b∈fr.fs,b∈(⟨env',fr.env::fr.outer⟩:gw).fs:=λb q=>by
  show b∈(env'::fr.env::fr.outer).filterMap (·.frame)
  rw[QC,hf];exact .tail _ q
 have S2:Step fr.fs [] s.heap as s'.heap as':=pA I hk (λb q n=>(hfs b q).elim (λz=>z ▸ hL') (λz=>absurd z n)) hfs' hxs S;have J2:=uO ok I S2 J;refine wo hA hf hfl λh' hfl' hus=>?_;refine kk _ ?_;have hold:∀a o,s.heap.get? a=some o->a∉as->a∉fr.fs->B.get? a=some o:=λa o e n1 n2=>hBold a o (hk a o e) n1 (λq=>(hfs a q).elim (λz=>by rw[z,hL'] at e;exact bf e) n2) (λq=>by rw[hxs a q] at e;exact bf e);refine kr (vn ok I S2 J2 hB hBas hold hfl'.1 hus hfl'.2.2.1) λK1 K2 has=>?_;exact⟨a,t,M',as',B,m,rfl,hX,K1,K2,hB,λb q o e=>hBas b q o ((has b q).symm.trans e),λb o e n1 n2 _=>hold b o e n1 n2,hne,.inl hfl'⟩
theorem Ap(D:lA G k f fd body params){s1:PM}(x:WK s s.heap.objs.size m1 (R6 (s.heap.objs.size+1) fd.scope.names []) cm s1):∀b∈s.heap.objs.size::(R6 (s.heap.objs.size+1) fd.scope.names []).map (·.2),s.heap.get? b=none:=λb q=>by
 rcases PJ.mp q with rfl |q
 ·exact bL _
 ·obtain⟨⟨y,c⟩,hm,rfl⟩:=SH.mp q
  exact kz x hm
end
set_option backward.match.sparseCases true in
theorem Ip(g:CZ G)(R:gZ G){fns:Nat->Option Fn}(hf:∀k f,fns k=some f->∃fd body params,lA G k f fd body params):∀n,qQ G n (aj fns n):=by
 intro k;induction k with
 |zero=>
  exact λ_ _ _ _ _ _ _ _ _ d=>d.elim
 |succ n ih=>
  intro fr ok A ha k vs Q X M d s m as vals I r;refine j8 (bg d) λf hk hl d=>?_;have:=()
  ·skip
   refine og (hf k f hk) λfd body params D=>?_;refine og D.at_ λoc od sl ho=>?_;have Xs:G.K.In s.heap:=g.X.keeps I.F.keep;have hvl:vals.length=f.params:=by rw[<- r.length,hl]
   have hroom:A.depth < Vd:=SW (show A.depth < 982 by have:=ha.depth;exact nA this) (by decide);refine codeAny_call_function hroom (Xs _ _ ho) rfl D.co D.gen D.bd (WS Xs D.code) (D.bind s Xs vals hvl _ _ _ _ ?_);rw[D.closure];refine wpAny_newFunctionEnv_cells D.kind (λy hy=>?_) λenv' he s1 x=>?_
   ·have hm:y.1∈params:=by
     have:=List.of_mem_zip (show(y.1,y.2)∈params.zip vals from hy);exact this.1
    rcases D.Mf _ hm with q |q
    ·exact .inl q
    ·exact .inr ⟨q,cellsFrom_some _ _ _ (.inl q)⟩
   have he:env'=bM fd s.heap.objs.size (G.dS k):=he;subst he;have x:WK s s.heap.objs.size (W5 (bM fd s.heap.objs.size (G.dS k)).kindOf (params.zip vals) λ_=>none) (R6 (s.heap.objs.size+1) fd.scope.names []) (Xh (bM fd s.heap.objs.size (G.dS k)).kindOf (params.zip vals) λ_=>none) s1:=x;refine xA (Eb g (ih) ha D x as X) λok' so'=>?_;have at':=Ct (n:=n) (call:=aj fns n) (A:=A) g D I r hl x X;have hkk:∀b o,s.heap.get? b=some o->s1.heap.get? b=some o:=x.toInCall.keep;have hnone:=Ap D x;refine⟨((I.get g).nolimit).keeps hkk,codeAny_func ?_⟩;rw[D.JW] at d;have hfsq:∀b,b∈(⟨bM fd s.heap.objs.size (G.dS k),fr.env::fr.outer⟩:gw).fs->b∉fr.fs->s.heap.get? b=none:=λb q n1=>by
    have q:b∈((bM fd s.heap.objs.size (G.dS k))::fr.env::fr.outer).filterMap (·.frame):=q
    rw[QC] at q;rcases PJ.mp q with q |q
    ·rw[q];exact bL _
    ·exact absurd q n1
   have hfsq':∀b∈fr.fs,b∈(⟨bM fd s.heap.objs.size (G.dS k),fr.env::fr.outer⟩:gw).fs:=λb q=>.tail _ q;refine wpAny_mono ((qV R 60).ss ⟨fd.scope,bz fd.scope,G.glob⟩ body (WC.enter G n (aj fns n) fr A fd s.heap.objs.size (G.dS k) s1.heap as X) rfl rfl ok' so' s1 _ as M _ _
    (λfl s'=>∃M' as' x v,v=(match fl with |.ret v=>v |_=>.none)/\Inv G fr s' m as' M'/\Step fr.fs [] s.heap as s'.heap as'/\aF G s'.heap as' x v/\Q x M') at' d λfl rv s3 m3 as3 M3 l3 a3 hfr q=>?_) (λfl s' h=>?_) (λe s' h=>?_)
   ·have S3:Step fr.fs [] s.heap as s3.heap as3:=pA I hkk hfsq hfsq' hnone a3.st
    have J3:Inv G fr s3 m as3 M3:=uO ok I S3 a3.inv;cases hfr with
    |next=>exact⟨M3,as3,.none,.none,rfl,J3,S3,.none,q⟩
    |brk=>exact⟨M3,as3,.none,.none,rfl,J3,S3,.none,q⟩
    |cont=>exact⟨M3,as3,.none,.none,rfl,J3,S3,.none,q⟩
    |ret rr=>exact⟨M3,as3,_,_,rfl,J3,S3,rr,q⟩
   ·(refine aQ h λM' as' y v q4q J S rr q=>?_;obtain rfl:=q4q)
    exact⟨M',as',y,J,S,rr,q⟩
   ·refine j1 (id h) λa0 t0 M' as' B m' he rest=>?_
    exact Ag ok I rfl (Vj ha.frames) hkk (bL _) hnone h λs'' h'=>h'
end
section
structure q5 (G:GX):Prop where
 tup:instIn G.K (.ref G.TC) (.type "tuple")=some false
 cls:∃oc od cd sl,G.K.lookup G.TC=some ⟨oc,od,.cls cd,sl⟩
 exc:UB G.K (.ref G.TC) (.type "BaseException")=some true
 self:UB G.K (.ref G.TC) (.ref G.TC)=some true
theorem DC(T:q5 G)(X:G.K.In h):Sv M h (WV (.ref G.TC)) true:=by
 refine f9 T.cls λoc od cd sl e=>?_;unfold WV;refine Looks.andThen (a:=true) ((TF (part:=none) (X _ _ e)).andThen .now) ?_;exact RU X T.exc
theorem ox(T:q5 G)(X:G.K.In s.heap)(he:s.heap.get? e=some o)(hc:o.cls = .ref G.TC)(h:Q true s):P2 M A (excMatches (.ref e) (.ref G.TC)) Q E s:=by
 unfold excMatches;refine wpAny_bind ((looks_instIn X T.tup).here ?_);simp only[QF,if_false];refine wpAny_bind (wpAny_pure ?_);rw[Sd];refine wpAny_bind (wpAny_bind (wpAny_bind ((DC T X).here ?_)));simp only[Uo,QF,if_false];refine wpAny_pure (wpAny_pure ?_);have t1:Sv M s.heap (UL (.ref e)) (.ref G.TC):=hc ▸ (TF he).andThen .now;refine wpAny_bind (t1.here ?_);rw[Sd];refine wpAny_bind (wpAny_bind (wpAny_bind ((RU X T.self).here ?_)));simp only[if_true];refine wpAny_pure (wpAny_pure ?_);exact wpAny_pure h
set_option backward.match.sparseCases true in
theorem F4(T:q5 G)(hx:cx.gl x=some (.obj 1))(hy:cx.loc y=some i)(hc:gQ e=false)(he:ar G cx e de):
  aW G cx (exec (.Try [.Assign [.Name y np] e ap] [.ExceptHandler (some (.Name x p1)) none [.Return (some (.Constant .none k p3)) p4] p2] [] [] pos)) (Fp (aV i de) (aL (aa .none))):=by
 intro c hG hcx ok so s m as M l Qm Qr a d kk;subst hG hcx;refine kr (Cx.jf hx) λhd hl hn=>?_;rw[ok.glob] at hl;have hT:nsIn c.G.K mainGlobals x=some (some (.ref c.G.TC)):=by
  rcases ok.g.glob x _ hl with⟨e,_⟩ |⟨_,e⟩ |⟨val,_,r⟩
  ·cases e
  ·exact e
  ·cases r with |obj q=>cases q
 let c0:WC:={c with h0:=s.heap,eQ:=as,xs:=[],X:=λM1=>Qm (.ret .none) l M1};have ok0:c0.OK:=⟨ok.g,ok.call,ok.fr,ok.a,ok.sc,ok.kind,ok.globals,ok.builtins,ok.frame,ok.glob,λb q=>by cases q⟩
 have a0:At c0 s m as M l:=⟨a.inv,⟨a.loc.len,a.loc.is,a.loc.cell,a.loc.here⟩,.refl⟩;refine wpAny_Try_except (RM (Th (wpAny_mono (he c0 rfl rfl ok0 s m as M l _ (λv s₁=>P2 c.M c.A (storeName c.env y v) (λ_ s₂=>P2 c.M c.A (execs [] c.env) (λf s₃=>match f with |.next=>P2 c.M c.A (execs [] c.env) Qr c.E s₃ |f=>Qr f s₃) (λ_ _=>False) s₂) (λ_ _=>False) s₁) a0 d λv s1 M1 as1 x1 a1 S1 r1 q=>?_) (λv s₁ w=>?_) (λe' s₁ w=>?_)) (e8 hc _ _ _)))
 ·have b1:At c s1 m as1 M1 l:=⟨a1.inv,⟨a1.loc.len,a1.loc.is,a1.loc.cell,a1.loc.here⟩,a.st.trans a1.st.weaken⟩
  refine f5 (c:=c) (bG ok.lg so.lg b1.lg hy r1 λs2 m2 a2 _=>?_);exact RQ (RQ (kk _ _ _ _ _ _ _ a2.lF .next q))
 ·refine wpAny_mono w (λ_ s₂ w2=>?_) λ_ _ z=>z.elim
  exact wpAny_mono w2 (λ_ _ z=>z) λ_ _ z=>z.elim
 ·(refine eD w λb t M' as' B m' q6q hX J S hB hBas hBold hne hfl=>?_;obtain rfl:=q6q)
  have hframes:c.A.frames=some (c.env::c.fr.outer):=by rw[so.env];exact ok.a.frames
  have hfl:GQ B (c.env::c.fr.outer) b (.ref c.G.TC) t s₁.heap:=by rw[so.env];exact hfl
  have hold:∀d o,s.heap.get? d=some o->d∉as->d∉c.fr.fs->B.get? d=some o:=λd o e n1 n2=>hBold d o e n1 n2 P6;refine Bc hframes ok.frame hfl λh2 hh2 u2=>?_;refine wpAny_landsW hh2 λh3 hf3 u3=>?_;have X3:c.G.K.In h3:=ok.g.X.keeps λd o e=>hf3.1 d o (hB d o e);have T3:UI c.G.p c.G.loose c.G.mg c.G.mb h3:=ok.g.T.keeps λd o e=>hf3.1 d o (hB d o e);refine aT hf3.there λob hob hobc=>?_;refine wpAny_handleBy_cons (codeAny_handlers_test (wpAny_mono (Q:=λv s'=>v = .ref c.G.TC/\s'={s₁ with heap:=h3}) ?_ (λv s' hv=>?_) λ_ _ z=>z)) (by intro q;cases q)
  ·exact QT (s:={s₁ with heap:=h3}) (by rw[ok.sc];exact ok.kind) (by unfold Rx;rw[ok.sc];exact hn) (RR (mg:=c.G.mg) (by rw[ok.globals];exact T3.g) (Xf ok.g.X ok.g.T.g hT) ⟨rfl,rfl⟩) hd
  ·(refine xA hv λq0q q1q=>?_;obtain rfl:=q0q;obtain rfl:=q1q)
   refine ox T X3 hob hobc ?_;refine codeAny_handlers_suite ?_;refine lands_againW hf3 λh5 hf5 u5=>?_;have J2:Inv c.G c.fr s₁ m as' M':=by
    refine⟨⟨?_,J.F.keep,a.inv.F.above⟩,J.eE,J.mem,J.rep,J.os,J.gens⟩;refine nu a.inv.F.ns λo es ep e hd r=>?_;refine xE (S.cK _ o e ok.fr.iW P6) λsl e'=>?_;exact⟨_,es,ep,e',hd,r⟩
   refine kr (vn ok.fr a.inv S J2 hB hBas hold hf5.1 ((u2.trans u3).trans u5) (by rw[<- so.env];exact hf5.2.2.1)) λK1 K2 _=>?_;have a5:At c {s₁ with heap:=h5} m as' M' l:=a.step K1 K2;refine RM (V4 (eZ ?_));exact kk _ _ _ _ _ _ _ a5 (.ret .none) hX
end
section
open Builtin Builtin.ObjectAttr Builtin.Getset_descriptor
noncomputable abbrev q8(a b:Addr):List Value:=[.ref a,.ref b,.type "Exception",.type "BaseException",.type "object"]
structure kn (G:GX):Prop where
 mro:∃cd b,W6 G.K G.TC=some cd/\cd.mro=q8 G.TC b/\cd.hasDict=true/\cd.abstract=false/\cd.hasDel=false
 setattr:Sj G.K (.ref G.TC) "__setattr__" = some (some (.builtin "object.__setattr__"))
 why:Sj G.K (.ref G.TC) "why" = some none
 obj:UB G.K (.ref G.TC) (.type "object")=some true
section
variable{prog:Rq}{w:Rf}{A:QP}{E:Value->PM->Prop}{s:PM}{G:GX}
noncomputable abbrev bI(TC:Addr)(d:Option Addr)(fs:Array Value):Obj:={cls:=.ref TC,dict:=d,data:=.fields fs}
theorem JJ(T:kn G)(X:G.K.In s.heap)(he:s.heap.get? e=some (bI G.TC none fs))(h:∀h' t d,(∀b o,b≠e->s.heap.get? b=some o->h'.get? b=some o)->h'.get? e=some (bI G.TC (some d) fs)->R (.ok (.ret .none)) {s with heap:=h',toks:=t}):
  Sl (model prog w) A (.call (.builtin "object.__setattr__") ⟨[.ref e,.str "why" tk,v],[]⟩) R s:=by
 have SF:=PySem.F.store_object;have SE:=PySem.F.store_Exception;refine cA T.mro λcd b hc hm hd _ _=>?_;have I:InstAt s.heap e (bI G.TC none fs) G.TC none:=⟨he,rfl,rfl,trivial⟩;have sub:Sv (model prog w) s.heap (VV (.ref e) (.type "object")) true:=I.type.andThen (RU X T.obj);have hmro:Sv (model prog w) s.heap (mroOf (.ref G.TC)) cd.mro:=(Ud X hc).andThen .now;refine Vk SF.slot.plain SF.entry (@check_slot (model prog w) _ _ s "object.__setattr__" "object" "__setattr__" (.ref e) [.str "why" tk,v] [] _ SF.kind SF.split sub (SF.args (.ref e) (.str "why" tk) v) ?_);rw[osa_eq,refuse_eq];refine wpAny_bind (wpAny_bind (I.type.here (wpAny_bind (hmro.here ?_))));rw[hm,refuseLoop_ref,refuseLoop_ref,SE.passes];refine wpAny_pure (wpAny_bind (I.type.here (wpAny_bind ((UP X T.why).here ?_))));refine wpAny_bind (wpAny_pure ?_);dsimp only;refine wpAny_bind (wpAny_pure (wpAny_bind (wpAny_bind (Tf he (wpAny_bind ((Ud X hc).here ?_))))));rw[hd];have hd2:(s.heap.push emptyDict).get? s.heap.objs.size=some (Si [] 0):=QD _ rfl;have he2:(s.heap.push emptyDict).get? e=some (bI G.TC none fs):=PY _ he;have hne:s.heap.objs.size≠e:=TO (Qw he);refine wpAny_bind (wpAny_alloc ?_);refine wpAny_bind (wpAny_update he2 ?_);refine wpAny_pure ?_;refine wpAny_bind (wpAny_pure (wpAny_bind ?_));have hd3:((s.heap.push emptyDict).update e λo=>{o with dict:=some s.heap.objs.size}).get? s.heap.objs.size=some (Si [] 0):=(RE _ _ (Qu hne)).trans hd2
 have he3:((s.heap.push emptyDict).update e λo=>{o with dict:=some s.heap.objs.size}).get? e=some (bI G.TC (some s.heap.objs.size) fs):=Ro _ he2 rfl;generalize hh:(s.heap.push emptyDict).update e (λo=>{o with dict:=some s.heap.objs.size})=h3 at hd3 he3;have hkeep:∀b o,b≠e->s.heap.get? b=some o->h3.get? b=some o:=λb o n q=>by rw[<- hh];exact(RE _ _ (Qu n)).trans (PY _ q)
 dsimp only;have D':(h3.update s.heap.objs.size (Obj.putName "why" (QS w.params "why") (.str "why" s.toks) v)).get? s.heap.objs.size=some (Si (putL "why" (QS w.params "why") (.str "why" s.toks) v []) (putN "why" [] 0)):=
  (Ro _ hd3 (by rw[putName_dict];rfl)).trans (by rw[putName_dict])
 unfold nsSet;refine wpAny_bind (wpAny_bind (wpAny_askSetting (wpAny_pure (wpAny_bind (wpAny_mkText (wpAny_bind (Tf hd3 ?_)))))));dsimp only;rw[UO,show(!(#[]:Array SD).any (·.key.isStr (PR "why")) && (#[]:Array SD).any (·.refKey))=false from by simp]
 refine wpAny_updatePart hd3 ?_;refine wpAny_bind (wpAny_lookBehind D' (pastItsLine_dict (by rw[Qo,sizeLine_eq];exact PH (fY ..) (by decide))) ?_);refine wpAny_pure (h _ _ s.heap.objs.size (λb o n q=>(RE _ _ (TO (Qw q))).trans (hkeep b o n q)) ((RE _ _ hne).trans he3))
theorem H4(T:kn G)(X:G.K.In s.heap)(he:s.heap.get? e=some (bI G.TC none fs))(h:∀h' t d,(∀b o,b≠e->s.heap.get? b=some o->h'.get? b=some o)->h'.get? e=some (bI G.TC (some d) fs)->Q () {s with heap:=h',toks:=t}):
  P2 (model prog w) A (setAttr (.ref e) "why" v) Q E s:=
 set_plain X (⟨he,rfl,rfl,trivial⟩:InstAt s.heap e (bI G.TC none fs) G.TC none) T.setattr (JJ (s:={s with toks:=s.toks+1}) T X he h)
end
end
section
open Builtin Builtin.ObjectAttr Builtin.Getset_descriptor
structure fk (K:Frag) (TC:Addr):Prop where
 at_:∃oc od cd sl b,K.lookup TC=some ⟨oc,od,.cls cd,sl⟩/\cd.mro=q8 TC b/\cd.hasDict=true/\cd.abstract=false/\cd.hasDel=false/\(sl.toList[4]?).join=some (.builtin "Exception.__new__")
 call:We K (.ref TC) "__call__" = some (some (.builtin "type.__call__"))
 typ:instIn K (.ref TC) (.type "type")=some true
 GA:UB K (.ref TC) (.ref TC)=some true
 wM:UB K (.ref TC) (.type "Exception")=some true
 F6:UB K (.ref TC) (.type "AttributeError")=some false
 EU:UB K (.ref TC) (.type "NameError")=some false
theorem gH{K:Frag}(T:fk K TC)(X:K.In h):Sv M h (Bind.madeBy (.ref TC)) (some "Exception.__new__"):=by
 refine cN T.at_ λoc od cd sl b ho hm h1 h2 h3 e3=>?_;have hc:W6 K TC=some cd:=by unfold W6;rw[ho]
 have hmro:Sv M h (mroOf (.ref TC)) cd.mro:=(Ud X hc).andThen .now;intro A Q E s k q;unfold Bind.madeBy;refine wpAny_bind (hmro A _ E s k ?_);rw[hm,Sd];refine wpAny_bind (wpAny_bind (wpAny_bind (wpAny_bind (Tf (k _ _ (X _ _ ho)) (wpAny_pure ?_)))));dsimp only;rw[<- Sk,e3];exact wpAny_pure (wpAny_pure (wpAny_pure q))
theorem iq{K:Frag}(T:fk K TC)(X:K.In h):Sv M h (WB (.ref TC)) (.ref TC):=by
 refine cN T.at_ λoc od cd sl b ho hm h1 h2 h3 e3=>?_;have hc:W6 K TC=some cd:=by unfold W6;rw[ho]
 have hmro:Sv M h (mroOf (.ref TC)) cd.mro:=(Ud X hc).andThen .now;intro A Q E s k q;unfold WB;refine wpAny_bind (hmro A _ E s k ?_);rw[hm,Sd];exact wpAny_bind (wpAny_bind (wpAny_bind (gH T X A _ E s k (wpAny_pure (wpAny_pure (wpAny_pure q))))))
theorem rC{K:Frag}(T:fk K TC)(X:K.In h):Sv M h (Bind.madeHere "BaseException.__new__" (.ref TC)) ():=by
 have F:=Rm;exact(iq T X).andThen ((gH T X).andThen (VB (by simp only[Qj,F.canon,bne_self_eq_false,QF,if_false])))
section
variable{prog:Rq}{w:Rf}{A:QP}{R:Vb->PM->Prop}{K:Frag}{TC:Addr}{h:Qk}{g:Array WM}{d:Drawn}{t:Nat}{os:OsState}
theorem FE(T:fk K TC)(X:K.In h){rest:List Value}(hrest:rest.length<=R0)(hq:R (.ok (.ret (.ref (h.objs.size+1)))) ⟨(h.push {cls:=.type "tuple",data:=.seq rest.toArray}).push {cls:=.ref TC,data:=.fields #[.ref h.objs.size,.none,.none,.none,.bool false,.none]},g,d,t,os⟩):
  Sl (model prog w) A (.builtin "Exception.__new__" ⟨.ref TC::rest,[]⟩) R ⟨h,g,d,t,os⟩:=by
 have F:=Rm;have hends:=F.ends;refine cN T.at_ λoc od cd sl b ho hm h1 h2 h3 e3=>?_;have e1:=RU (M:=model prog w) X T.wM;have e2:=rC T (M:=model prog w) X;have e4:=RU (M:=model prog w) X T.F6;have e5:=RU (M:=model prog w) X T.EU;refine codeAny_builtinAt F.entry ?_;unfold Builtin.«BaseException.__new__»;refine WD ?_;show PySem.wpAt _ _ _ (stack >>= _) _ _ _;refine WD (PySem.wpAt_stack λp below=>Vw ?_)
 wp_walk
 refine Vw ?_;rw[F.owner];have hlk:Sv (model prog w) h (isType (.ref TC)) true:=(TF (part:=none) (X _ _ ho)).andThen .now;dsimp only;refine wpAny_bind (hlk.here ?_);simp only[Uo,QF,if_false];refine wpAny_bind (e1.here ?_);simp only[Uo,QF,if_false];refine wpAny_bind (e2.here ?_);refine wpAny_bind (wpAny_bind (e4.here ?_));simp only[QF,if_false];refine wpAny_bind (e5.here ?_);simp only[QF,if_false];refine wpAny_pure ?_;refine wpAny_bind (Ta ?_ (by show rest.toArray.size<=R0;rw[Qo];exact hrest));have hC:(h.push {cls:=.type "tuple",data:=.seq rest.toArray}).get? TC=some ⟨oc,od,.cls cd,sl⟩:=PY _ (X _ _ ho);refine wpAny_bind ?_;show P2 _ _ (newObjAsIs _ _ _) _ _ _;unfold newObjAsIs classHasDel;refine wpAny_bind (wpAny_alloc (wpAny_bind (wpAny_bind (wpAny_load (PY _ hC) (wpAny_pure ?_)))));rw[h3];refine wpAny_pure (wpAny_pure ?_);show R _ _;rw[Ve];exact hq
end
end
section
open Builtin Builtin.ObjectAttr Builtin.Getset_descriptor
section
variable{prog:Rq}{w:Rf}{A:QP}{R:Vb->PM->Prop}{K:Frag}{TC:Addr}{h:Qk}{g:Array WM}{d:Drawn}{t:Nat}{os:OsState}
theorem Ae(hc:c=true)(q:P2 M A a Q E s):P2 M A (if c=true then a else b) Q E s:=by rw[if_pos hc];exact q
theorem fZ(hc:c=false)(q:P2 M A b Q E s):P2 M A (if c=true then a else b) Q E s:=by subst hc;exact q
theorem As(T:fk K TC)(X:K.In s.heap)(q:Q () s):P2 (model prog w) A (UC "Exception.__new__" ⟨.ref TC::rest,[]⟩) Q E s:=by
 have F:=Rm;refine cN T.at_ λoc od cd sl b ho hm h1 h2 h3 e3=>?_;unfold UC;rw[F.newKind,F.newSplit,F.newRow];refine Ae (by decide) ?_;refine wpAny_bind (((TF (part:=none) (X _ _ ho)).andThen .now:Sv (model prog w) s.heap (isType (.ref TC)) true).here ?_);refine fZ rfl ?_;refine wpAny_bind ((RU X T.wM).here ?_);refine fZ rfl ?_;refine wpAny_bind ((iq T X).here ?_);refine wpAny_bind ((gH T X).here ?_);refine fZ (bne_self_eq_false _) ?_;exact Vc (show WW "Exception.__new__" ⟨.any,"Exception","Exception",.cls,[⟨"args",.varPos,false⟩,⟨"kwargs",.varKw,false⟩]⟩ ⟨.ref TC::rest,[]⟩=pure () by kernel_rfl) q
theorem r7(T:fk K TC)(X:K.In h)(hrest:rest.length<=R0)(hq:R (.ok (.ret (.ref (h.objs.size+1)))) ⟨(h.push {cls:=.type "tuple",data:=.seq rest.toArray}).push {cls:=.ref TC,data:=.fields #[.ref h.objs.size,.none,.none,.none,.bool false,.none]},g,d,t,os⟩):
  Sl (model prog w) A (.call (.builtin "Exception.__new__") ⟨.ref TC::rest,[]⟩) R ⟨h,g,d,t,os⟩:=
 codeAny_call_builtin_code (VW _ Rm.quiet) (As T X (FE T X hrest hq))
theorem CK(T:fk K TC)(X:K.In h){rest:List Value}(hrest:rest.length<=R0)(hi:Sj K (.ref TC) "__init__" = some (some (.ref fI)))(hf:Wg K (.ref fI)=some (.type "function"))(hq:Sl (model prog w) (A.under (.builtin "type.__call__" ⟨.ref TC::rest,[]⟩)) (.call (.ref fI) ⟨.ref (h.objs.size+1)::rest,[]⟩) (InitBack (h.objs.size+1) R)
   ⟨(h.push {cls:=.type "tuple",data:=.seq rest.toArray}).push (bI TC none #[.ref h.objs.size,.none,.none,.none,.bool false,.none]),g,d,t,os⟩):
  Sl (model prog w) A (.call (.ref TC) ⟨rest,[]⟩) R ⟨h,g,d,t,os⟩:=by
 refine cN T.at_ λoc od cd sl b ho hmro h1 h2 h3 e3=>?_;have hC:=X _ _ ho;have call:=looks_specialIn (M:=model prog w) X T.call;have typ:=looks_instIn (M:=model prog w) X T.typ;have made:=gH T (M:=model prog w) X;have self:=RU (M:=model prog w) X T.GA;have hi':=UP (M:=model prog w) X hi;have hb:=λself=>bind_fn (M:=model prog w) X self hf;refine codeAny_of_tree ?_;show P2 _ _ (callAny (.ref TC) _) _ _ _;refine nd_load hC ?_;show P2 _ _ (V7 (.ref TC) _) _ _ _;unfold V7;refine wpAny_bind (call.at ?_);dsimp only;rw[tc_bind];refine wpAny_bind (wpAny_pure (wpAny_bind (wpAny_pure ?_)));refine wpAny_pure (a:=Fin.again (.call (.builtin "type.__call__") ⟨.ref TC::rest,[]⟩)) (And.intro rfl ?_);refine codeAny_call_builtin_at (VW _ (by decide +kernel)) entry_typeCall (check_slot tc_kind tc_split typ (tc_args _ _ _) ?_);unfold Builtin.«type.__call__»;have e4:cd.mro.isEmpty=false:=by rw[hmro];rfl
 have hm:Sv (model prog w) h (mroOf (.ref TC)) cd.mro:=((TF (part:=none) hC).andThen .now).andThen .now
 repeat (first |with_reducible refine fZ e4 ?_ |with_reducible refine fZ rfl ?_ |with_reducible refine wpAny_call ?_ |lk)
 refine r7 T X hrest ?_;have k:∀b o,h.get? b=some o->((h.push {cls:=.type "tuple",data:=.seq rest.toArray}).push (bI TC none #[.ref h.objs.size,.none,.none,.none,.bool false,.none])).get? b=some o:=λb o e=>PY _ (PY _ e);have hx:((h.push {cls:=.type "tuple",data:=.seq rest.toArray}).push (bI TC none #[.ref h.objs.size,.none,.none,.none,.bool false,.none])).get? (h.objs.size+1)=some (bI TC none #[.ref h.objs.size,.none,.none,.none,.bool false,.none]):=by heap_get
 have t1:Sv (model prog w) ((h.push {cls:=.type "tuple",data:=.seq rest.toArray}).push (bI TC none #[.ref h.objs.size,.none,.none,.none,.bool false,.none])) (UL (.ref (h.objs.size+1))) (.ref TC):=(TF hx).andThen .now;have s1:=self.keeps k;have i1:=hi'.keeps k;have b1:=(hb (.ref (h.objs.size+1))).keeps k;unfold VV callSpecial? specialOf
 repeat (first |with_reducible refine wpAny_call ?_ |lk)
 refine UN hq λr s' z=>?_;rcases r with e |(v |_ |_ |_)<;>first |exact z |exact z.elim |skip
 obtain⟨rfl,z⟩:=z;exact wpAny_pure (wpAny_pure z)
end
end
section
open Builtin Builtin.ObjectAttr Builtin.Getset_descriptor
noncomputable def iG(p:Nat->Pos):List Sp:=
 [.Expr (.Call (.Attribute (.Name "Exception" (p 0)) "__init__" (p 1)) [.Name "self" (p 2),.Name "why" (p 3)] [] (p 4)) (p 5),
  .Assign [.Attribute (.Name "self" (p 6)) "why" (p 7)] (.Name "why" (p 8)) (p 9)]
noncomputable def dI(x:Addr)(v:Value):List (Qd × Value):=[("self",.ref x),("why",v)]
structure kQ (K:Frag) (fI:Addr) (fd:Rn) (p:Nat->Pos):Prop where
 at_:∃oc od sl,K.lookup fI=some ⟨oc,od,.func fd,sl⟩
 code:WN K fd.code fd.qualname=true
 body:fd.body = .stmts (iG p)
 bind:∀s:PM,K.In s.heap->∀x v,Vn s fd ⟨[.ref x,v],[]⟩ (dI x v)
 cells:∀x∈fd.scope.names,x.2≠.cell
 locs:∀x∈(["self","why"]:List Qd),fd.scope.names.lookup x=some .local
 exc:fd.scope.names.lookup ("Exception":Qd)=some .globalImplicit
 globals:fd.globals=mainGlobals
 builtins:fd.builtins=TU
 line:((p 1).endLine == (p 4).line)=true
 co:fd.scope.isCoroutine=false
 gen:fd.scope.isGenerator=false
 kind:fd.scope.kind = .function
section
variable{prog:Rq}{w:Rf}{A:QP}{E:Value->PM->Prop}{s:PM}{K:Frag}
theorem rn{T:String}(X:K.In s.heap)(ht:UL (.type T)=pure (.type "type"))(hs:WE T=false)(e:findCls K (.type T) (.type "type") name=some (.val v))(hh:handedIn v=true)(h:Q (v,[]) {s with toks:=s.toks+1}):P2 (model prog w) A (Wn (.type T) name pl) Q E s:=by
 have L0:Sv (model prog w) s.heap (UL (.type T)) (.type "type"):=VB ht;have hg:Sj K (.type "type") "__getattribute__" = some (some (.builtin "type.__getattribute__")):=type_tga;have LO:Sv (model prog w) s.heap (opaqueClassAbove (.type T)) none:=VB (by unfold opaqueClassAbove;dsimp only;rw[hs];rfl);unfold Wn specialOf;refine wpAny_bind (wpAny_bind (L0.here ((UP X hg).here ?_)));dsimp only;rw[if_pos canon_tga];refine wpAny_bind (wpAny_mono (Q:=λv=>Q (v,[])) (E:=E) ?_ (λ_ _ z=>wpAny_pure z) λ_ _ z=>z);exact cls_open X LO L0 hg (looks_hook X (r:=none) (by rfl)) (by show UB K _ _=_;rfl) e (wpAny_pure (handed_on hh h))
theorem tD(K:Frag):findCls K (.type "Exception") (.type "type") "__init__" = some (.val (.builtin "Exception.__init__")):=by kernel_rfl
theorem qI(T:fk K TC)(X:K.In s.heap)(he:s.heap.get? e=some (bI TC none #[.ref t0,.none,.none,.none,.bool false,.none]))(h:∀h' t,(∀b o,b≠e->s.heap.get? b=some o->h'.get? b=some o)->s.heap.get? t=none->h'.get? e=some (bI TC none #[.ref t,.none,.none,.none,.bool false,.none])->Q .none {s with heap:=h'}):
  P2 (model prog w) A (call (.builtin "Exception.__init__") [.ref e,v]) Q E s:=by
 have F:=Rm;obtain⟨hp,g,d,tk,os⟩:=s;dsimp only at X he h;have t1:Sv (model prog w) hp (UL (.ref e)) (.ref TC):=(TF he).andThen .now;have i1:Sv (model prog w) hp (VV (.ref e) (.type "Exception")) true:=t1.andThen (RU X T.wM);refine wpAny_call (Vk F.init.plain F.initEntry ?_);have hshort:=F.noStar;simp only[UC,F.initKind,F.initSplit,F.initRow];refine wpAny_bind (i1.here ?_);simp only[Uo,QF,if_false];refine cN T.at_ λoc od cd sl b ho hmro h1 h2 h3 e3=>?_;have hC:=X _ _ ho;unfold WW
 repeat (first |(with_reducible refine wpAny_loadPart_at he ?_) |with_reducible refine wpAny_loadPart_at hC ?_ |wp_step)
 have he2:=PY (h:=hp) {cls:=.type "tuple",data:=.seq #[v]} he;refine h _ hp.objs.size (λb o n q=>(RE _ _ (Qu n)).trans (PY _ q)) (bL hp) ?_;rw[Ro _ he2 rfl];rfl
theorem uw:UL (.type "Exception")=pure (.type "type"):=by first |rfl |kernel_rfl
theorem vN:WE "Exception" = false:=by decide +kernel
theorem wZ:handedIn (.builtin "Exception.__init__")=true:=by decide +kernel
theorem AG(g:CZ G)(T:fk G.K G.TC)(hne:nsIn G.K mainGlobals ("Exception":Qd)=some none)(I:kQ G.K fI fd p)(X:G.K.In s.heap)(hT:UI G.p G.loose G.mg G.mb s.heap)(hn:s.heap.Ns L m)(m1:m ("self":Qd)=some (.ref e))(m2:m ("why":Qd)=some v)(he:s.heap.get? e=some (bI G.TC none #[.ref t0,.none,.none,.none,.bool false,.none]))(h:∀h' t k,(∀b o,b≠e->s.heap.get? b=some o->h'.get? b=some o)->s.heap.get? t=none->h'.get? e=some (bI G.TC none #[.ref t,.none,.none,.none,.bool false,.none])->Q .none {s with heap:=h',toks:=k}):
  P2 (model prog G.w) A (eval (.Call (.Attribute (.Name "Exception" (p 0)) "__init__" (p 1)) [.Name "self" (p 2),.Name "why" (p 3)] [] (p 4)) (Vo fd L fI)) Q E s:=by
 rw[arm_eval_Call,cP rfl];refine wpAny_bind (QT I.kind I.exc (VL (mg:=G.mg) (mb:=G.mb) (by show s.heap.Ns fd.globals _;rw[I.globals];exact hT.g) (mg_none_of g.X g.T.g hne) (by show s.heap.Ns fd.builtins _;rw[I.builtins];exact hT.b) ((hT.builtins _ (by decide)).trans PyProof.Rows.Boot.«Exception») (wpAny_bind (wpAny_standAt ?_))) (by decide));have hform:methodCallForm (([.Name "self" (p 2),.Name "why" (p 3)]:List Expr).length+([]:List Keyword).length) (Uj (p 4) (Sa [.Name "self" (p 2),.Name "why" (p 3)] (Vo fd L fI))) (V1 (p 4) (Uc [] (Vo fd L fI)))=true:=rfl;have hpos:∀o,Um true o (Vo fd L fI) (p 1) (p 4)=pure (p 4):=λo=>by unfold Um;simp[I.line]
 unfold methodCall;rw[hform];refine wpAny_bind (wpAny_holding ?_);show P2 _ _ (Wn (.type "Exception") (PR "__init__") _) _ _ _;have e0:=tD G.K;have e1:=wZ;have e2:=uw;have e3:=vN;generalize PR "__init__" = nm at e0 |-;have e4:∀{Q:Value × List Value->PM->Prop}{pl}{s1:PM},G.K.In s1.heap->Q (.builtin "Exception.__init__",[]) {s1 with toks:=s1.toks+1}->P2 (model prog G.w) A (Wn (.type "Exception") nm pl) Q E s1:=λX h=>rn (T:="Exception") (name:=nm) (v:=.builtin "Exception.__init__") X e2 e3 e0 e1 h;refine e4 X ?_;refine wpAny_bind (Vc (hpos _) ?_);refine RA rfl (Rt (Rc ?_));refine ldc I.kind (I.locs _ (by simp)) hn m1 ?_;refine Rc ?_;refine ldc I.kind (I.locs _ (by simp)) hn m2 ?_;refine Rw ?_;exact qI (s:={s with toks:=s.toks+1}) T X he λh' t k1 k2 k3=>h h' t _ k1 k2 k3
theorem init_exc(g:CZ G)(T:fk G.K G.TC)(TM:kn G)(hne:nsIn G.K mainGlobals ("Exception":Qd)=some none)(I:kQ G.K fI fd p)(X:G.K.In s.heap)(hT:UI G.p G.loose G.mg G.mb s.heap)(he:s.heap.get? e=some (bI G.TC none #[.ref t0,.none,.none,.none,.bool false,.none]))(heK:G.K.lookup e=none)(hroom:A.depth < Vd)(h:∀h' t d k,(∀b o,b≠e->s.heap.get? b=some o->h'.get? b=some o)->s.heap.get? t=none->h'.get? e=some (bI G.TC (some d) #[.ref t,.none,.none,.none,.bool false,.none])->R (.ok (.ret .none)) {s with heap:=h',toks:=k}):
  Sl (model prog G.w) A (.call (.ref fI) ⟨[.ref e,v],[]⟩) R s:=by
 refine og I.at_ λoc od sl ho=>?_;have hloc:∀y∈dI e v,fd.scope.names.lookup y.1=some .local:=by
  intro y hy;simp only[dI,PJ,P6,or_false] at hy;rcases hy with rfl |rfl<;>exact I.locs _ (by simp)
 refine codeAny_call_def hroom (X _ _ ho) rfl hT.nolimit (WS X I.code) I.body (I.bind s X e v) I.cells hloc (λh₀ hn hk=>?_) I.co I.gen I.kind;have hL:s.heap.objs.size≠e:=TO (Qw he);have X0:G.K.In h₀:=X.keeps hk;have T0:UI G.p G.loose G.mg G.mb h₀:=hT.keeps hk;have he0:=hk _ _ he;have m1:(dI e v).reverse.lookup ("self":Qd)=some (.ref e):=rfl;have m2:(dI e v).reverse.lookup ("why":Qd)=some v:=rfl;unfold iG;refine RM (wpAny_Expr_any (AG (s:={s with heap:=h₀,toks:=s.toks+(dI e v).length}) g T hne I X0 T0 hn m1 m2 he0 λh1 t k hk1 ht1 he1=>?_) (by unfold interactive;rw[show(Vo fd s.heap.objs.size fI).scope=fd.scope from rfl,I.kind];rfl) (e8 rfl _ _ _));have hn1:h1.Ns s.heap.objs.size (λx=>(dI e v).reverse.lookup x):=by
  refine cY hn λo es ep e' r=>?_;exact⟨o,es,ep,hk1 _ _ hL e',r⟩
 have X1:G.K.In h1:=λb o q=>hk1 b o (λz=>by rw[z,heK] at q;exact bf q) (X0 b o q);refine RM (RY (ldc I.kind (I.locs _ (by simp)) hn1 m2 (ldc I.kind (I.locs _ (by simp)) hn1 m1 ?_)));refine H4 (s:={s with heap:=h1,toks:=k}) TM X1 he1 λh2 t2 d hk2 he2=>?_;refine RQ ?_;have fresh:s.heap.get? t=none:=by
  induction q:s.heap.get? t using Option.casesOn with
  |none=>rfl
  |some o=>have:=hk _ _ q;rw[ht1] at this;exact bf this
 exact h h2 t d t2 (λb o n q=>hk2 b o n (hk1 b o n (hk b o q))) fresh he2
end
end
section
structure l0 (G:GX):Prop where
 T:fk G.K G.TC
 TM:kn G
 TI:q5 G
 typ:Wg G.K (.ref G.TC)=some (.type "type")
 keep:VG G.K (.ref G.TC)=true
 noName:nsIn G.K mainGlobals ("Exception":Qd)=some none
 init:∃fI fd p,Sj G.K (.ref G.TC) "__init__" = some (some (.ref fI))/\Wg G.K (.ref fI)=some (.type "function")/\kQ G.K fI fd p
theorem lU{h:Qk}:h.FunFrames base l->(∀env∈l,∀a,env.frame=some a->a∈as)->h.FunFrames (hideAll h1 as) l:=by
 induction l with
 |nil=>exact λ_ _=>trivial
 |cons env l ih=>
  intro q hin;refine aX q.2.1 λL o hf hn ho hd=>?_;exact⟨q.1,⟨L,o,hf,hideAll_none _ (hin env (.head _) L hf),ho,hd⟩,ih q.2.2 λe he=>hin e (.tail _ he)⟩
section
variable{G:GX}
theorem tW(R:l0 G)(hh:A.handled=none)(h:P2 M A x (λv s₁=>∃e t d,v = .ref e/\G.K.In s₁.heap/\s₁.heap.get? e=some (bI G.TC d #[.ref t,.none,.none,.none,.bool false,.none])/\E (.ref e) s₁) E s):
  P2 M A (raiseStmt env (some x) none) Q E s:=by
 unfold raiseStmt;refine wpAny_bind (wpAny_mono h (λv s₁ h₁=>?_) λ_ _ x=>x)
 (refine rV h₁ λe t d q3q X he hE=>?_;obtain rfl:=q3q)
 obtain⟨hp,g,dr,tk,os⟩:=s₁;dsimp only at X he;have t1:Sv M hp (UL (.ref e)) (.ref G.TC):=(TF he).andThen .now;have t2:Sv M hp (UL (.ref G.TC)) (.type "type"):=looks_typeIn X R.typ;have n1:Sv M hp (isType (.ref e)) false:=(TF (part:=none) he).andThen .now;have n2:Sv M hp (WV (.ref e)) false:=n1.andThen .now;have i1:Sv M hp (VV (.ref e) (.type "BaseException")) true:=t1.andThen (RU X R.TI.exc);have x1:Sv M hp (excFromValue (.ref e) "exceptions must derive from BaseException") (.ref e):=n2.andThen (i1.andThen .now);have x2:Sv M hp (raisedInstance (.ref e)) (.ref e):=t1.andThen (t2.andThen .now);refine wpAny_bind (wpAny_pure (wpAny_bind (wpAny_holding (x1.here ?_))));dsimp only;refine wpAny_bind (n1.here ?_);simp only[QF,if_false];refine wpAny_bind (x2.here ?_);refine wpAny_bind ?_;unfold setFlight;refine wpAny_bind (Ua (x:=.none) he rfl rfl ?_);rw[if_neg (show ¬ ((Value.none != Value.none)=true) from by decide)];exact wpAny_pure (wpAny_raiseNew_none hh hE)
theorem AU(R:l0 G){cx:Cx}{x y:Qd}{p1 p2 p3 pos:Pos}{st:String}(hx:cx.gl x=some (.obj 1))(hy:cx.gl y=some (.str st)):aW G cx (exec (.Raise (some (.Call (.Name x p1) [.Name y p2] [] p3)) none pos)) qJ:=by
 intro c hG hcx ok so s m as M l Qm Qr a d kk;subst hG hcx;have d:c.X M:=d;refine kr (Cx.jf hx) λhd hl hn=>?_;refine kr (Cx.jf hy) λhdy hly hny=>?_;rw[ok.glob] at hl hly;have hT:nsIn c.G.K mainGlobals x=some (some (.ref c.G.TC)):=by
  rcases ok.g.glob x _ hl with⟨e,_⟩ |⟨_,e⟩ |⟨val,_,r⟩
  ·cases e
  ·exact e
  ·cases r with |obj q=>cases q
 obtain⟨val,hv,rv⟩:∃val,nsIn c.G.K mainGlobals y=some (some val)/\aF c.G c.G.base [] (.str st) val:=by
  rcases ok.g.glob y _ hly with⟨e,_⟩ |⟨e,_⟩ |z
  ·cases e
  ·cases e
  ·exact z
 have T:=a.inv.get ok.g;have X:=gp ok a;have hb:c.fr.env=c.env:=so.env.symm;show P2 c.M c.A (do standAt pos;raiseStmt c.env (some (do let v <- eval (.Call (.Name x p1) [.Name y p2] [] p3) c.env;standAt pos;pure v)) none) Qr c.E s;refine wpAny_bind (wpAny_standAt (tW R ok.a.handled ?_));refine wpAny_bind (Call_name1 rfl ?_);refine QT (by rw[ok.sc];exact ok.kind) (by unfold Rx;rw[ok.sc];exact hn) (RR (mg:=c.G.mg) (by rw[ok.globals];exact T.g) (Xf ok.g.X ok.g.T.g hT) ?_) hd;refine Wu (P:=c.G.K.In) rfl (keeps_K R.keep) (Rt (Rc ?_));refine QT (by rw[ok.sc];exact ok.kind) (by unfold Rx;rw[ok.sc];exact hny) (RR (mg:=c.G.mg) (by rw[ok.globals];exact T.g) (Xf ok.g.X ok.g.T.g hv) ?_) hdy;refine Rw ⟨X,wpAny_call ?_⟩;refine nu R.init λfI fd p hi hf I=>?_;obtain⟨h,g,dr,t,os⟩:=s;refine CK R.T X (by show 1<=R0;decide) hi hf ?_;have k2:∀b o,h.get? b=some o->((h.push {cls:=.type "tuple",data:=.seq [val].toArray}).push (bI c.G.TC none #[.ref h.objs.size,.none,.none,.none,.bool false,.none])).get? b=some o:=λb o e=>PY _ (PY _ e);have he:((h.push {cls:=.type "tuple",data:=.seq [val].toArray}).push (bI c.G.TC none #[.ref h.objs.size,.none,.none,.none,.bool false,.none])).get? (h.objs.size+1)=some (bI c.G.TC none #[.ref h.objs.size,.none,.none,.none,.bool false,.none]):=by heap_get
 have hen:h.get? (h.objs.size+1)=none:=Heap.get?_none_of_le (P5 _);have heK:c.G.K.lookup (h.objs.size+1)=none:=by
  induction q:c.G.K.lookup (h.objs.size+1) using Option.casesOn with
  |none=>rfl
  |some o=>have:=X _ _ q;rw[hen] at this;exact bf this
 refine init_exc (A:=c.A.under (.builtin "type.__call__" ⟨[.ref c.G.TC,val],[]⟩)) (prog:=c.G.prog) (s:=⟨(h.push {cls:=.type "tuple",data:=.seq [val].toArray}).push (bI c.G.TC none #[.ref h.objs.size,.none,.none,.none,.bool false,.none]),g,dr,t,os⟩) ok.g R.T R.TM R.noName I (X.keeps k2) (T.keeps k2) he heK (by rw[depth_under_kw];exact SW (show c.A.depth+1 < 981 by have:=ok.a.depth;exact nA this) (by decide)) λh2 t2 d2 k hk ht2 he2=>?_;have hold:∀b o,h.get? b=some o->h2.get? b=some o:=λb o e=>hk b o (λq=>by rw[q,hen] at e;exact bf e) (k2 b o e);refine⟨rfl,wpAny_bind (wpAny_standAt (wpAny_pure ⟨_,_,_,rfl,X.keeps hold,he2,?_⟩))⟩;have J:=Inv.grown a.inv (h':=h2) hold k;have fr_h:∀b∈as,h.get? b≠none:=λb q=>by obtain⟨⟨o,e⟩,_⟩:=a.inv.mem b q;exact λz=>by rw[show h.get? b=_ from e] at z;exact b8 z
 have hin:∀env∈(c.fr.env::c.fr.outer),∀b,env.frame=some b->b∈c.fr.fs:=λenv he b hb=>VF.mpr ⟨env,he,hb⟩;refine⟨_,t2,M,as,hideAll h c.fr.fs,m,rfl,d,J,a.st.trans (Step.gD hold),?_,?_,?_,?_,.inr ⟨?_,?_,?_,_,_,he2,rfl,rfl,rfl,rfl⟩⟩
 ·intro b o e
  exact Wv _ (a.inv.F.keep b o e) λq=>by rw[(gw.iz a.inv.eE q).1] at e;exact bf e
 ·intro b q o e
  obtain⟨⟨o',e'⟩,_,hf⟩:=a.inv.mem b q;rw[hold b o' e'] at e;obtain rfl:=PG e;exact Wv _ e' hf
 ·intro b o e n1 n2 n3
  exact Wv _ (a.st.keep b o e n1 n2 n3) n2
 ·exact λq=>fr_h _ q hen
 ·intro b o e
  exact hold b o (of_hideAll _ e)
 ·induction q:(hideAll h c.fr.fs).get? (h.objs.size+1) using Option.casesOn with
  |none=>rfl
  |some o=>have:=of_hideAll _ q;rw[hen] at this;exact bf this
 ·exact lU J.eE hin
theorem Ey(R:l0 G):gZ G:=⟨λ_ _ _ _ _ _ _ _ hx hy=>AU R hx hy,λ_ _ _ _ _ _ _ _ _ _ _ _ _ _ hx hy hc he=>F4 R.TI hx hy hc he⟩
end
end
section
theorem AI(ok:c.OK)(so:pJ c)(a:At c s m as M l)(hi:c.cx.loc x=some i)(hx:c.cx.sc.names.lookup x=some .local)(hm:m x=some (.ref w3))(hl:c.G.base.IsList w3 its.toArray)(hz:its.length<=63)(r:aE c.G s.heap as vs its)(k:∀s1 m1 as1 D,At c s1 m1 as1 (M.set D (.list vs)) (l.set i (some (.lst D)))->M D=none->Q .next s1):
  P2 c.M c.A (exec (.Assign [.Name x np] (.Subscript (.Name x np2) (.Slice none (some (.Constant (.int 63) k0 pk)) none p) pos) pos2) c.env) Q c.E s:=by
 refine kr (Cx.er hi) λhd _ _=>?_;refine Th (VI (wpAny_Name (ip ok a (.inl ⟨hx,.inl ⟨so.locs,hm⟩⟩) (U9 (wpAny_pure ?_))) hd)) (e8 rfl _ _ _);show P2 c.M c.A (eval (.Constant (.int 63) k0 pk) c.env) _ _ _;refine TV ?_;rw[Vz];refine wpAny_pure ?_;refine xA (a.tok.push {cls:=.type "slice",data:=.fields #[.none,.int 63 s.toks,.none]}) λa4 S4=>?_;have hl':(s.heap.push {cls:=.type "slice",data:=.fields #[.none,.int 63 s.toks,.none]}).IsList w3 its.toArray:=by
  refine aT hl λo ho e=>?_;exact⟨o,a4.inv.F.keep _ _ ho,e⟩
 refine tail_at (M:=c.M) hl'.typeIs Td.lookup (SR hl' (R8 ..) .none (.int _ _) .none (by simp) ?_ (PH (by simpa using hz) (by decide)));have hv:vs.length<=bh:=by rw[r.length];unfold bh;exact nA hz
 refine bw.new (Qm:=λv M1=>∃D,v = .lst D/\M D=none/\M1=M.set D (.list vs)) (Qr:=λv s'=>P2 c.M c.A (storeName c.env x v) (λ_=>Q .next) c.E s') a4 ⟨hv,λD hD=>⟨D,rfl,hD,rfl⟩⟩ ?_ λv s5 M5 as5 x5 a5 S5 r5 q=>?_
 ·rw[ue,Ry,Qo]
  have:(its.take (bA 63 its.length)).drop 0=its:=by
   rw[Ss,RD];unfold bA;rw[if_neg (by exact λz=>iF (iA z))];show its.length<=min 63 its.length;lia
  show aE c.G _ as vs (List.drop 0 (List.take (bA 63 its.length) its));rw[this];exact r.step S4
 ·(refine j8 q λD q1q hD q3q=>?_;obtain rfl:=q1q;obtain rfl:=q3q)
  exact bG ok so a5 hi r5 λs6 m6 a6 _=>k s6 m6 as5 D a6 hD
end
section
structure bS where
 i:Int
 lo:0<=i
 hi:i < 4294967296
theorem bS.ext{a b:bS}(h:a.i=b.i):a=b:=by induction a using bS.casesOn;induction b using bS.casesOn;cases h;rfl
noncomputable def wr(i:Int):bS:=⟨i % 4294967296,Int.emod_nonneg _ (by decide),Int.emod_lt_of_pos _ (by decide)⟩
theorem Ny(x:bS):wr x.i=x:=bS.ext (Ug x.lo x.hi)
theorem JD(i:Int):(wr i).i=i % 4294967296:=rfl
structure fX where
 i:Int
 lo:-2147483648<=i
 hi:i < 2147483648
theorem fX.ext{a b:fX}(h:a.i=b.i):a=b:=by induction a using fX.casesOn;induction b using fX.casesOn;cases h;rfl
noncomputable def sg(x:bS):fX:=if h:x.i < 2147483648 then⟨x.i,by have:=x.lo;exact iA this,h⟩ else⟨x.i - 4294967296,by have:=x.lo;exact iN h,by have:=x.hi;exact iA this⟩
theorem Hk(x:bS):wr (sg x).i=x:=by
 apply bS.ext;have:=x.lo;have:=x.hi;unfold sg wr;split<;>simp only<;>lia
theorem kg(c:fX):(wr c.i).i=0↔c.i=0:=by
 have:=c.lo;have:=c.hi;unfold wr;simp only;lia
inductive I where
 |pQ |oM |br (k:Nat) |b7 (k:Nat) |hW (j k:Nat) |ret |call |drop |sel
 |get (i:Nat) |set (i:Nat) |dW (i:Nat) |cst (c:fX) |ic |add |sub |div
inductive H where
 |dg (v:Bool) |ku |iff (v:Bool)
inductive T where
 |leaf (i:I)
 |one (h:H) (a:List T)
 |two (v:Bool) (a b:List T)
structure St where
 ak:List bS
 loc:List bS
 tr:List bS
inductive O where
 |next |br (k:Nat) |ret |bk
abbrev KT:=O->St->Nat->Prop
noncomputable def pop(s:St)(f:bS->St->Option (O × St × Nat)):Option (O × St × Nat):=match s.ak with
 |[]=>none
 |x::r=>f x {s with ak:=r}
noncomputable def Bf(s:St)(x:bS)(d:Nat):Option (O × St × Nat):=some (.next,{s with ak:=x::s.ak},d)
noncomputable def wi(i:I)(s:St):Option (O × St × Nat):=match i with
 |.pQ=>some (.bk,s,1)
 |.oM=>some (.next,s,1)
 |.br k=>some (.br k,s,1)
 |.b7 k=>pop s λx s=>some (if x.i≠0 then .br k else .next,s,1)
 |.hW j k=>pop s λx s=>some (.br (if x.i=0 then j else k),s,1)
 |.ret=>some (.ret,s,1)
 |.call=>pop s λx s=>some (.next,{s with ak:=wr (x.i+1)::s.ak,tr:=s.tr++[x]},1)
 |.drop=>pop s λ_ s=>some (.next,s,1)
 |.sel=>pop s λz s=>pop s λy s=>pop s λx s=>Bf s (if z.i≠0 then x else y) 2
 |.get i=>(s.loc[i]?).bind λx=>Bf s x 1
 |.set i=>pop s λx s=>if i < s.loc.length then some (.next,{s with loc:=s.loc.set i x},1) else none
 |.dW i=>pop s λx s=>if i < s.loc.length then some (.next,{s with ak:=x::s.ak,loc:=s.loc.set i x},1) else none
 |.cst n=>Bf s (wr n.i) 1
 |.ic=>pop s λx s=>Bf s (wr (if x.i=0 then 1 else 0)) 1
 |.add=>pop s λy s=>pop s λx s=>Bf s (wr (x.i+y.i)) 1
 |.sub=>pop s λy s=>pop s λx s=>Bf s (wr (x.i - y.i)) 1
 |.div=>pop s λy s=>pop s λx s=>if y.i=0 then some (.bk,s,1) else Bf s (wr (x.i / y.i)) 1
def WO(z:Option (O × St × Nat))(K:KT)(c:Nat):Prop:=match z with
 |none=>False
 |some z=>K z.1 z.2.1 (c+z.2.2)
def WI(i:I)(K:KT)(s:St)(c:Nat):Prop:=WO (wi i s) K c
theorem HL[Decidable p]{z:O × St × Nat}{K:KT}{c:Nat}:WO (if p then some z else none) K c↔p/\K z.1 z.2.1 (c+z.2.2):=by
 by_cases h:p
 ·rw[if_pos h];exact⟨λw=>⟨h,w⟩,λw=>w.2⟩
 ·rw[if_neg h];exact⟨λw=>w.elim,λw=>h w.1⟩
def lv(m h:Nat)(K:KT):KT:=λo s c=>match o with
 |.next=>K .next s c
 |.br 0=>h+m<=s.ak.length/\K .next {s with ak:=s.ak.take m++s.ak.drop (s.ak.length - h)} c
 |.br (k+1)=>K (.br k) s c
 |.ret=>K .ret s c
 |.bk=>K .bk s c
def qo(h:Nat)(P:St->Nat->Prop)(K:KT):KT:=λo s c=>match o with
 |.next=>K .next s c
 |.br 0=>h<=s.ak.length/\P {s with ak:=s.ak.drop (s.ak.length - h)} c
 |.br (k+1)=>K (.br k) s c
 |.ret=>K .ret s c
 |.bk=>K .bk s c
noncomputable def b9(h:Nat)(B:KT->St->Nat->Prop)(K:KT):Nat->St->Nat->Prop
 |0,_,_=>False
 |n+1,s,c=>B (qo h (λs c=>b9 h B K n s c) K) s c
def fM(P:St->Nat->Prop)(K:KT):KT:=λo s c=>match o with
 |.next=>P s c
 |.br k=>K (.br k) s c
 |.ret=>K .ret s c
 |.bk=>K .bk s c
noncomputable def mv(v:Bool):Nat:=if v then 1 else 0
mutual
noncomputable def W1:T->KT->St->Nat->Prop
 |.leaf i,K,s,c=>WI i K s c
 |.one h a,K,s,c=>match h with
  |.dg v=>W a (lv (mv v) s.ak.length K) s (c+2)
  |.ku=>∃n,b9 s.ak.length (W a) K n s (c+2)
  |.iff v=>match s.ak with
   |[]=>False
   |x::r=>if x.i≠0 then W a (lv (mv v) r.length K) {s with ak:=r} (c+2) else K .next {s with ak:=r} (c+2)
 |.two v a b,K,s,c=>match s.ak with
  |[]=>False
  |x::r=>if x.i≠0 then W a (lv (mv v) r.length K) {s with ak:=r} (c+3) else W b (lv (mv v) r.length K) {s with ak:=r} (c+3)
noncomputable def W:List T->KT->St->Nat->Prop
 |[],K,s,c=>K .next s c
 |t::ts,K,s,c=>W1 t (fM (W ts K) K) s c
end
theorem T.dO{P:T->Prop}{Q:List T->Prop}(h1:∀i,P (.leaf i))(h2:∀h a,Q a->P (.one h a))(h3:∀v a b,Q a->Q b->P (.two v a b))(h4:Q [])(h5:∀t ts,P t->Q ts->Q (t::ts)):(∀t,P t)/\∀ts,Q ts:=
 ⟨λt=>T.rec (motive_1:=P) (motive_2:=Q) h1 (λh a=>h2 h a) (λv a b=>h3 v a b) h4 (λt ts=>h5 t ts) t,
  λts=>T.rec_1 (motive_1:=P) (motive_2:=Q) h1 (λh a=>h2 h a) (λv a b=>h3 v a b) h4 (λt ts=>h5 t ts) ts⟩
end
section
def su(K K':KT):Prop:=∀o s c c',c'<=c->K o s c->K' o s c'
theorem WI.le{K K':KT}(h:su K K'){s:St}{c c':Nat}(hc:c'<=c)(w:WI i K s c):WI i K' s c':=by
 unfold WI at w |-;revert w;induction wi i s using Option.casesOn with
 |none=>exact id
 |some z=>exact h _ _ _ _ (P7 hc _)
theorem lI{m h:Nat}{K K':KT}(hk:su K K'):su (lv m h K) (lv m h K'):=λo s c c' hc w=>by
 induction o using O.casesOn with
 |br k=>induction k using P0 with
  |zero=>exact⟨w.1,hk _ _ _ _ hc w.2⟩
  |succ k=>exact hk _ _ _ _ hc w
 |_=>exact hk _ _ _ _ hc w
theorem rD{P P':St->Nat->Prop}{K K':KT}(hP:∀s c c',c'<=c->P s c->P' s c')(hk:su K K'):su (fM P K) (fM P' K'):=λo s c c' hc w=>by
 induction o using O.casesOn with
 |next=>exact hP _ _ _ hc w
 |_=>exact hk _ _ _ _ hc w
theorem iv{h:Nat}{B B':KT->St->Nat->Prop}(hB:∀{K K':KT},su K K'->∀s c c',c'<=c->B K s c->B' K' s c'){K K':KT}(hk:su K K'):∀{n:Nat}{s:St}{c c':Nat},c'<=c->b9 h B K n s c->b9 h B' K' n s c':=by
 intro n;induction n with
 |zero=>
  intro _ _ _ _ w;exact w.elim
 |succ n ih=>
  intro s c c' hc w;exact hB (λo s1 c1 c1' hc1 w1=>by
   induction o using O.casesOn with
   |br k=>induction k using P0 with
    |zero=>exact⟨w1.1,ih hc1 w1.2⟩
    |succ k=>exact hk _ _ _ _ hc1 w1
   |_=>exact hk _ _ _ _ hc1 w1) s c c' hc w
theorem c9{p:Prop}[Decidable p]{A B C D:Prop}(h:A->C)(h':B->D)(w:if p then A else B):if p then C else D:=by
 by_cases q:p
 ·rw[if_pos q] at w |-;exact h w
 ·rw[if_neg q] at w |-;exact h' w
theorem uM:(∀t,∀(K K':KT),su K K'->∀(s:St)(c c':Nat),c'<=c->W1 t K s c->W1 t K' s c')/\(∀ts,∀(K K':KT),su K K'->∀(s:St)(c c':Nat),c'<=c->W ts K s c->W ts K' s c'):=by
 refine T.dO (λi K K' h s c c' hc w=>?_) (λhh a ih K K' h s c c' hc w=>?_) (λv a b iha ihb K K' h s c c' hc w=>?_) (λK K' h s c c' hc w=>?_) (λt ts iht ihs K K' h s c c' hc w=>?_)
 ·exact WI.le h hc w
 ·induction hh using H.casesOn with
  |dg v=>exact ih _ _ (lI h) _ _ _ (P7 hc _) w
  |ku=>refine xE w λn w=>?_;exact⟨n,iv (λhk s c c' hc w=>ih _ _ hk s c c' hc w) h (P7 hc _) w⟩
  |iff v=>
   obtain⟨ak,loc,tr⟩:=s;induction ak using PI with
   |nil=>exact w
   |cons x r=>exact c9 (ih _ _ (lI h) _ _ _ (P7 hc _)) (h _ _ _ _ (P7 hc _)) w
 ·obtain⟨ak,loc,tr⟩:=s
  induction ak using PI with
  |nil=>exact w
  |cons x r=>exact c9 (iha _ _ (lI h) _ _ _ (P7 hc _)) (ihb _ _ (lI h) _ _ _ (P7 hc _)) w
 ·exact h _ _ _ _ hc w
 ·exact iht _ _ (rD (λs c c' hc w=>ihs _ _ h s c c' hc w) h) _ _ _ hc w
theorem W1.le{K K':KT}(h:su K K'){s:St}{c c':Nat}(hc:c'<=c)(w:W1 t K s c):W1 t K' s c':=uM.1 t _ _ h _ _ _ hc w
theorem W.le{K K':KT}(h:su K K'){s:St}{c c':Nat}(hc:c'<=c)(w:W ts K s c):W ts K' s c':=uM.2 ts _ _ h _ _ _ hc w
def Dn(K:KT):Prop:=su K K
theorem Dn.lv{m h:Nat}{K:KT}(d:Dn K):Dn (lv m h K):=lI d
theorem Dn.fM{K:KT}(d:Dn K):Dn (fM (W ts K) K):=rD (λ_ _ _ hc w=>w.le d hc) d
theorem B7{K:KT}{s:St}{c:Nat}:W [] K s c=K .next s c:=rfl
theorem sm{K:KT}{s:St}{c:Nat}:W (t::ts) K s c=W1 t (fM (W ts K) K) s c:=rfl
theorem GJ{K:KT}(ih:∀s c,W (a++b) K s c=W a (fM (W b K) K) s c):fM (W (a++b) K) K=fM (W a (fM (W b K) K)) (fM (W b K) K):=by
 funext o s c
 induction o using O.casesOn with
 |next=>exact ih s c
 |_=>rfl
theorem nH{a b:List T}{K:KT}:∀{s:St}{c:Nat},W (a++b) K s c=W a (fM (W b K) K) s c:=by
 induction a with
 |nil=>intro s c;rw[Rk,B7];rfl
 |cons t a ih=>intro s c;rw[Qz,sm,sm,GJ λs c=>ih]
theorem dR{t:T}{K:KT}{s:St}{c:Nat}:W [t] K s c=W1 t K s c:=by
 rw[sm];congr 1
 funext o s c
 induction o using O.casesOn with
 |next=>exact B7
 |_=>rfl
def Ref(ts us:List T):Prop:=∀K,Dn K->∀s c,W ts K s c->W us K s c
theorem Ref.refl(ts:List T):Ref ts ts:=λ_ _ _ _ w=>w
theorem Ref.trans(x:Ref a b)(y:Ref b c):Ref a c:=λK d s n w=>y K d s n (x K d s n w)
theorem Ref.append(x:Ref a a')(y:Ref b b'):Ref (a++b) (a'++b'):=λK d s n w=>by
 rw[nH] at w |-;refine x _ d.fM s n (w.le (rD (λs c c' hc w=>y K d s c' (w.le d hc)) d) (PK _)) |>.le ?_ (PK _)
 exact rD (λs c c' hc w=>w.le d hc) d
theorem Ref.left(x:Ref a a')(b:List T):Ref (a++b) (a'++b):=x.append (.refl b)
theorem Ref.right(a:List T)(x:Ref b b'):Ref (a++b) (a++b'):=(Ref.refl a).append x
def zL(t u:T):Prop:=∀K,Dn K->∀s c,W1 t K s c->W1 u K s c
theorem zL.ref(x:zL t u):Ref [t] [u]:=λK d s c w=>by rw[dR] at w |-;exact x K d s c w
end
section
def fW(o:O)(s:St)(d:Nat):KT:=λo1 s1 c1=>o1=o/\s1=s/\c1<=d
theorem fW.dn:Dn (fW o s d):=λo1 s1 c c' hc w=>⟨w.1,w.2.1,PH hc w.2.2⟩
theorem fW.to{o:O}{s:St}{d:Nat}{K:KT}(dn:Dn K)(h:K o s d):su (fW o s d) K:=λo1 s1 c c' hc q=>by
 obtain⟨rfl,rfl,q⟩:=q;exact dn _ _ _ _ (PH hc q) h
theorem fW.self:fW o s d o s d:=⟨rfl,rfl,PK _⟩
theorem Jp{h:Nat}{P:St->Nat->Prop}{K:KT}(hP:∀s c c',c'<=c->P s c->P s c')(d:Dn K):Dn (qo h P K):=λo s c c' hc w=>by
 induction o using O.casesOn with
 |br k=>induction k using P0 with
  |zero=>exact⟨w.1,hP _ _ _ hc w.2⟩
  |succ k=>exact d _ _ _ _ hc w
 |_=>exact d _ _ _ _ hc w
theorem jl{h:Nat}{K:KT}{n:Nat}(d:Dn K):Dn (qo h (λs c=>b9 h (W a) K n s c) K):=
 Jp (λs c c' hc w=>iv (λhk s c c' hc w=>w.le hk hc) d hc w) d
def Pw(f:KT->KT):Prop:=∀K o s d,f K o s d->∃o' s' d',K o' s' d'/\su (fW o s d) (f (fW o' s' d'))
theorem yl:Pw (lv m h):=λK o s d w=>by
 induction o using O.casesOn with
 |br k=>induction k using P0 with
  |zero=>exact⟨_,_,_,w.2,fW.to fW.dn.lv ⟨w.1,.self⟩⟩
  |succ k=>exact⟨_,_,_,w,fW.to fW.dn.lv fW.self⟩
 |_=>exact⟨_,_,_,w,fW.to fW.dn.lv fW.self⟩
theorem WI.pt{K:KT}{s:St}{c:Nat}(w:WI i K s c):∃o s' d,K o s' d/\WI i (fW o s' d) s c:=by
 unfold WI at w |-;revert w;induction wi i s using Option.casesOn with
 |none=>exact False.elim
 |some z=>exact λw=>⟨_,_,_,w,rfl,rfl,PK _⟩
theorem rz{h:Nat}{K:KT}{n:Nat}{s:St}{c:Nat}{o:O}{s':St}{d:Nat}(w:W a (fW o s' d) s c)(dn:Dn K)(x:qo h (λs c=>b9 h (W a) K n s c) K o s' d):b9 h (W a) K (n+1) s c:=w.le (fW.to (jl dn) x) (PK _)
theorem DO{h:Nat}{a:List T}(ih:∀K s c,W a K s c->∃o s' d,K o s' d/\W a (fW o s' d) s c){K:KT}:∀{n:Nat}{s:St}{c:Nat},b9 h (W a) K n s c->∃o s' d,K o s' d/\b9 h (W a) (fW o s' d) n s c:=by
 intro n;induction n with
 |zero=>
  intro _ _ w;exact w.elim
 |succ n ihr=>
  intro s c w;refine cY (ih _ _ _ w) λo s' d w1 w2=>?_;induction o using O.casesOn with
  |br k=>induction k using P0 with
   |zero=>
    refine cY (ihr w1.2) λo2 s2 d2 v1 v2=>?_;exact⟨o2,s2,d2,v1,rz w2 fW.dn ⟨w1.1,v2⟩⟩
   |succ k=>exact⟨_,_,_,w1,rz w2 fW.dn fW.self⟩
  |_=>exact⟨_,_,_,w1,rz w2 fW.dn fW.self⟩
theorem yn{f:KT->KT}(pw:Pw f)(ih:∀K s c,W a K s c->∃o s' d,K o s' d/\W a (fW o s' d) s c){K:KT}{s:St}{c:Nat}(w:W a (f K) s c):∃o s' d,K o s' d/\W a (f (fW o s' d)) s c:=by
 refine cY (ih _ _ _ w) λo s' d w1 w2=>?_;refine cY (pw _ _ _ _ w1) λo' s'' d' v1 v2=>?_;exact⟨o',s'',d',v1,w2.le v2 (PK _)⟩
theorem Hv[Decidable p]{A B:KT->Prop}{K:KT}(ha:A K->∃o s d,K o s d/\A (fW o s d))(hb:B K->∃o s d,K o s d/\B (fW o s d))(w:if p then A K else B K):∃o s d,K o s d/\if p then A (fW o s d) else B (fW o s d):=by
 by_cases h:p
 ·rw[if_pos h] at w;simp only[if_pos h];exact ha w
 ·rw[if_neg h] at w;simp only[if_neg h];exact hb w
theorem Dy{K:KT}{s:St}{c:Nat}{o:O}{s':St}{d:Nat}(w:W1 t (fW o s' d) s c)(dn:Dn K)(x:fM (W ts K) K o s' d):W (t::ts) K s c:=w.le (fW.to dn.fM x) (PK _)
theorem CT:(∀t,∀K s c,W1 t K s c->∃o s' d,K o s' d/\W1 t (fW o s' d) s c)/\(∀ts,∀K s c,W ts K s c->∃o s' d,K o s' d/\W ts (fW o s' d) s c):=by
 refine T.dO (λi K s c w=>WI.pt w) (λhh a ih K s c w=>?_) (λv a b iha ihb K s c w=>?_) (λK s c w=>⟨_,_,_,w,fW.self⟩) (λt ts iht ihs K s c w=>?_)
 ·induction hh using H.casesOn with
  |dg v=>exact yn yl ih w
  |ku=>
   refine xE w λn w=>?_;refine cY (DO ih w) λo s' d w1 w2=>?_;exact⟨o,s',d,w1,n,w2⟩
  |iff v=>
   obtain⟨ak,loc,tr⟩:=s;induction ak using PI with
   |nil=>exact w.elim
   |cons x r=>exact Hv (A:=λK=>W a (lv (mv v) r.length K) ⟨r,loc,tr⟩ (c+2)) (B:=λK=>K .next ⟨r,loc,tr⟩ (c+2)) (yn yl ih) (λw=>⟨_,_,_,w,fW.self⟩) w
 ·obtain⟨ak,loc,tr⟩:=s
  induction ak using PI with
  |nil=>exact w.elim
  |cons x r=>exact Hv (A:=λK=>W a (lv (mv v) r.length K) ⟨r,loc,tr⟩ (c+3)) (B:=λK=>W b (lv (mv v) r.length K) ⟨r,loc,tr⟩ (c+3)) (yn yl iha) (yn yl ihb) w
 ·refine cY (iht _ _ _ w) λo s' d w1 w2=>?_
  induction o using O.casesOn with
  |next=>
   refine cY (ihs _ _ _ w1) λo' s'' d' v1 v2=>?_;exact⟨o',s'',d',v1,Dy w2 fW.dn v2⟩
  |_=>exact⟨_,_,_,w1,Dy w2 fW.dn fW.self⟩
theorem W.pt{K:KT}{s:St}{c:Nat}(w:W ts K s c):∃o s' d,K o s' d/\W ts (fW o s' d) s c:=CT.2 ts K s c w
theorem zD{h:Nat}(x:Ref a a'){K:KT}(d:Dn K):∀{n:Nat}{s:St}{c:Nat},b9 h (W a) K n s c->b9 h (W a') K n s c:=by
 intro n;induction n with
 |zero=>
  intro _ _ w;exact w
 |succ n ih=>
  intro s c w;refine(x _ (jl d) s c w).le (λo s1 c1 c1' hc w1=>?_) (PK _);induction o using O.casesOn with
  |br k=>induction k using P0 with
   |zero=>exact⟨w1.1,iv (λhk s c c' hc w=>w.le hk hc) d hc (ih w1.2)⟩
   |succ k=>exact d _ _ _ _ hc w1
  |_=>exact d _ _ _ _ hc w1
theorem Ref.one(x:Ref a a')(h:H):zL (.one h a) (.one h a'):=λK d s c w=>by
 induction h using H.casesOn with
 |dg v=>exact x _ d.lv _ _ w
 |ku=>refine xE w λn w=>?_;exact⟨n,zD x d w⟩
 |iff v=>
  obtain⟨ak,loc,tr⟩:=s;induction ak using PI with
  |nil=>exact w
  |cons y r=>exact c9 (x _ d.lv _ _) id w
theorem Ref.two(x:Ref a a')(y:Ref b b')(v:Bool):zL (.two v a b) (.two v a' b'):=λK d s c w=>by
 obtain⟨ak,loc,tr⟩:=s;induction ak using PI with
 |nil=>exact w
 |cons z r=>exact c9 (x _ d.lv _ _) (y _ d.lv _ _) w
mutual
noncomputable def eX(f:List T->T->List T):T->T
 |.leaf i=>.leaf i
 |.one h a=>.one h (gV f [] a)
 |.two v a b=>.two v (gV f [] a) (gV f [] b)
noncomputable def gV(f:List T->T->List T)(acc:List T):List T->List T
 |[]=>acc
 |t::ts=>gV f (f acc (eX f t)) ts
end
noncomputable def qn(f:List T->T->List T)(ts:List T):List T:=gV f [] ts
theorem tx(hf:∀acc t,Ref (acc++[t]) (f acc t)):(∀t,zL t (eX f t))/\(∀ts acc,Ref (acc++ts) (gV f acc ts)):=by
 refine T.dO (λi=>?_) (λh a ih=>?_) (λv a b iha ihb=>?_) (λacc=>?_) (λt ts iht ihs acc=>?_)
 ·unfold eX;exact λK d s c w=>w
 ·unfold eX;exact Ref.one (ih []) h
 ·unfold eX;exact Ref.two (iha []) (ihb []) v
 ·unfold gV;rw[Qg];exact .refl _
 ·unfold gV
  refine Ref.trans ?_ (ihs _);rw[show acc++t::ts=(acc++[t])++ts by simp];exact Ref.left (Ref.trans (Ref.right acc (iht.ref)) (hf _ _)) ts
theorem jT(hf:∀acc t,Ref (acc++[t]) (f acc t))(ts:List T):Ref ts (qn f ts):=(tx hf).2 ts []
end
section
noncomputable def lf(i:I):T:=.leaf i
noncomputable def lN:T->Bool
 |.leaf (.get _)=>true
 |.leaf (.cst _)=>true
 |_=>false
noncomputable def vB(i:I):Bool:=match i with |.add=>true |.sub=>true |.div=>true |_=>false
theorem fO{P:I->Prop}(h1:P .add)(h2:P .sub)(h3:P .div)(h:vB i=true):P i:=by
 induction i using I.casesOn<;>first |assumption |exact(VP h).elim
noncomputable def D2(i:I)(x y:bS):Option bS:=match i with
 |.add=>some (wr (x.i+y.i))
 |.sub=>some (wr (x.i - y.i))
 |.div=>if y.i=0 then none else some (wr (x.i / y.i))
 |_=>none
noncomputable def sy(i:I):Int:=match i with |.div=>1 |_=>0
noncomputable def Oh(i:I):Option fX:=match i with |.cst a=>some a |_=>none
noncomputable def ky(t:T):Option fX:=match t with |.leaf i=>Oh i |_=>none
noncomputable def Bn(r:List T):Option fX:=match r with |[]=>none |t::_=>ky t
theorem jV(h:ky t=some a):t = .leaf (.cst a):=by
 induction t using T.casesOn with
 |leaf i=>induction i using I.casesOn<;>first |exact bf h |exact congrArg (λa=>T.leaf (.cst a)) (PG h)
 |_=>exact bf h
theorem yB(h:Bn r=some a):∃q,r = .leaf (.cst a)::q:=by
 induction r using PI with
 |nil=>exact bf h
 |cons t q=>exact⟨q,congrArg (·::q) (jV h)⟩
noncomputable def mI(i:I)(b:fX)(r:List T):Option (List T):=match Bn r with
 |some a=>(D2 i (wr a.i) (wr b.i)).map λz=>.leaf (.cst (sg z))::r.tail
 |none=>if b.i=sy i then some r else none
noncomputable def HO(r:List T):Option (List T):=match r with
 |[]=>none
 |p::q=>if lN p then some (p::.leaf .drop::q) else none
noncomputable def foldI(i:I)(b:fX)(r:List T):Option (List T):=match i with
 |.ic=>some (.leaf (.cst (sg (wr (if(wr b.i).i=0 then 1 else 0))))::r)
 |.add=>mI .add b r
 |.sub=>mI .sub b r
 |.div=>mI .div b r
 |.sel=>if b.i≠0 then some (.leaf .drop::r) else HO r
 |.hW j k=>some (.leaf (.br (if b.i=0 then j else k))::r)
 |.b7 k=>if b.i≠0 then some (.leaf (.br k)::r) else some r
 |_=>none
noncomputable def DX(t:T)(b:fX)(r:List T):Option (List T):=match t with
 |.leaf i=>foldI i b r
 |.one h a=>match h with
  |.iff v=>some (.one (.dg v) (if b.i≠0 then a else[])::r)
  |_=>none
 |.two v a c=>some (.one (.dg v) (if b.i≠0 then a else c)::r)
noncomputable def uU(t u:T)(r:List T):Option (List T):=match ky u with
 |none=>none
 |some b=>DX t b r
noncomputable def cg(xs:List T):Option (List T):=match xs with
 |[]=>none
 |t::xs=>match xs with
  |[]=>none
  |u::r=>uU t u r
theorem ka{P:List T->List T->Prop}(h1:∀b r,P (.leaf .ic::.leaf (.cst b)::r) (.leaf (.cst (sg (wr (if(wr b.i).i=0 then 1 else 0))))::r))(h2:∀i a b z r,vB i=true->D2 i (wr a.i) (wr b.i)=some z->P (.leaf i::.leaf (.cst b)::.leaf (.cst a)::r) (.leaf (.cst (sg z))::r))(h3:∀i b r,vB i=true->b.i=sy i->P (.leaf i::.leaf (.cst b)::r) r)(h4:∀b r,b.i≠0->P (.leaf .sel::.leaf (.cst b)::r) (.leaf .drop::r))(h5:∀b p r,¬ b.i≠0->lN p=true->P (.leaf .sel::.leaf (.cst b)::p::r) (p::.leaf .drop::r))(h6:∀b v a r,P (.one (.iff v) a::.leaf (.cst b)::r) (.one (.dg v) (if b.i≠0 then a else[])::r))(h7:∀b v a c r,P (.two v a c::.leaf (.cst b)::r) (.one (.dg v) (if b.i≠0 then a else c)::r))(h8:∀b j k r,P (.leaf (.hW j k)::.leaf (.cst b)::r) (.leaf (.br (if b.i=0 then j else k))::r))(h9:∀b k r,b.i≠0->P (.leaf (.b7 k)::.leaf (.cst b)::r) (.leaf (.br k)::r))(h10:∀b k r,¬ b.i≠0->P (.leaf (.b7 k)::.leaf (.cst b)::r) r)(h:cg xs=some ys):P xs ys:=by
 rcases xs with _ |⟨t,_ |⟨u,r⟩⟩
 ·exact bf h
 ·exact bf h
 ·induction e:ky u using Option.casesOn with
  |none=>
   have h:uU t u r=some ys:=h;unfold uU at h;rw[e] at h;exact bf h
  |some b=>
   obtain rfl:=jV e;have h:DX t b r=some ys:=h;clear e;have op:∀i,vB i=true->mI i b r=some ys->P (.leaf i::.leaf (.cst b)::r) ys:=λi hi h=>by
    induction e:Bn r using Option.casesOn with
    |none=>
     unfold mI at h;rw[e] at h;by_cases q:b.i=sy i
     ·obtain rfl:=PG ((if_pos q).symm.trans h);exact h3 _ _ _ hi q
     ·exact absurd ((if_neg q).symm.trans h) nofun
    |some a=>
     (refine xE (yB e) λq q1q=>?_;obtain rfl:=q1q)
     (refine aT (Qa.mp h) λz hz q2q=>?_;obtain rfl:=q2q)
     exact h2 _ _ _ _ _ hi hz
   induction t using T.casesOn with
   |leaf i=>induction i using I.casesOn with
    |ic=>obtain rfl:=PG h;exact h1 _ _
    |add=>exact op _ rfl h
    |sub=>exact op _ rfl h
    |div=>exact op _ rfl h
    |sel=>
     by_cases q:b.i≠0
     ·obtain rfl:=PG ((if_pos q).symm.trans h);exact h4 _ _ q
     ·have h:HO r=some ys:=(if_neg q).symm.trans h
      induction r using PI with
      |nil=>exact bf h
      |cons p r=>
       induction hp:lN p using PU with
       |true=>obtain rfl:=PG ((if_pos hp).symm.trans h);exact h5 _ _ _ q hp
       |false=>exact absurd ((if_neg (by rw[hp];decide)).symm.trans h) nofun
    |hW j k=>obtain rfl:=PG h;exact h8 _ _ _ _
    |b7 k=>
     by_cases q:b.i≠0
     ·obtain rfl:=PG ((if_pos q).symm.trans h);exact h9 _ _ _ q
     ·obtain rfl:=PG ((if_neg q).symm.trans h);exact h10 _ _ _ q
    |_=>exact bf h
   |one hh a=>induction hh using H.casesOn with
    |iff v=>obtain rfl:=PG h;exact h6 _ _ _ _
    |_=>exact bf h
   |two v a c=>obtain rfl:=PG h;exact h7 _ _ _ _ _
theorem Dn.at{K:KT}(d:Dn K){o:O}{s s':St}{c c':Nat}(w:K o s c)(e:s=s')(hc:c'<=c):K o s' c':=e ▸ d _ _ _ _ hc w
theorem tY(a:fX):Ref [.leaf (.cst a),.leaf .ic] [.leaf (.cst (sg (wr (if(wr a.i).i=0 then 1 else 0))))]:=λK d s c w=>
 d.at (o:=.next) (c:=c+1+1) w (by rw[Hk]) (P5 _)
theorem Mt(x:bS)(h:i=x.i):wr i=x:=by rw[h];exact Ny x
theorem FJ{a b:fX}(hi:vB i=true)(hz:D2 i (wr a.i) (wr b.i)=some z):Ref [.leaf (.cst a),.leaf (.cst b),.leaf i] [.leaf (.cst (sg z))]:=λK d s c w=>by
 have e:W [.leaf (.cst a),.leaf (.cst b),.leaf i] K s c=K .next ⟨z::s.ak,s.loc,s.tr⟩ (c+1+1+1):=by
  clear w;revert hz;refine fO (P:=λi=>D2 i (wr a.i) (wr b.i)=some z->W [.leaf (.cst a),.leaf (.cst b),.leaf i] K s c=K .next ⟨z::s.ak,s.loc,s.tr⟩ (c+1+1+1)) (λhz=>?_) (λhz=>?_) (λhz=>?_) hi
  ·obtain rfl:=PG hz;rfl
  ·obtain rfl:=PG hz;rfl
  ·by_cases q:(wr b.i).i=0
   ·exact absurd ((if_pos q).symm.trans hz) nofun
   ·obtain rfl:=PG ((if_neg q).symm.trans hz)
    exact congrArg (WO · (fM (W [] K) K) (c+1+1)) (if_neg q)
 rw[e] at w;exact d.at (o:=.next) w (by rw[Hk]) (P8 (c+1) 2)
theorem Ft{b:fX}(hi:vB i=true)(hb:b.i=sy i):Ref [.leaf (.cst b),.leaf i] []:=λK d s c w=>by
 obtain⟨ak,loc,tr⟩:=s;have hw:wr b.i=wr (sy i):=congrArg wr hb;induction ak using PI with
 |nil=>exact fO (P:=λi=>W [.leaf (.cst b),.leaf i] K ⟨[],loc,tr⟩ c->W [] K ⟨[],loc,tr⟩ c) (λw=>w.elim) (λw=>w.elim) (λw=>w.elim) hi w
 |cons x r=>
  obtain⟨v,e,h⟩:∃v,W [.leaf (.cst b),.leaf i] K ⟨x::r,loc,tr⟩ c=K .next ⟨wr v::r,loc,tr⟩ (c+1+1)/\v=x.i:=by
   clear w hb;revert hw;refine fO (P:=λi=>wr b.i=wr (sy i)->∃v,W [.leaf (.cst b),.leaf i] K ⟨x::r,loc,tr⟩ c=K .next ⟨wr v::r,loc,tr⟩ (c+1+1)/\v=x.i) (λhw=>⟨_,rfl,by rw[hw];exact Int.add_zero _⟩) (λhw=>⟨_,rfl,by rw[hw];exact Int.sub_zero _⟩) (λhw=>⟨x.i / (wr b.i).i,?_,by rw[hw];exact Int.ediv_one _⟩) hi;exact congrArg (WO · (fM (W [] K) K) (c+1)) (if_neg (by rw[hw];decide))
  rw[e] at w;exact d.at (o:=.next) w (by rw[Mt x h]) (P8 c 2)
theorem C3(n:fX)(hn:n.i≠0):Ref [.leaf (.cst n),.leaf .sel] [.leaf .drop]:=λK d s c w=>by
 obtain⟨ak,loc,tr⟩:=s;rcases ak with _ |⟨x,_ |⟨y,r⟩⟩
 ·exact w.elim
 ·exact w.elim
 ·exact d.at (o:=.next) (s:=⟨(if(wr n.i).i≠0 then y else x)::r,loc,tr⟩) (c:=c+1+2) w (by rw[if_pos (by rw[Ne,kg];exact hn)]) (P8 (c+1) 2)
theorem Ea(n:fX)(hn:¬ n.i≠0)(hp:lN p=true):Ref [p,.leaf (.cst n),.leaf .sel] [.leaf .drop,p]:=λK d s c w=>by
 obtain⟨ak,loc,tr⟩:=s;have h0:¬ (wr n.i).i≠0:=by rw[Ne,kg];exact hn
 induction p using T.casesOn with
 |leaf i=>induction i using I.casesOn with
  |get i=>
   induction q:loc[i]? using Option.casesOn with
   |none=>
    have w:WO ((loc[i]?).bind λx=>Bf ⟨ak,loc,tr⟩ x 1) (fM (W [.leaf (.cst n),.leaf .sel] K) K) c:=w;rw[q] at w;exact w.elim
   |some y=>
    have w:WO ((loc[i]?).bind λx=>Bf ⟨ak,loc,tr⟩ x 1) (fM (W [.leaf (.cst n),.leaf .sel] K) K) c:=w;rw[q] at w;rcases ak with _ |⟨x,r⟩
    ·exact w.elim
    ·show WO ((loc[i]?).bind λx=>Bf ⟨r,loc,tr⟩ x 1) (fM (W [] K) K) (c+1)
     rw[q];exact d.at (o:=.next) (s:=⟨(if(wr n.i).i≠0 then x else y)::r,loc,tr⟩) (c:=c+1+1+2) w (by rw[if_neg h0]) (P8 (c+1+1) 2)
  |cst m=>
   rcases ak with _ |⟨x,r⟩
   ·exact w.elim
   ·exact d.at (o:=.next) (s:=⟨(if(wr n.i).i≠0 then x else wr m.i)::r,loc,tr⟩) (c:=c+1+1+2) w (by rw[if_neg h0]) (P8 (c+1+1) 2)
  |_=>exact cy hp
 |_=>exact cy hp
theorem OH{p q:Prop}[Decidable p][Decidable q]{A B C D:Prop}(e:p↔q)(h:A->C)(h':B->D)(w:if p then A else B):if q then C else D:=by
 by_cases x:q
 ·rw[if_pos (e.mpr x)] at w;rw[if_pos x];exact h w
 ·rw[if_neg λz=>x (e.mp z)] at w;rw[if_neg x];exact h' w
theorem l8(n:fX):(wr n.i).i≠0↔n.i≠0:=not_congr (kg n)
theorem zw(e:Nat)(n:fX)(v:Bool)(h:∀K s c,W1 t K {s with ak:=wr n.i::s.ak} (c+1)->if(wr n.i).i≠0 then W a (lv (mv v) s.ak.length K) s (c+2+e) else W b (lv (mv v) s.ak.length K) s (c+2+e)):Ref [.leaf (.cst n),t] [.one (.dg v) (if n.i≠0 then a else b)]:=λK d s c w=>by
 have w:W [t] K {s with ak:=wr n.i::s.ak} (c+1):=w;rw[dR] at w |-;have w:=h K s c w;show W (if n.i≠0 then a else b) (lv (mv v) s.ak.length K) s (c+2)
 by_cases x:n.i≠0
 ·rw[if_pos ((l8 n).mpr x)] at w;rw[if_pos x];exact w.le d.lv (P8 _ _)
 ·rw[if_neg λz=>x ((l8 n).mp z)] at w;rw[if_neg x];exact w.le d.lv (P8 _ _)
theorem G6(n:fX)(j k:Nat):Ref [.leaf (.cst n),.leaf (.hW j k)] [.leaf (.br (if n.i=0 then j else k))]:=λK d s c w=>by
 have w:K (.br (if(wr n.i).i=0 then j else k)) s (c+1+1):=w
 simp only[kg] at w;exact d _ _ _ _ (P5 _) w
theorem vg(n:fX)(k:Nat)(h:(if(wr n.i).i≠0 then O.br k else .next)=o):∀{K:KT}{s:St}{c:Nat},W [.leaf (.cst n),.leaf (.b7 k)] K s c->fM (W [] K) K o s (c+1+1):=λw=>h ▸ w
theorem AX(n:fX)(k:Nat)(h:n.i≠0):Ref [.leaf (.cst n),.leaf (.b7 k)] [.leaf (.br k)]:=λK d s c w=>d _ _ _ _ (P5 _) (vg n k (if_pos ((l8 n).mpr h)) w)
theorem zO(n:fX)(k:Nat)(h:¬ n.i≠0):Ref [.leaf (.cst n),.leaf (.b7 k)] []:=λK d s c w=>d _ _ _ _ (P8 c 2) (vg n k (if_neg λz=>h ((l8 n).mp z)) w)
theorem zl{r:List T}(x:Ref xs ys):Ref (r.reverse++xs) (r.reverse++ys):=Ref.right _ x
theorem pe(zs:List T)(x:Ref [b,a] zs):Ref (a::b::r).reverse (zs.reverse++r).reverse:=by simpa using zl x
theorem OP(zs:List T)(x:Ref [c,b,a] zs):Ref (a::b::c::r).reverse (zs.reverse++r).reverse:=by simpa using zl x
theorem kO{xs ys:List T}:cg xs=some ys->Ref xs.reverse ys.reverse/\ys.length < xs.length:=
 ka (P:=λxs ys=>Ref xs.reverse ys.reverse/\ys.length < xs.length) (λ_ _=>⟨pe [_] (tY _),Qf _⟩) (λ_ _ _ _ r hi hz=>⟨OP [_] (FJ hi hz),Nat.lt_add_right 1 (Qf (r.length+1))⟩)
  (λ_ _ _ hi hb=>⟨pe [] (Ft hi hb),S9 Vl⟩) (λ_ _ h=>⟨pe [_] (C3 _ h),Qf _⟩) (λ_ _ _ h hp=>⟨OP [_,_] (Ea _ h hp),Qf _⟩)
  (λb v _ _=>⟨pe [_] (zw 1 b v λ_ _ _ w=>w),Qf _⟩) (λb v _ _ _=>⟨pe [_] (zw 2 b v λ_ _ _ w=>w),Qf _⟩) (λ_ _ _ _=>⟨pe [_] (G6 _ _ _),Qf _⟩)
  (λ_ _ _ h=>⟨pe [_] (AX _ _ h),Qf _⟩) (λ_ _ _ h=>⟨pe [] (zO _ _ h),S9 Vl⟩)
noncomputable def fw(f:List T->Option (List T)):Nat->List T->List T
 |0,xs=>xs
 |n+1,xs=>match f xs with
  |none=>xs
  |some ys=>fw f n ys
theorem qk{f:List T->Option (List T)}(hf:∀{xs ys},f xs=some ys->Ref xs.reverse ys.reverse/\ys.length < xs.length):∀{n:Nat}{xs:List T},Ref xs.reverse (fw f n xs).reverse
 |0,xs=>.refl _
 |n+1,xs=>by
  unfold fw;split
  ·exact .refl _
  ·rename_i q;exact(hf q).1.trans (qk hf)
theorem A1{f:List T->Option (List T)}(hf:∀{xs ys},f xs=some ys->Ref xs.reverse ys.reverse/\ys.length < xs.length):∀{n:Nat}{xs:List T},xs.length < n->f (fw f n xs)=none:=by
 intro xs;induction xs with
 |zero=>
  intro xs h;exact(nF (nA h)).elim
 |succ n ih=>
  intro xs h;unfold fw;split
  ·assumption
  ·rename_i q;exact ih (by have:=(hf q).2;exact nA this (nA h))
noncomputable def iH(f:List T->Option (List T))(acc:List T)(t:T):List T:=(fw f (acc.length+2) (t::acc.reverse)).reverse
theorem pK(hf:∀{xs ys},f xs=some ys->Ref xs.reverse ys.reverse/\ys.length < xs.length)(acc:List T)(t:T):Ref (acc++[t]) (iH f acc t):=by
 have:=qk hf (n:=acc.length+2) (xs:=t::acc.reverse)
 simpa [iH] using this
end
section
noncomputable def KH(u t:I)(r:List T):Option (List T):=match u with
 |.get j=>match t with
  |.set i=>if i=j then some (.leaf (.dW i)::r) else none
  |_=>none
 |.set j=>match t with
  |.get i=>if i=j then some r else none
  |.dW i=>if i=j then some (.leaf (.set i)::r) else none
  |_=>none
 |.dW j=>match t with
  |.get i=>if i=j then some (.leaf (.get i)::r) else none
  |.dW i=>if i=j then some (.leaf (.dW i)::r) else none
  |_=>none
 |_=>none
noncomputable def Kn(u t:T)(r:List T):Option (List T):=match u with
 |.leaf u=>match t with
  |.leaf t=>KH u t r
  |_=>none
 |_=>none
noncomputable def joinR(xs:List T):Option (List T):=match xs with
 |[]=>none
 |u::xs=>match xs with
  |[]=>none
  |t::r=>Kn u t r
theorem rG[Decidable p](h:(if p then some x else none)=some y):p/\x=y:=by
 by_cases q:p
 ·exact⟨q,PG ((if_pos q).symm.trans h)⟩
 ·exact absurd ((if_neg q).symm.trans h) nofun
theorem jS{P:List T->List T->Prop}(h1:∀i r,P (.leaf (.get i)::.leaf (.set i)::r) (.leaf (.dW i)::r))(h2:∀i r,P (.leaf (.set i)::.leaf (.get i)::r) r)(h3:∀i r,P (.leaf (.set i)::.leaf (.dW i)::r) (.leaf (.set i)::r))(h4:∀i r,P (.leaf (.dW i)::.leaf (.get i)::r) (.leaf (.get i)::r))(h5:∀i r,P (.leaf (.dW i)::.leaf (.dW i)::r) (.leaf (.dW i)::r))(h:joinR xs=some ys):P xs ys:=by
 have key:∀{i j:Nat}{x:List T}{A:Nat->List T->Prop},(if i=j then some x else none)=some ys->A i x->A j ys:=λh a=>by
  (refine xA (rG h) λq0q q1q=>?_;obtain rfl:=q0q;obtain rfl:=q1q);exact a
 rcases xs with _ |⟨u,_ |⟨t,r⟩⟩
 ·exact bf h
 ·exact bf h
 ·induction u using T.casesOn with
  |leaf u=>induction t using T.casesOn with
   |leaf t=>induction u using I.casesOn with
    |get j=>induction t using I.casesOn with
     |set i=>exact key (A:=λj ys=>P (.leaf (.get j)::.leaf (.set i)::r) ys) h (h1 i r)
     |_=>exact bf h
    |set j=>induction t using I.casesOn with
     |get i=>exact key (A:=λj ys=>P (.leaf (.set j)::.leaf (.get i)::r) ys) h (h2 i r)
     |dW i=>exact key (A:=λj ys=>P (.leaf (.set j)::.leaf (.dW i)::r) ys) h (h3 i r)
     |_=>exact bf h
    |dW j=>induction t using I.casesOn with
     |get i=>exact key (A:=λj ys=>P (.leaf (.dW j)::.leaf (.get i)::r) ys) h (h4 i r)
     |dW i=>exact key (A:=λj ys=>P (.leaf (.dW j)::.leaf (.dW i)::r) ys) h (h5 i r)
     |_=>exact bf h
    |_=>exact bf h
   |_=>exact bf h
  |_=>exact bf h
theorem get_set{l:List α}(h:i < l.length):(l.set i x)[i]?=some x:=by
 rw[Sn];simp[h]
theorem zc{l:List α}(h:l[i]?=some x):l.set i x=l:=by
 (refine xE (QJ.mp h) λhi q1q=>?_;obtain rfl:=q1q)
 exact List.set_getElem_self hi
theorem v9{j:Nat}{ak loc tr:List bS}{K:KT}{c:Nat}{o:Option bS}(h:loc[j]?=o):WI (.get j) K ⟨ak,loc,tr⟩ c=WO (o.bind λx=>Bf ⟨ak,loc,tr⟩ x 1) K c:=h ▸ rfl
theorem nB{j:Nat}{ak loc tr:List bS}{K:KT}{c:Nat}(w:WI (.get j) K ⟨ak,loc,tr⟩ c):∃x,loc[j]?=some x/\K .next ⟨x::ak,loc,tr⟩ (c+1):=by
 induction q:loc[j]? using Option.casesOn with
 |none=>rw[v9 q] at w;exact w.elim
 |some x=>rw[v9 q] at w;exact⟨x,rfl,w⟩
theorem gg{j:Nat}{ak loc tr:List bS}{K:KT}{c:Nat}{x:bS}(h:loc[j]?=some x)(w:K .next ⟨x::ak,loc,tr⟩ (c+1)):WI (.get j) K ⟨ak,loc,tr⟩ c:=by
 rw[v9 h];exact w
theorem gL{i:Nat}{x:bS}{r loc tr:List bS}{K:KT}{c:Nat}:WI (.set i) K ⟨x::r,loc,tr⟩ c↔i < loc.length/\K .next ⟨r,loc.set i x,tr⟩ (c+1):=HL
theorem gB{i:Nat}{x:bS}{r loc tr:List bS}{K:KT}{c:Nat}:WI (.dW i) K ⟨x::r,loc,tr⟩ c↔i < loc.length/\K .next ⟨x::r,loc.set i x,tr⟩ (c+1):=HL
theorem cn(h0:∀K loc tr c,¬ W a K ⟨[],loc,tr⟩ c)(h:∀K,Dn K->∀x r loc tr c,W a K ⟨x::r,loc,tr⟩ c->W b K ⟨x::r,loc,tr⟩ c):Ref a b:=λK d s c w=>by
 obtain⟨ak,loc,tr⟩:=s;induction ak using PI with
 |nil=>exact(h0 _ _ _ _ w).elim
 |cons x r=>exact h _ d _ _ _ _ _ w
theorem uY(i:Nat):Ref [.leaf (.set i),.leaf (.get i)] [.leaf (.dW i)]:=cn (λ_ _ _ _ w=>w) λK d x r loc tr c w=>by
 refine xA (gL.mp w) λh w=>?_;refine aT (nB w) λy e w=>?_;obtain rfl:=PG ((get_set h).symm.trans e);exact gB.mpr ⟨h,d.at (o:=.next) w rfl (P5 _)⟩
theorem tu(i:Nat):Ref [.leaf (.get i),.leaf (.set i)] []:=λK d s c w=>by
 refine aT (nB w) λx e w=>?_;refine xA (gL.mp w) λ_ w=>?_;exact d.at (o:=.next) w (by rw[zc e]) (P8 c 2)
theorem uA(i:Nat):Ref [.leaf (.dW i),.leaf (.set i)] [.leaf (.set i)]:=cn (λ_ _ _ _ w=>w) λK d x r loc tr c w=>by
 refine xA (gB.mp w) λh w=>?_;refine xA (gL.mp w) λ_ w=>?_;exact gL.mpr ⟨h,d.at (o:=.next) w (by rw[Xd]) (P5 _)⟩
theorem th(i:Nat):Ref [.leaf (.get i),.leaf (.dW i)] [.leaf (.get i)]:=λK d s c w=>by
 refine aT (nB w) λx e w=>?_;refine xA (gB.mp w) λ_ w=>?_;exact gg e (d.at (o:=.next) w (by rw[zc e]) (P5 _))
theorem uq(i:Nat):Ref [.leaf (.dW i),.leaf (.dW i)] [.leaf (.dW i)]:=cn (λ_ _ _ _ w=>w) λK d x r loc tr c w=>by
 refine xA (gB.mp w) λh w=>?_;refine xA (gB.mp w) λ_ w=>?_;exact gB.mpr ⟨h,d.at (o:=.next) w (by rw[Xd]) (P5 _)⟩
theorem kv:joinR xs=some ys->Ref xs.reverse ys.reverse/\ys.length < xs.length:=
 jS (P:=λxs ys=>Ref xs.reverse ys.reverse/\ys.length < xs.length) (λ_ _=>⟨pe [_] (uY _),Qf _⟩) (λ_ _=>⟨pe [] (tu _),S9 Vl⟩)
  (λ_ _=>⟨pe [_] (uA _),Qf _⟩) (λ_ _=>⟨pe [_] (th _),Qf _⟩) (λ_ _=>⟨pe [_] (uq _),Qf _⟩)
noncomputable def takes:I->Nat
 |.ic=>1
 |.add=>2
 |.sub=>2
 |.sel=>3
 |_=>0
noncomputable def LD{α:Type}(stop:α)(dW go:Nat->α):I->α
 |.get _=>go 0
 |.cst _=>go 0
 |.dW j=>dW j
 |.ic=>go 1
 |.add=>go 2
 |.sub=>go 2
 |.sel=>go 3
 |_=>stop
noncomputable def KD{α:Type}(stop:α)(dW go:Nat->α):T->α
 |.leaf i=>LD stop dW go i
 |_=>stop
noncomputable def fK(k:Nat):List T:=Qi k (.leaf .drop)
noncomputable def putD(k:Nat)(xs:List T):List T:=List.rec (motive:=λ_=>Nat->List T) fK
 (λt r ih k=>Nat.rec (motive:=λ_=>List T) (t::r) (λk _=>KD (fK (k+1)++t::r) (λj=>fK k++.leaf (.set j)::r) (λn=>ih (k+n)) t) k) xs k
theorem Af(xs:List T):putD 0 xs=xs:=by induction xs using PI<;>rfl
theorem Jw{α:Type}{Q:T->α->Prop}{stop:T->α}{dW go:Nat->α}(h1:∀t,KD true (λ_=>false) (λ_=>false) t=true->Q t (stop t))(h2:∀j,Q (.leaf (.dW j)) (dW j))(h3:∀i n,LD none (λ_=>none) some i=some n->Q (.leaf i) (go n))(t:T):Q t (KD (stop t) dW go t):=by
 induction t using T.casesOn with
 |leaf i=>induction i using I.casesOn<;>first |exact h2 _ |exact h3 _ _ rfl |exact h1 _ rfl
 |_=>exact h1 _ rfl
theorem rK{P:List T->Nat->List T->Prop}(h0:∀xs,P xs 0 xs)(hn:∀k,P [] (k+1) (fK (k+1)))(h1:∀t r k,KD true (λ_=>false) (λ_=>false) t=true->P (t::r) (k+1) (fK (k+1)++t::r))(h2:∀j r k,P (.leaf (.dW j)::r) (k+1) (fK k++.leaf (.set j)::r))(h3:∀i n r k ys,LD none (λ_=>none) some i=some n->P r (k+n) ys->P (.leaf i::r) (k+1) ys)(xs:List T):∀k,P xs k (putD k xs):=by
 induction xs with
 |nil=>intro k;induction k using P0 with
  |zero=>exact h0 _
  |succ k=>exact hn k
 |cons t r ih=>intro k;induction k using P0 with
  |zero=>exact h0 _
  |succ k=>exact Jw (Q:=λt ys=>P (t::r) (k+1) ys) (stop:=λt=>fK (k+1)++t::r) (λt h=>h1 t r k h) (λj=>h2 j r k) (λi n h=>h3 i n r k _ h (ih _)) t
theorem yY(k:Nat)(t:T)(r:List T):(Qi k t++r).reverse=r.reverse++Qi k t:=by simp
theorem sb(i:Nat):Ref [.leaf (.get i),.leaf .drop] []:=λK d s c w=>by
 refine aT (nB w) λx e w=>?_;exact d.at (o:=.next) (c:=c+1+1) w rfl (P8 c 2)
theorem rH(i:fX):Ref [.leaf (.cst i),.leaf .drop] []:=λK d s c w=>d.at (o:=.next) (c:=c+1+1) w rfl (P8 c 2)
theorem qA(i:Nat):Ref [.leaf (.dW i),.leaf .drop] [.leaf (.set i)]:=cn (λ_ _ _ _ w=>w) λK d x r loc tr c w=>by
 refine xA (gB.mp w) λh w=>?_;exact gL.mpr ⟨h,d.at (o:=.next) (c:=c+1+1) w rfl (P5 _)⟩
theorem Hp{P:I->Nat->Prop}(h1:∀i,P (.get i) 0)(h2:∀c,P (.cst c) 0)(h3:P .ic 1)(h4:P .add 2)(h5:P .sub 2)(h6:P .sel 3){n:Nat}:LD none (λ_=>none) some i=some n->P i n:=by
 induction i using I.casesOn<;>first |exact λh=>bf h |exact λh=>PG h ▸ h1 _ |exact λh=>PG h ▸ h2 _ |exact λh=>PG h ▸ h3 |exact λh=>PG h ▸ h4 |exact λh=>PG h ▸ h5 |exact λh=>PG h ▸ h6
theorem H0:LD none (λ_=>none) some i=some n->Ref [.leaf i,.leaf .drop] (fK n):=by
 refine Hp (P:=λi n=>Ref [.leaf i,.leaf .drop] (fK n)) sb rH ?_ ?_ ?_ ?_
 ·refine cn (λ_ _ _ _ w=>w) λK d x r loc tr c w=>?_
  exact d.at (o:=.next) (c:=c+1+1) w rfl (P5 _)
 ·refine cn (λ_ _ _ _ w=>w) λK d x r loc tr c w=>?_
  induction r using PI
  ·exact w.elim
  ·exact d.at (o:=.next) (c:=c+1+1) w rfl (PK _)
 ·refine cn (λ_ _ _ _ w=>w) λK d x r loc tr c w=>?_
  induction r using PI
  ·exact w.elim
  ·exact d.at (o:=.next) (c:=c+1+1) w rfl (PK _)
 ·refine cn (λ_ _ _ _ w=>w) λK d x r loc tr c w=>?_
  rcases r with _ |⟨y,_ |⟨z,r⟩⟩
  ·exact w.elim
  ·exact w.elim
  ·exact d.at (o:=.next) (c:=c+2+1) w rfl (PK _)
theorem u9(k:Nat)(h:Ref [.leaf i,.leaf .drop] u):Ref ((T.leaf i::r).reverse++fK (k+1)) (r.reverse++(u++fK k)):=by
 rw[Qn,PX];exact Ref.right _ (Ref.left h (fK k))
theorem DY:∀(xs:List T)(k:Nat),Ref (xs.reverse++fK k) (putD k xs).reverse:=
 rK (P:=λxs k ys=>Ref (xs.reverse++fK k) ys.reverse) (λxs=>Qg _ ▸ .refl _) (λk=>List.reverse_replicate ▸ .refl _) (λt r k _=>yY .. ▸ .refl _)
  (λj r k=>(u9 k (qA j)).trans (by rw[show(fK k++T.leaf (.set j)::r).reverse=(T.leaf (.set j)::r).reverse++fK k from yY ..,Qn,PX];exact .refl _))
  (λi n r k ys h ih=>(u9 k (H0 h)).trans (by rw[fK,fK,List.replicate_append_replicate,Rr];exact ih))
noncomputable def T.Eh:T->Bool
 |.leaf .drop=>true
 |_=>false
noncomputable def ly(acc:List T)(t:T):List T:=match t with
 |.leaf .drop=>(putD 1 acc.reverse).reverse
 |t=>acc++[t]
theorem mD{P:T->List T->Prop}{acc:List T}(h1:P (.leaf .drop) (putD 1 acc.reverse).reverse)(h2:∀t,t.Eh=false->P t (acc++[t]))(t:T):P t (ly acc t):=by
 induction t using T.casesOn with
 |leaf i=>induction i using I.casesOn<;>first |exact h1 |exact h2 _ rfl
 |_=>exact h2 _ rfl
theorem Ak(acc:List T)(t:T):Ref (acc++[t]) (ly acc t):=mD (P:=λt ys=>Ref (acc++[t]) ys) (by simpa [fK] using DY acc.reverse 1) (λ_ _=>.refl _) t
noncomputable def Im(h:H)(a acc:List T):List T:=match a with
 |[]=>match h with
  |.iff _=>acc++[.leaf .drop]
  |_=>acc
 |u::us=>acc++[.one h (u::us)]
noncomputable def Jc(v:Bool)(a b acc:List T):List T:=match a with
 |[]=>match b with
  |[]=>acc++[.leaf .drop]
  |u::us=>acc++[.leaf .ic,.one (.iff v) (u::us)]
 |w::ws=>match b with
  |[]=>acc++[.one (.iff v) (w::ws)]
  |u::us=>acc++[.two v (w::ws) (u::us)]
noncomputable def cV(acc:List T)(t:T):List T:=match t with
 |.leaf i=>match i with
  |.oM=>acc
  |i=>acc++[.leaf i]
 |.one h a=>Im h a acc
 |.two v a b=>Jc v a b acc
theorem vK(v:Bool):Ref [.one (.iff v) []] [.leaf .drop]:=cn (λ_ _ _ _ w=>w) λK d x r loc tr c w=>by
 rw[dR] at w;have w:if x.i≠0 then K .next ⟨r,loc,tr⟩ (c+2) else K .next ⟨r,loc,tr⟩ (c+2):=w
 exact d.at (o:=.next) ((ite_id _).mp w) rfl (P5 _)
theorem lL(h:H)(hh:∀v,h≠.iff v):Ref [.one h []] []:=λK d s c w=>by
 rw[dR] at w;induction h using H.casesOn with
 |dg v=>exact d.at (o:=.next) (c:=c+2) w rfl (P8 c 2)
 |ku=>
  refine xE w λn w=>?_;induction n using P0 with
  |zero=>exact w.elim
  |succ n=>exact d.at (o:=.next) (c:=c+2) w rfl (P8 c 2)
 |iff v=>exact absurd rfl (hh v)
theorem td(v:Bool):Ref [.two v [] []] [.leaf .drop]:=cn (λ_ _ _ _ w=>w) λK d x r loc tr c w=>by
 rw[dR] at w;have w:if x.i≠0 then K .next ⟨r,loc,tr⟩ (c+3) else K .next ⟨r,loc,tr⟩ (c+3):=w
 exact d.at (o:=.next) ((ite_id _).mp w) rfl (P8 (c+1) 2)
theorem rW(v:Bool)(b:List T):Ref [.two v [] b] [.leaf .ic,.one (.iff v) b]:=cn (λ_ _ _ _ w=>w) λK d x r loc tr c w=>by
 rw[dR] at w;show W [.one (.iff v) b] K ⟨wr (if x.i=0 then 1 else 0)::r,loc,tr⟩ (c+1)
 rw[dR];have w:if x.i≠0 then K .next ⟨r,loc,tr⟩ (c+3) else W b (lv (mv v) r.length K) ⟨r,loc,tr⟩ (c+3):=w
 show if(wr (if x.i=0 then 1 else 0)).i≠0 then W b (lv (mv v) r.length K) ⟨r,loc,tr⟩ (c+3) else K .next ⟨r,loc,tr⟩ (c+3)
 by_cases h:x.i=0
 ·rw[if_neg (not_not_intro h)] at w
  rw[if_pos h,if_pos (by decide)];exact w
 ·rw[if_pos h] at w
  rw[if_neg h,if_neg (by decide)];exact w
theorem ow(v:Bool)(a:List T):Ref [.two v a []] [.one (.iff v) a]:=cn (λ_ _ _ _ w=>w) λK d x r loc tr c w=>by
 rw[dR] at w |-;exact c9 (A:=W a (lv (mv v) r.length K) ⟨r,loc,tr⟩ (c+3)) (B:=K .next ⟨r,loc,tr⟩ (c+3)) (λw=>w.le d.lv (P5 _)) (d _ _ _ _ (P5 _)) w
theorem Hc:Ref [.leaf .oM] []:=λK d s c w=>d.at (o:=.next) (c:=c+1) w rfl (P5 _)
theorem rg(x:Ref a []):Ref (acc++a) acc:=by
 have:=Ref.right acc x
 rwa [Qg] at this
theorem vQ(acc:List T)(t:T):Ref (acc++[t]) (cV acc t):=by
 induction t using T.casesOn with
 |leaf i=>induction i using I.casesOn<;>first |exact rg Hc |exact .refl _
 |one h a=>induction a using PI with
  |nil=>induction h using H.casesOn with
   |iff v=>exact Ref.right acc (vK _)
   |dg v=>exact rg (lL _ nofun)
   |ku=>exact rg (lL _ nofun)
  |cons u us=>exact .refl _
 |two v a b=>induction a using PI with
  |nil=>induction b using PI with
   |nil=>exact Ref.right acc (td _)
   |cons u us=>exact Ref.right acc (rW _ _)
  |cons u us=>induction b using PI with
   |nil=>exact Ref.right acc (ow _ _)
   |cons w ws=>exact .refl _
end
section
noncomputable def I.eC:I->List Nat
 |.br k=>[k]
 |.b7 k=>[k]
 |.hW j k=>[j,k]
 |_=>[]
mutual
noncomputable def gI:T->Nat->Bool
 |.leaf i,d=>i.eC.contains d
 |.one _ a,d=>ey a (d+1)
 |.two _ a b,d=>ey a (d+1) || ey b (d+1)
noncomputable def ey:List T->Nat->Bool
 |[],_=>false
 |t::ts,d=>gI t d || ey ts d
end
noncomputable def lw(d k:Nat):Nat:=if k > d then k - 1 else k
noncomputable def I.low(i:I)(d:Nat):I:=match i with
 |.br k=>.br (lw d k)
 |.b7 k=>.b7 (lw d k)
 |.hW j k=>.hW (lw d j) (lw d k)
 |i=>i
mutual
noncomputable def fz:T->Nat->T
 |.leaf i,d=>.leaf (i.low d)
 |.one h a,d=>.one h (low a (d+1))
 |.two v a b,d=>.two v (low a (d+1)) (low b (d+1))
noncomputable def low:List T->Nat->List T
 |[],_=>[]
 |t::ts,d=>fz t d::low ts d
end
structure jM (d:Nat) (K K':KT):Prop where
 next:∀s c,K .next s c->K' .next s c
 br:∀k s c,k≠d->K (.br k) s c->K' (.br (lw d k)) s c
 ret:∀s c,K .ret s c->K' .ret s c
 bk:∀s c,K .bk s c->K' .bk s c
theorem yW(d k:Nat):lw (d+1) (k+1)=lw d k+1:=by unfold lw;split<;>split<;>(first |lia |exact PN (nZ) (nZ))
theorem jM.lv{d m h:Nat}{K K':KT}(x:jM d K K'):jM (d+1) (lv m h K) (lv m h K'):=
 ⟨λs c w=>x.next s c w,λk s c hk w=>by
  induction k using P0 with
  |zero=>rw[show lw (d+1) 0=0 from rfl];exact⟨w.1,x.next _ _ w.2⟩
  |succ k=>rw[yW];exact x.br k s c (by lia) w,λs c w=>x.ret s c w,λs c w=>x.bk s c w⟩
theorem jM.fM{d:Nat}{K K':KT}{P P':St->Nat->Prop}(x:jM d K K')(hP:∀s c,P s c->P' s c):jM d (fM P K) (fM P' K'):=
 ⟨λs c w=>hP s c w,λk s c hk w=>x.br k s c hk w,λs c w=>x.ret s c w,λs c w=>x.bk s c w⟩
theorem jM.lp{d h:Nat}{K K':KT}{P P':St->Nat->Prop}(x:jM d K K')(hP:∀s c,P s c->P' s c):jM (d+1) (qo h P K) (qo h P' K'):=
 ⟨λs c w=>x.next s c w,λk s c hk w=>by
  induction k using P0 with
  |zero=>rw[show lw (d+1) 0=0 from rfl];exact⟨w.1,hP _ _ w.2⟩
  |succ k=>rw[yW];exact x.br k s c (by lia) w,λs c w=>x.ret s c w,λs c w=>x.bk s c w⟩
def OF(i:I)(o:O):Prop:=match o with
 |.br k=>k∈i.eC
 |_=>True
def ID(i:I)(z:Option (O × St × Nat)):Prop:=match z with
 |none=>True
 |some y=>OF i y.1
theorem cU(h:∀x s',ID i (f x s')):ID i (pop s f):=by
 obtain⟨ak,loc,tr⟩:=s;induction ak using PI with
 |nil=>trivial
 |cons x r=>exact h x ⟨r,loc,tr⟩
theorem wB[Decidable p](ha:ID i a)(hb:ID i b):ID i (if p then a else b):=by
 by_cases q:p
 ·rw[if_pos q];exact ha
 ·rw[if_neg q];exact hb
theorem MX(i:I):ID i (wi i s):=by
 induction i using I.casesOn with
 |br k=>exact UD k
 |b7 k=>
  delta wi;dsimp only
  refine cU λx s'=>?_;show OF _ (if x.i≠0 then .br k else .next)
  split
  ·exact UD k
  ·trivial
 |hW j k=>
  delta wi;dsimp only
  refine cU λx s'=>?_;show(if x.i=0 then j else k)∈[j,k]
  split
  ·exact .head _
  ·exact .tail _ (.head _)
 |get j=>
  show ID _ ((s.loc[j]?).bind λx=>Bf s x 1);induction s.loc[j]? using Option.casesOn<;>trivial
 |set j=>delta wi;dsimp only;exact cU λ_ _=>wB trivial trivial
 |dW j=>delta wi;dsimp only;exact cU λ_ _=>wB trivial trivial
 |sel=>delta wi;dsimp only;exact cU λ_ _=>cU λ_ _=>cU λ_ _=>trivial
 |add=>delta wi;dsimp only;exact cU λ_ _=>cU λ_ _=>trivial
 |sub=>delta wi;dsimp only;exact cU λ_ _=>cU λ_ _=>trivial
 |div=>delta wi;dsimp only;exact cU λ_ _=>cU λ_ _=>wB trivial trivial
 |call=>delta wi;dsimp only;exact cU λ_ _=>trivial
 |drop=>delta wi;dsimp only;exact cU λ_ _=>trivial
 |ic=>delta wi;dsimp only;exact cU λ_ _=>trivial
 |_=>trivial
theorem Hj{i:I}{K K':KT}(hn:∀s c,K .next s c->K' .next s c)(hb:∀k,k∈i.eC->∀s c,K (.br k) s c->K' (.br k) s c)(hr:∀s c,K .ret s c->K' .ret s c)(ht:∀s c,K .bk s c->K' .bk s c){s:St}{c:Nat}:WI i K s c->WI i K' s c:=by
 have ok:=MX i (s:=s);unfold WI;revert ok;induction wi i s using Option.casesOn with
 |none=>exact λ_=>id
 |some z=>
  obtain⟨o,s',d⟩:=z;induction o using O.casesOn with
  |next=>exact λ_=>hn _ _
  |br k=>exact λok=>hb k ok _ _
  |ret=>exact λ_=>hr _ _
  |bk=>exact λ_=>ht _ _
theorem mF{i:I}(hn:i.eC.contains d=false)(h:k∈i.eC):k≠d:=λe=>by
 subst e;rw[RO.mpr h] at hn;exact jr hn
theorem Ie{i:I}{d:Nat}{K K':KT}(x:jM d K K')(hn:i.eC.contains d=false){s:St}{c:Nat}(w:WI i K s c):WI (i.low d) K' s c:=by
 have go:i.eC=[]->WI i K' s c:=λe=>Hj x.next (λk hk=>by rw[e] at hk;cases hk) x.ret x.bk w
 induction i using I.casesOn with
 |br k=>exact x.br _ _ _ (mF hn (.head _)) w
 |b7 k=>
  obtain⟨ak,loc,tr⟩:=s;induction ak using PI with
  |nil=>exact w
  |cons y r=>
   show K' (if y.i≠0 then .br (lw d k) else .next) _ _
   have w:K (if y.i≠0 then .br k else .next) ⟨r,loc,tr⟩ (c+1):=w
   by_cases q:y.i≠0
   ·rw[if_pos q] at w |-;exact x.br _ _ _ (mF hn (.head _)) w
   ·rw[if_neg q] at w |-;exact x.next _ _ w
 |hW j k=>
  obtain⟨ak,loc,tr⟩:=s;induction ak using PI with
  |nil=>exact w
  |cons y r=>
   show K' (.br (if y.i=0 then lw d j else lw d k)) _ _
   have w:K (.br (if y.i=0 then j else k)) ⟨r,loc,tr⟩ (c+1):=w
   by_cases q:y.i=0
   ·rw[if_pos q] at w |-;exact x.br _ _ _ (mF hn (.head _)) w
   ·rw[if_neg q] at w |-;exact x.br _ _ _ (mF hn (.tail _ (.head _))) w
 |_=>exact go rfl
theorem kN{h:Nat}{B B':KT->St->Nat->Prop}{K K':KT}(hB:∀{P P':St->Nat->Prop},(∀s c,P s c->P' s c)->∀s c,B (qo h P K) s c->B' (qo h P' K') s c):∀(n:Nat)(s:St)(c:Nat),b9 h B K n s c->b9 h B' K' n s c
 |0,_,_,w=>w
 |n+1,s,c,w=>hB (λs c w=>kN hB n s c w) s c w
theorem vw(h:(a || b)=false):a=false/\b=false:=by induction a using PU<;>induction b using PU<;>first |exact⟨rfl,rfl⟩ |exact jr h
theorem FW:(∀t,∀d,gI t d=false->∀(K K':KT),jM d K K'->∀s c,W1 t K s c->W1 (fz t d) K' s c)/\(∀ts,∀d,ey ts d=false->∀(K K':KT),jM d K K'->∀s c,W ts K s c->W (low ts d) K' s c):=by
 refine T.dO (λi d hn K K' x s c w=>Ie x hn w) (λh a ih d hn K K' x s c w=>?_) (λv a b iha ihb d hn K K' x s c w=>?_) (λd hn K K' x s c w=>x.next _ _ w) (λt ts iht ihs d hn K K' x s c w=>?_)
 ·induction h using H.casesOn with
  |dg v=>exact ih _ hn _ _ x.lv _ _ w
  |ku=>refine xE w λn w=>?_;exact⟨n,kN (λp s c w=>ih _ hn _ _ (x.lp p) s c w) n _ _ w⟩
  |iff v=>
   obtain⟨ak,loc,tr⟩:=s;induction ak using PI with
   |nil=>exact w
   |cons y r=>exact c9 (ih _ hn _ _ x.lv _ _) (x.next _ _) w
 ·have hn:=vw hn
  obtain⟨ak,loc,tr⟩:=s;induction ak using PI with
  |nil=>exact w
  |cons y r=>exact c9 (iha _ hn.1 _ _ x.lv _ _) (ihb _ hn.2 _ _ x.lv _ _) w
 ·have hn:=vw hn
  exact iht _ hn.1 _ _ (x.fM λs c w=>ihs _ hn.2 _ _ x s c w) _ _ w
theorem HP{d:Nat}(hn:ey ts d=false){K K':KT}(x:jM d K K'){s:St}{c:Nat}(w:W ts K s c):W (low ts d) K' s c:=FW.2 ts d hn K K' x s c w
noncomputable def lh(h:H)(a acc:List T):List T:=if ey a 0 then acc++[.one h a] else acc++low a 0
noncomputable def m9(acc:List T)(t:T):List T:=match t with
 |.one h a=>match h with
  |.iff v=>acc++[.one (.iff v) a]
  |.dg v=>lh (.dg v) a acc
  |.ku=>lh .ku a acc
 |.leaf i=>acc++[.leaf i]
 |.two v a b=>acc++[.two v a b]
theorem Ia{m h:Nat}{K:KT}:jM 0 (lv m h K) K:=⟨λs c w=>w,λk s c hk w=>by
 induction k using P0 with
 |zero=>exact absurd rfl hk
 |succ k=>exact w,λs c w=>w,λs c w=>w⟩
theorem IY{h:Nat}{P:St->Nat->Prop}{K:KT}:jM 0 (qo h P K) K:=⟨λs c w=>w,λk s c hk w=>by
 induction k using P0 with
 |zero=>exact absurd rfl hk
 |succ k=>exact w,λs c w=>w,λs c w=>w⟩
theorem Bz(h:H)(hh:∀v,h≠.iff v)(a:List T)(hn:ey a 0=false):Ref [.one h a] (low a 0):=λK d s c w=>by
 rw[dR] at w;unfold W1 at w;induction h using H.casesOn with
 |dg v=>exact(HP hn Ia w).le d (by exact nZ)
 |ku=>
  refine xE w λn w=>?_;induction n using P0 with
  |zero=>exact w.elim
  |succ n=>
   unfold b9 at w;exact(HP hn IY w).le d (by exact nZ)
 |iff v=>exact absurd rfl (hh v)
theorem pT(hh:∀v,h≠.iff v):Ref (acc++[.one h a]) (lh h a acc):=by
 unfold lh;induction q:ey a 0 using PU with
 |true=>exact .refl _
 |false=>exact Ref.right acc (Bz _ hh _ q)
theorem An(acc:List T)(t:T):Ref (acc++[t]) (m9 acc t):=by
 induction t using T.casesOn with
 |one h a=>induction h using H.casesOn with
  |iff v=>exact .refl _
  |dg v=>exact pT nofun
  |ku=>exact pT nofun
 |_=>exact .refl _
end
section
structure yP (d:Nat) (K K':KT):Prop where
 next:∀s c,K .next s c->K' .next s c
 br:∀k s c,k≠d->K (.br k) s c->K' (.br k) s c
 ret:∀s c,K .ret s c->K' .ret s c
 bk:∀s c,K .bk s c->K' .bk s c
theorem yP.lv{d m h:Nat}{K K':KT}(x:yP d K K'):yP (d+1) (lv m h K) (lv m h K'):=
 ⟨λs c w=>x.next s c w,λk s c hk w=>by
  induction k using P0 with
  |zero=>exact⟨w.1,x.next _ _ w.2⟩
  |succ k=>exact x.br k s c (by lia) w,λs c w=>x.ret s c w,λs c w=>x.bk s c w⟩
theorem yP.lp{d h:Nat}{K K':KT}{P P':St->Nat->Prop}(x:yP d K K')(hP:∀s c,P s c->P' s c):yP (d+1) (qo h P K) (qo h P' K'):=
 ⟨λs c w=>x.next s c w,λk s c hk w=>by
  induction k using P0 with
  |zero=>exact⟨w.1,hP _ _ w.2⟩
  |succ k=>exact x.br k s c (by lia) w,λs c w=>x.ret s c w,λs c w=>x.bk s c w⟩
theorem yP.fM{d:Nat}{K K':KT}{P P':St->Nat->Prop}(x:yP d K K')(hP:∀s c,P s c->P' s c):yP d (fM P K) (fM P' K'):=
 ⟨λs c w=>hP s c w,λk s c hk w=>x.br k s c hk w,λs c w=>x.ret s c w,λs c w=>x.bk s c w⟩
theorem Mu{i:I}{d:Nat}{K K':KT}(x:yP d K K')(hn:i.eC.contains d=false){s:St}{c:Nat}(w:WI i K s c):WI i K' s c:=
 Hj x.next (λk hk s c=>x.br k s c (mF hn hk)) x.ret x.bk w
theorem H9:(∀t,∀d,gI t d=false->∀(K K':KT),yP d K K'->∀s c,W1 t K s c->W1 t K' s c)/\(∀ts,∀d,ey ts d=false->∀(K K':KT),yP d K K'->∀s c,W ts K s c->W ts K' s c):=by
 refine T.dO (λi d hn K K' x s c w=>Mu x hn w) (λh a ih d hn K K' x s c w=>?_) (λv a b iha ihb d hn K K' x s c w=>?_) (λd hn K K' x s c w=>x.next _ _ w) (λt ts iht ihs d hn K K' x s c w=>?_)
 ·induction h using H.casesOn with
  |dg v=>exact ih _ hn _ _ x.lv _ _ w
  |ku=>refine xE w λn w=>?_;exact⟨n,kN (λp s c w=>ih _ hn _ _ (x.lp p) s c w) n _ _ w⟩
  |iff v=>
   obtain⟨ak,loc,tr⟩:=s;induction ak using PI with
   |nil=>exact w
   |cons y r=>exact c9 (ih _ hn _ _ x.lv _ _) (x.next _ _) w
 ·have hn:=vw hn
  obtain⟨ak,loc,tr⟩:=s;induction ak using PI with
  |nil=>exact w
  |cons y r=>exact c9 (iha _ hn.1 _ _ x.lv _ _) (ihb _ hn.2 _ _ x.lv _ _) w
 ·have hn:=vw hn
  exact iht _ hn.1 _ _ (x.fM λs c w=>ihs _ hn.2 _ _ x s c w) _ _ w
theorem Iw{d:Nat}(hn:ey ts d=false){K K':KT}(x:yP d K K'){s:St}{c:Nat}(w:W ts K s c):W ts K' s c:=H9.2 ts d hn K K' x s c w
noncomputable def dU:T->Bool
 |.leaf .pQ=>true
 |.leaf (.br _)=>true
 |.leaf (.hW _ _)=>true
 |.leaf .ret=>true
 |_=>false
mutual
noncomputable def Ep:T->Bool
 |.leaf _=>false
 |.one h a=>yw a && match h with
  |.dg _=>!ey a 0
  |.ku=>true
  |.iff _=>false
 |.two _ a b=>yw a && yw b && !(ey a 0 || ey b 0)
noncomputable def yw:List T->Bool
 |[]=>false
 |t::ts=>match ts with
  |[]=>dU t || Ep t
  |_=>yw ts
end
structure lO (K K':KT):Prop where
 br:∀k s c,K (.br k) s c->K' (.br k) s c
 ret:∀s c,K .ret s c->K' .ret s c
 bk:∀s c,K .bk s c->K' .bk s c
def jN(K:KT):KT:=λo s c=>match o with |.next=>False |o=>K o s c
theorem iw(K:KT):lO K (jN K):=⟨λ_ _ _ w=>w,λ_ _ w=>w,λ_ _ w=>w⟩
theorem Av{P:I->Prop}(h1:∀k,P (.br k))(h2:P .pQ)(h3:P .ret)(h4:∀j k,P (.hW j k))(h:dU (.leaf i)=true):P i:=by
 induction i using I.casesOn<;>first |exact h1 _ |assumption |exact h4 _ _ |exact cy h
theorem yq(h:dU (.leaf i)=true){K K':KT}(x:lO K K'){s:St}{c:Nat}:WI i K s c->WI i K' s c:=
 Av (P:=λi=>WI i K s c->WI i K' s c) (λ_=>x.br _ _ _) (x.bk _ _) (x.ret _ _) (λj k=>by
  obtain⟨ak,loc,tr⟩:=s;induction ak using PI with
  |nil=>exact id
  |cons y r=>exact x.br _ _ _) h
theorem lO.HR{m h:Nat}{K K':KT}(x:lO K K'):yP 0 (jN (lv m h K)) (lv m h K'):=
 ⟨λs c w=>w.elim,λk s c hk w=>by
  induction k using P0 with
  |zero=>exact absurd rfl hk
  |succ k=>exact x.br k s c w,λs c w=>x.ret s c w,λs c w=>x.bk s c w⟩
theorem lO.lp{h:Nat}{K K':KT}{P P':St->Nat->Prop}(x:lO K K')(hP:∀s c,P s c->P' s c):lO (qo h P K) (qo h P' K'):=
 ⟨λk s c w=>by
  induction k using P0 with
  |zero=>exact⟨w.1,hP _ _ w.2⟩
  |succ k=>exact x.br k s c w,λs c w=>x.ret s c w,λs c w=>x.bk s c w⟩
theorem Dn.lp{h n:Nat}{K:KT}(d:Dn K):Dn (qo h (λs c=>b9 h (W a) K n s c) K):=λo s c c' hc w=>by
 induction o using O.casesOn with
 |br k=>induction k using P0 with
  |zero=>exact⟨w.1,iv (λhk s c c' hc w=>w.le hk hc) d hc w.2⟩
  |succ k=>exact d _ _ _ _ hc w
 |_=>exact d _ _ _ _ hc w
theorem Dn.jN{K:KT}(d:Dn K):Dn (jN K):=λo s c c' hc w=>by
 induction o using O.casesOn with
 |next=>exact w
 |_=>exact d _ _ _ _ hc w
theorem lO.cons{ts:List T}{K K':KT}(x:lO K K')(d:Dn K)(d':Dn K')(ih:∀s c,W ts K s c->W ts K' s c):su (fM (W ts K) K) (fM (W ts K') K'):=λo s c c' hc w=>by
 induction o using O.casesOn with
 |next=>exact(ih _ _ w).le d' hc
 |br k=>exact x.br _ _ _ (d _ _ _ _ hc w)
 |ret=>exact x.ret _ _ (d _ _ _ _ hc w)
 |bk=>exact x.bk _ _ (d _ _ _ _ hc w)
theorem mq{h:Nat}{a:List T}{K K':KT}(d:Dn K)(d':Dn K')(hB:∀{P P':St->Nat->Prop},(∀s c,P s c->P' s c)->Dn (qo h P K)->Dn (qo h P' K')->∀s c,W a (qo h P K) s c->W a (qo h P' K') s c):∀(n:Nat)(s:St)(c:Nat),b9 h (W a) K n s c->b9 h (W a) K' n s c
 |0,_,_,w=>w
 |n+1,s,c,w=>hB (λs c w=>mq d d' hB n s c w) (jl d) (jl d') s c w
theorem GW:(∀t,Ep t=true->∀(K K':KT),lO K K'->Dn K->Dn K'->∀s c,W1 t K s c->W1 t K' s c)/\(∀ts,yw ts=true->∀(K K':KT),lO K K'->Dn K->Dn K'->∀s c,W ts K s c->W ts K' s c):=by
 refine T.dO (λi h=>cy h) (λh a ih hn K K' x d d' s c w=>?_) (λv a b iha ihb hn K K' x d d' s c w=>?_) (λh=>cy h) (λt ts iht ihs hn K K' x d d' s c w=>?_)
 ·have hn:=ax hn
  induction h using H.casesOn with
  |dg v=>exact Iw (ec hn.2) x.HR (ih hn.1 _ _ (iw _) d.lv d.lv.jN _ _ w)
  |ku=>refine xE w λn w=>?_;exact⟨n,mq d d' (λp dp dp' s c w=>ih hn.1 _ _ (x.lp p) dp dp' s c w) n _ _ w⟩
  |iff v=>exact cy hn.2
 ·have hn:=ax hn
  have h1:=ax hn.1;have h3:=vw (ec hn.2);obtain⟨ak,loc,tr⟩:=s;induction ak using PI with
  |nil=>exact w
  |cons y r=>exact c9 (λw=>Iw h3.1 x.HR (iha h1.1 _ _ (iw _) d.lv d.lv.jN _ _ w)) (λw=>Iw h3.2 x.HR (ihb h1.2 _ _ (iw _) d.lv d.lv.jN _ _ w)) w
 ·unfold yw at hn
  induction ts using PI with
  |nil=>
   rw[dR] at w |-;rcases Bool.or_eq_true_iff.mp hn with hn |hn
   ·induction t using T.casesOn with
    |leaf i=>exact yq hn x w
    |_=>exact cy hn
   ·exact iht hn _ _ x d d' _ _ w
  |cons u us=>exact W1.le (x.cons d d' λs c w=>ihs hn _ _ x d d' s c w) (PK _) w
theorem II(h:dU t=true\/Ep t=true){K K':KT}(x:lO K K')(d:Dn K)(d':Dn K'){s:St}{c:Nat}(w:W1 t K s c):W1 t K' s c:=by
 rcases h with h |h
 ·induction t using T.casesOn with
  |leaf i=>unfold W1 at w |-;exact yq h x w
  |_=>exact cy h
 ·exact GW.1 t h _ _ x d d' _ _ w
mutual
noncomputable def bx:T->T
 |.leaf i=>.leaf i
 |.one h a=>.one h (dead a)
 |.two v a b=>.two v (dead a) (dead b)
noncomputable def dead:List T->List T
 |[]=>[]
 |t::ts=>if dU (bx t) then[bx t] else if !ts.isEmpty && Ep (bx t) then[bx t,.leaf .pQ] else bx t::dead ts
end
theorem yF(h:dU t=true\/Ep t=true)(ts us:List T):Ref (t::ts) (t::us):=λK d s c w=>by
 rw[sm] at w |-;exact II h (K:=fM (W ts K) K) (K':=fM (W us K) K) ⟨λ_ _ _ w=>w,λ_ _ w=>w,λ_ _ w=>w⟩ d.fM d.fM w
theorem rU:(∀t,zL t (bx t))/\(∀ts,Ref ts (dead ts)):=by
 refine T.dO (λi=>?_) (λh a ih=>?_) (λv a b iha ihb=>?_) ?_ (λt ts iht ihs=>?_)
 ·unfold bx;exact λK d s c w=>w
 ·unfold bx;exact Ref.one ih h
 ·unfold bx;exact Ref.two iha ihb v
 ·unfold dead;exact .refl _
 ·have x:Ref (t::ts) (bx t::dead ts):=Ref.append iht.ref ihs
  unfold dead;split
  ·rename_i h;exact x.trans (yF (.inl h) _ _)
  ·split
   ·rename_i h
    rw[Qy] at h;exact x.trans (yF (.inr h.2) _ _)
   ·exact x
theorem Cy(ts:List T):Ref ts (dead ts):=rU.2 ts
noncomputable def dQ:Nat->List T->List T
 |0=>dead
 |1=>qn ly
 |2=>qn (iH joinR)
 |3=>qn cV
 |4=>qn m9
 |_=>qn (iH cg)
theorem AE(n:Nat)(ts:List T):Ref ts (dQ n ts):=by
 unfold dQ;split
 ·exact Cy ts
 ·exact jT Ak ts
 ·exact jT (pK kv) ts
 ·exact jT vQ ts
 ·exact jT An ts
 ·exact jT (pK kO) ts
noncomputable def passes:List Nat->List T->List T
 |[],ts=>ts
 |n::ns,ts=>passes ns (dQ n ts)
theorem nj:∀(ns:List Nat)(ts:List T),Ref ts (passes ns ts)
 |[],ts=>.refl ts
 |n::ns,ts=>(AE n ts).trans (nj ns _)
end
section
noncomputable def jq(v:Bool):Int:=if v then -1 else -64
noncomputable def I.enc:I->List Int
 |.pQ=>[0]
 |.oM=>[1]
 |.br k=>[12,k]
 |.b7 k=>[13,k]
 |.hW j k=>[14,j,k]
 |.ret=>[15]
 |.call=>[16,0]
 |.drop=>[26]
 |.sel=>[27]
 |.get i=>[32,i]
 |.set i=>[33,i]
 |.dW i=>[34,i]
 |.cst c=>[65,c.i]
 |.ic=>[69]
 |.add=>[106]
 |.sub=>[107]
 |.div=>[110]
noncomputable def H.enc:H->List Int
 |.dg v=>[2,jq v]
 |.ku=>[3,-64]
 |.iff v=>[4,jq v]
mutual
noncomputable def eT:T->List (List Int)
 |.leaf i=>[i.enc]
 |.one h a=>h.enc::(flat a++[[11]])
 |.two v a b=>[4,jq v]::(flat a++[5]::(flat b++[[11]]))
noncomputable def flat:List T->List (List Int)
 |[]=>[]
 |t::ts=>eT t++flat ts
end
theorem aP(a b:List T):flat (a++b)=flat a++flat b:=by
 induction a with
 |nil=>simp[flat]
 |cons t a ih=>simp[flat,ih]
noncomputable def uy(R:List Int->List Int->Bool):List (List Int)->Bool
 |[]=>true
 |x::r=>match r with
  |[]=>true
  |y::_=>!R x y && uy R r
noncomputable def T.gN:T->List Int
 |.leaf i=>i.enc
 |_=>[11]
mutual
noncomputable def rq(R:List Int->List Int->Bool):List Int->T->Bool
 |p,.leaf i=>!R p i.enc
 |p,.one h a=>!R p h.enc && uc R h.enc a [11]
 |p,.two v a b=>!R p [4,jq v] && (uc R [4,jq v] a [5] && uc R [5] b [11])
noncomputable def uc(R:List Int->List Int->Bool):List Int->List T->List Int->Bool
 |p,[],q=>!R p q
 |p,t::ts,q=>rq R p t && uc R t.gN ts q
end
theorem eR:uy R (x::y::r)=(!R x y && uy R (y::r)):=by rw[uy]
theorem qO(R:List Int->List Int->Bool):(∀t,∀p rest,uy R (p::(eT t++rest))=(rq R p t && uy R (t.gN::rest)))/\(∀ts,∀p q rest,uy R (p::(flat ts++q::rest))=(uc R p ts q && uy R (q::rest))):=by
 refine T.dO (λi p rest=>?_) (λh a ih p rest=>?_) (λv a b iha ihb p rest=>?_) (λp q rest=>?_) (λt ts iht ihs p q rest=>?_)
 ·simp only[eT,rq,Qz,Rk,eR,T.gN]
 ·simp only[eT,rq,Qz,PX,Rk,eR,T.gN]
  rw[ih,Ru]
 ·simp only[eT,rq,Qz,PX,Rk,eR,T.gN]
  rw[iha,ihb,Ru,Ru]
 ·simp only[flat,uc,Rk,eR]
 ·simp only[flat,uc,PX]
  rw[iht,ihs,Ru]
theorem BW(h:uc R p ts [11]=true):uy R (p::(flat ts++[[11]]))=true:=by
 rw[(qO R).2,h];rfl
theorem CE(h:uy R (p::l)=true):uy R l=true:=by
 induction l using PI with
 |nil=>rfl
 |cons y r=>rw[eR,Qy] at h;exact h.2
noncomputable def T.firstTok:T->List Int
 |.leaf i=>i.enc
 |.one h _=>h.enc
 |.two v _ _=>[4,jq v]
noncomputable def jm(B:T->T->Bool):List T->Bool
 |[]=>true
 |t::r=>match r with
  |[]=>true
  |u::_=>!B t u && jm B r
mutual
noncomputable def sv(B:T->T->Bool):T->Bool
 |.leaf _=>true
 |.one _ a=>jm B a && dp B a
 |.two _ a b=>(jm B a && dp B a) && (jm B b && dp B b)
noncomputable def dp(B:T->T->Bool):List T->Bool
 |[]=>true
 |t::ts=>sv B t && dp B ts
end
structure RB (R:List Int->List Int->Bool) (B:T->T->Bool):Prop where
 hd:∀p q,p∈([[11],[5],[4,-1],[4,-64],[3,-64],[2,-1],[2,-64]]:List (List Int))->R p q=false
 tl:∀p q,q∈([[11],[5]]:List (List Int))->R p q=false
 is:∀t u,B t u=false->R t.gN u.firstTok=false
theorem rl(v:Bool)(c:Int)(hc:c=2\/c=4):[c,jq v]∈([[11],[5],[4,-1],[4,-64],[3,-64],[2,-1],[2,-64]]:List (List Int)):=by
 rcases hc with rfl |rfl<;>induction v using PU<;>exact RO.mp rfl
theorem H.mem(h:H):h.enc∈([[11],[5],[4,-1],[4,-64],[3,-64],[2,-1],[2,-64]]:List (List Int)):=by
 induction h using H.casesOn with
 |dg v=>exact rl v 2 (.inl rfl)
 |ku=>exact RO.mp rfl
 |iff v=>exact rl v 4 (.inr rfl)
theorem ir{L:List (List Int)}{f:List Int->Bool}(h:(L.all λp=>!f p)=true){p:List Int}(hp:p∈L):f p=false:=ec (QZ.mp h p hp)
theorem mN(h:a=false):(a && b)=false:=by rw[h];rfl
theorem kc(h:b=false):(a && b)=false:=by rw[h,Tg]
theorem bt(h:a=true)(h':b=true):(a && b)=true:=by rw[h,h'];rfl
theorem dG(h:a=false):(!a)=true:=by rw[h];rfl
theorem vZ(h:rq R p t=true)(h':R p' t.firstTok=false):rq R p' t=true:=by
 induction t using T.casesOn with
 |leaf i=>exact dG h'
 |one hh a=>exact bt (dG h') (ax h).2
 |two v a b=>exact bt (dG h') (ax h).2
theorem xI(x:RB R B):(∀t,sv B t=true->rq R [11] t=true)/\(∀ts,jm B ts=true->dp B ts=true->∀p q,q∈([[11],[5]]:List (List Int))->(∀t,ts.head?=some t->R p t.firstTok=false)->uc R p ts q=true):=by
 have h11:∀q,R [11] q=false:=λq=>x.hd _ _ (.head _);have m1:[11]∈([[11],[5]]:List (List Int)):=.head _;refine T.dO (λi _=>dG (h11 _)) (λh a ih hd=>?_) (λv a b iha ihb hd=>?_) (λ_ _ p q hq _=>dG (x.tl _ _ hq)) (λt ts iht ihs hs hd p q hq hp=>?_)
 ·have hd:=ax hd
  exact bt (dG (h11 _)) (ih hd.1 hd.2 _ _ m1 λt _=>x.hd _ _ h.mem)
 ·have hd:=ax hd
  have ha:=ax hd.1;have hb:=ax hd.2;exact bt (dG (h11 _)) (bt (iha ha.1 ha.2 _ _ (.tail _ (.head _)) λt _=>x.hd _ _ (rl v 4 (.inr rfl))) (ihb hb.1 hb.2 _ _ m1 λt _=>x.hd _ _ (.tail _ (.head _))))
 ·have hd:=ax hd
  refine bt (vZ (iht hd.1) (hp t rfl)) ?_;induction ts using PI with
  |nil=>exact dG (x.tl _ _ hq)
  |cons u us=>
   have hs:=ax hs;exact ihs hs.2 hd.2 _ _ hq λw hw=>PG hw ▸ x.is _ _ (ec hs.1)
theorem rA(x:RB R B)(hs:jm B ts=true)(hd:dp B ts=true):uc R [11] ts [11]=true:=
 (xI x).2 ts hs hd _ _ (.head _) λt _=>x.hd _ _ (.head _)
theorem pG:dp B (a++b)=(dp B a && dp B b):=by
 induction a with
 |nil=>simp[dp]
 |cons t a ih=>simp[dp,ih,Ru]
theorem gM:dp B a.reverse=dp B a:=by
 induction a with
 |nil=>rfl
 |cons t a ih=>rw[Qn,pG,ih];simp[dp,W0]
def Gd(B:T->T->Bool)(ts:List T):Prop:=jm B ts=true/\dp B ts=true
theorem wJ(hf:∀acc t,Gd B acc->sv B t=true->Gd B (f acc t)):(∀t,sv B (eX f t)=true)/\(∀ts acc,Gd B acc->Gd B (gV f acc ts)):=by
 refine T.dO (λi=>?_) (λh a ih=>?_) (λv a b iha ihb=>?_) (λacc h=>?_) (λt ts iht ihs acc h=>?_)
 ·unfold eX sv;rfl
 ·unfold eX sv;have:=ih [] ⟨rfl,rfl⟩;rw[this.1,this.2];rfl
 ·unfold eX sv;have h1:=iha [] ⟨rfl,rfl⟩;have h2:=ihb [] ⟨rfl,rfl⟩;rw[h1.1,h1.2,h2.1,h2.2];rfl
 ·unfold gV;exact h
 ·unfold gV;exact ihs _ (hf _ _ h iht)
theorem xl(hf:∀acc t,Gd B acc->sv B t=true->Gd B (f acc t))(ts:List T):Gd B (qn f ts):=(wJ hf).2 ts [] ⟨rfl,rfl⟩
theorem gY:jm B (t::u::r)=(!B t u && jm B (u::r)):=by rw[jm]
theorem j4{B:T->T->Bool}{t u:T}:∀{a:List T},jm B (a++[t,u])=(jm B (a++[t]) && !B t u)
 |[]=>by simp[jm]
 |[x]=>by simp[jm,Ru]
 |x::y::r=>by
  have:=j4 (B:=B) (t:=t) (u:=u) (a:=y::r);simp only[Qz] at this |-;rw[gY,gY,this,Ru]
noncomputable def b5(B:T->T->Bool):List T->Bool
 |[]=>true
 |u::r=>match r with
  |[]=>true
  |t::_=>!B t u && b5 B r
theorem cb:b5 B (u::t::r)=(!B t u && b5 B (t::r)):=by rw[b5]
theorem eS{B:T->T->Bool}:∀{a:List T},jm B a.reverse=b5 B a
 |[]=>rfl
 |[x]=>rfl
 |u::t::r=>by
  have:=eS (B:=B) (a:=t::r);rw[cb,<- this,Qn,Qn,PX];show jm B (r.reverse++[t,u])=_;rw[j4,W0]
theorem dq(h:b5 B (t::r)=true):b5 B r=true:=by
 induction r using PI with
 |nil=>rfl
 |cons u r=>rw[cb,Qy] at h;exact h.2
end
section
noncomputable def cd(p:List Int):Int:=p.headD 0
noncomputable def bad(n:Nat)(p q:List Int):Bool:=match n with
 |0=>[0,12,14,15].contains (cd p) && !([5,11]:List Int).contains (cd q)
 |1=>cd q == 26 && [32,65,34,69,106,107,27].contains (cd p)
 |2=>p.tail == q.tail && [((33:Int),(32:Int)),(32,33),(34,33),(32,34),(34,34)].contains (cd p,cd q)
 |3=>cd p == 1 || ([2,3,4,5].contains (cd p) && cd q == 11) || (cd p == 4 && cd q == 5)
 |5=>cd p == 65 && [69,4,13,14].contains (cd q)
 |_=>false
theorem CR(h:[0,12,14,15].contains (cd p)=false):bad 0 p q=false:=mN h
theorem Kj(h:(!([5,11]:List Int).contains (cd q))=false):bad 0 p q=false:=kc h
theorem DA(h:(cd q == 26)=false):bad 1 p q=false:=mN h
theorem HI(h:[32,65,34,69,106,107,27].contains (cd p)=false):bad 1 p q=false:=kc h
theorem LM(h:(p.tail == q.tail)=false):bad 2 p q=false:=mN h
theorem Dz(h:[((33:Int),(32:Int)),(32,33),(34,33),(32,34),(34,34)].contains (cd p,cd q)=false):bad 2 p q=false:=kc h
theorem Je(h1:(cd p == 1)=false)(h2:(cd q == 11)=false)(h3:(cd q == 5)=false):bad 3 p q=false:=by
 show(cd p == 1 || ([2,3,4,5].contains (cd p) && cd q == 11) || (cd p == 4 && cd q == 5))=false
 rw[h1,h2,h3,Tg,Tg];rfl
theorem Hs(h:(cd p == 65)=false):bad 5 p q=false:=mN h
theorem KN(h:[69,4,13,14].contains (cd q)=false):bad 5 p q=false:=kc h
noncomputable def Ln(u:T):Bool:=match u with
 |.leaf j=>match j with
  |.ic=>true
  |.b7 _=>true
  |.hW _ _=>true
  |_=>false
 |.one h _=>match h with
  |.iff _=>true
  |_=>false
 |.two _ _ _=>true
noncomputable def B5(t u:T):Bool:=(ky t).isSome && Ln u
theorem Nc(h:B5 (.leaf (.cst c)) u=false):Ln u=false:=h
theorem Pt:RB (bad 5) B5:=by
 refine⟨λp q h=>mN (ir (f:=λp=>cd p == 65) rfl h),λp q h=>kc (ir (f:=λq=>[69,4,13,14].contains (cd q)) rfl h),λt u h=>?_⟩;induction t using T.casesOn with
 |leaf i=>
  induction i using I.casesOn<;>first |exact Hs rfl |skip
  refine KN ?_;have h:Ln u=false:=h;revert h;show Ln u=false->[69,4,13,14].contains (cd u.firstTok)=false;induction u using T.casesOn with
  |leaf j=>induction j using I.casesOn<;>first |exact λ_=>rfl |exact λh=>jr h
  |one hh a=>induction hh using H.casesOn<;>first |exact λ_=>rfl |exact λh=>jr h
  |two v a b=>exact λh=>jr h
 |_=>exact Hs rfl
def GR(B:T->T->Bool)(xs:List T):Prop:=b5 B xs.tail=true/\dp B xs=true
theorem MH(h:b5 B r=true/\dp B (t::r)=true):GR B (t::r):=h
theorem vL{B:T->T->Bool}:∀(n:Nat){xs:List T},b5 B xs=true->b5 B (xs.drop n)=true
 |0,_,h=>h
 |n+1,[],h=>rfl
 |n+1,t::r,h=>vL n (dq h)
theorem yI{B:T->T->Bool}{f:List T->Option (List T)}(hf:∀{xs ys},f xs=some ys->GR B xs->GR B ys):∀{n:Nat}{xs:List T},GR B xs->GR B (fw f n xs)
 |0,_,h=>h
 |n+1,xs,h=>by
  unfold fw;split
  ·exact h
  ·rename_i q;exact yI hf (hf q h)
theorem sO(hl:∀{xs ys},f xs=some ys->Ref xs.reverse ys.reverse/\ys.length < xs.length)(hf:∀{xs ys},f xs=some ys->GR B xs->GR B ys)(hn:∀u t r,B t u=true->f (u::t::r)≠none)(acc:List T)(t:T)(ha:Gd B acc)(ht:sv B t=true):Gd B (iH f acc t):=by
 unfold iH;have g0:GR B (t::acc.reverse):=⟨by rw[List.tail_cons,<- eS,Qx];exact ha.1,by rw[dp,ht,gM,ha.2];rfl⟩;have g1:=yI hf (n:=acc.length+2) g0;have e:=A1 hl (n:=acc.length+2) (xs:=t::acc.reverse) (by simp);generalize fw f (acc.length+2) (t::acc.reverse)=ys at g1 e;refine⟨?_,by rw[gM];exact g1.2⟩;rw[eS];induction ys using PI with
 |nil=>rfl
 |cons u r=>
  induction r using PI with
  |nil=>rfl
  |cons w r=>
   rw[cb,Qy];refine⟨?_,g1.1⟩;induction q:B w u using PU with
   |false=>rfl
   |true=>exact absurd e (hn _ _ _ q)
theorem Ah(u t:T)(r:List T)(h:B5 t u=true):cg (u::t::r)≠none:=by
 have h:=ax h;induction e:ky t using Option.casesOn with
 |none=>rw[e] at h;exact cy h.1
 |some c=>
  obtain rfl:=jV e;have h:=h.2;revert h;show Ln u=true->DX u c r≠none;induction u using T.casesOn with
  |leaf j=>induction j using I.casesOn with
   |b7 k=>exact λ_ e=>(Decidable.em (c.i≠0)).elim (λq=>b8 ((if_pos q).symm.trans e)) λq=>b8 ((if_neg q).symm.trans e)
   |hW j k=>exact λ_ e=>b8 e
   |ic=>exact λ_ e=>b8 e
   |_=>exact λh=>cy h
  |one hh a=>induction hh using H.casesOn with
   |iff v=>exact λ_ e=>b8 e
   |_=>exact λh=>cy h
  |two v a b=>exact λ_ e=>b8 e
theorem qN:dp B (t::ts)=(sv B t && dp B ts):=rfl
theorem ji:dp B (.leaf i::ts)=dp B ts:=Tx _
theorem lR(g:GR B (t::.leaf i::r)):b5 B r=true/\dp B r=true/\sv B t=true:=⟨dq g.1,ji.symm.trans (ax g.2).2,(ax g.2).1⟩
theorem jX(h:b5 B r=true)(d:dp B r=true)(d1:sv B t=true):GR B (t::r):=⟨h,bt d1 d⟩
theorem xu(h:b5 B r=true)(d:dp B r=true):GR B r:=⟨by
 induction r using PI with
 |nil=>rfl
 |cons t r=>exact dq h,d⟩
theorem F5:cg xs=some ys->GR B5 xs->GR B5 ys:=by
 refine ka (P:=λxs ys=>GR B5 xs->GR B5 ys) (λb r g=>?_) (λi a b z r _ _ g=>?_) (λi b r _ _ g=>?_) (λb r _ g=>?_) (λb p r _ hp g=>?_) (λb v a r g=>?_) (λb v a c r g=>?_) (λb j k r g=>?_) (λb k r _ g=>?_) (λb k r _ g=>?_)
 ·have g:=lR g;exact jX g.1 g.2.1 rfl
 ·have g:=lR g;exact jX (dq g.1) (ji.symm.trans g.2.1) rfl
 ·have g:=lR g;exact xu g.1 g.2.1
 ·have g:=lR g;exact jX g.1 g.2.1 rfl
 ·have g:=lR g
  have d:=ax g.2.1;refine jX ?_ (bt rfl d.2) d.1;induction r using PI with
  |nil=>rfl
  |cons w r=>
   rw[cb,dq g.1,Up];show(!((ky w).isSome && false))=true;rw[Tg];rfl
 ·have g:=lR g
  refine jX g.1 g.2.1 ?_;by_cases q:b.i≠0
  ·rw[if_pos q];exact g.2.2
  ·rw[if_neg q];rfl
 ·have g:=lR g
  have d:=ax g.2.2;refine jX g.1 g.2.1 ?_;by_cases q:b.i≠0
  ·rw[if_pos q];exact d.1
  ·rw[if_neg q];exact d.2
 ·have g:=lR g;exact jX g.1 g.2.1 rfl
 ·have g:=lR g;exact jX g.1 g.2.1 rfl
 ·have g:=lR g;exact xu g.1 g.2.1
theorem Kz(ts:List T):uc (bad 5) [11] (dQ 5 ts) [11]=true:=by
 have:=xl (λacc t=>sO kO F5 Ah acc t) ts;exact rA Pt this.1 this.2
end
section
noncomputable def b2(i j:I):Bool:=match i with
 |.set a=>match j with
  |.get b=>a == b
  |_=>false
 |.get a=>match j with
  |.set b=>a == b
  |.dW b=>a == b
  |_=>false
 |.dW a=>match j with
  |.set b=>a == b
  |.dW b=>a == b
  |_=>false
 |_=>false
noncomputable def B2(t u:T):Bool:=match t with
 |.leaf i=>match u with
  |.leaf j=>b2 i j
  |_=>false
 |_=>false
theorem Df(h:[32,33,34].contains (cd q)=false):bad 2 p q=false:=by
 refine kc ?_;induction e:[((33:Int),(32:Int)),(32,33),(34,33),(32,34),(34,34)].contains (cd p,cd q) using PU with
 |false=>rfl
 |true=>
  have m:=RO.mp e;have:(cd q)∈[((33:Int),(32:Int)),(32,33),(34,33),(32,34),(34,34)].map (·.2):=List.mem_map_of_mem (f:=(·.2)) m
  have k:∀c∈[((33:Int),(32:Int)),(32,33),(34,33),(32,34),(34,34)].map (·.2),[32,33,34].contains c=true:=by decide
  rw[k _ this] at h;exact jr h
theorem Kk{a b:Nat}(h:(a == b)=false):(([(a:Int)]:List Int) == [(b:Int)])=false:=
 beq_eq_false_iff_ne.mpr λe=>beq_eq_false_iff_ne.mp h (SS (Q5 e).1)
theorem O0:RB (bad 2) B2:=by
 refine⟨λp q h=>kc (ir (f:=λp=>[((33:Int),(32:Int)),(32,33),(34,33),(32,34),(34,34)].contains (cd p,cd q)) rfl h),λp q h=>Df (ir (f:=λq=>[32,33,34].contains (cd q)) rfl h),λt u=>?_⟩;induction t using T.casesOn with
 |leaf i=>
  induction u using T.casesOn with
  |leaf j=>
   show b2 i j=false->bad 2 i.enc j.enc=false;induction i using I.casesOn<;>first |exact λ_=>Dz rfl |(induction j using I.casesOn<;>first |exact λ_=>Dz rfl |exact λh=>LM (Kk h))
  |one hh a=>exact λ_=>Df (by generalize hh=z9;induction z9 using H.casesOn<;>rfl)
  |two v a b=>exact λ_=>Df rfl
 |_=>exact λ_=>Dz rfl
theorem join_none(u t:T)(r:List T):B2 t u=true->joinR (u::t::r)≠none:=by
 have k:∀{a b:Nat}{x:List T},(a == b)=true->(if a=b then some x else none)≠none:=λh e=>b8 ((if_pos (beq_iff_eq.mp h)).symm.trans e)
 induction t using T.casesOn with
 |leaf i=>induction u using T.casesOn with
  |leaf j=>induction i using I.casesOn<;>first |exact λh=>cy h |(induction j using I.casesOn<;>first |exact λh=>cy h |exact λh=>k h)
  |_=>exact λh=>cy h
 |_=>exact λh=>cy h
theorem Fv:joinR xs=some ys->GR B2 xs->GR B2 ys:=by
 have k:∀{i:Nat}{a b:I}{r:List T},GR B2 (.leaf a::.leaf b::r)->∀c:I,GR B2 (.leaf c::r):=λg c=>by have g:=lR g;exact jX g.1 g.2.1 rfl
 exact jS (P:=λxs ys=>GR B2 xs->GR B2 ys) (λi r g=>k (i:=i) g _) (λi r g=>by have g:=lR g;exact xu g.1 g.2.1) (λi r g=>k (i:=i) g _) (λi r g=>k (i:=i) g _) (λi r g=>k (i:=i) g _)
theorem LX(ts:List T):uc (bad 2) [11] (dQ 2 ts) [11]=true:=by
 have:=xl (λacc t=>sO kv Fv join_none acc t) ts;exact rA O0 this.1 this.2
noncomputable def dropped:I->Bool
 |.get _=>true
 |.cst _=>true
 |.dW _=>true
 |.ic=>true
 |.add=>true
 |.sub=>true
 |.sel=>true
 |_=>false
noncomputable def B1(t u:T):Bool:=match t with
 |.leaf i=>match u with
  |.leaf j=>match j with
   |.drop=>dropped i
   |_=>false
  |_=>false
 |_=>false
theorem OW:RB (bad 1) B1:=by
 refine⟨λp q h=>kc (ir (f:=λp=>[32,65,34,69,106,107,27].contains (cd p)) rfl h),λp q h=>mN (ir (f:=λq=>cd q == 26) rfl h),λt u=>?_⟩;induction t using T.casesOn with
 |leaf i=>
  induction u using T.casesOn with
  |leaf j=>
   induction j using I.casesOn<;>first |exact λ_=>DA rfl |skip
   show dropped i=false->_;induction i using I.casesOn<;>first |exact λ_=>HI rfl |exact λh=>jr h
  |one hh a=>exact λ_=>DA (by generalize hh=z9;induction z9 using H.casesOn<;>rfl)
  |two v a b=>exact λ_=>DA rfl
 |_=>exact λ_=>HI rfl
theorem gC:∀(k:Nat){t:T}{r:List T},B1 t (.leaf .drop)=false->b5 B1 (t::r)=true->b5 B1 (Qi k (.leaf .drop)++t::r)=true
 |0,_,_,_,h=>h
 |1,t,r,hb,h=>by
  show b5 B1 (.leaf .drop::t::r)=true;rw[cb,hb,h];rfl
 |k+2,t,r,hb,h=>by
  show b5 B1 (.leaf .drop::.leaf .drop::(Qi k (.leaf .drop)++t::r))=true;rw[cb];have:=gC (k+1) hb h;rw[show(.leaf .drop::(Qi k (.leaf .drop)++t::r))=Qi (k+1) (T.leaf .drop)++t::r from rfl,this];rfl
theorem zy(k:Nat):b5 B1 (Qi k (.leaf .drop))=true:=by
 induction k using P0 with
 |zero=>rfl
 |succ k=>
  rw[List.replicate_succ',];exact gC k rfl rfl
theorem qy(k:Nat):dp B1 (Qi k (.leaf .drop)++r)=dp B1 r:=by
 induction k with
 |zero=>rfl
 |succ k ih=>rw[TL,Qz,ji,ih]
theorem N6(t:T)(h:KD true (λ_=>false) (λ_=>false) t=true):B1 t (.leaf .drop)=false:=by
 revert h;induction t using T.casesOn with
 |leaf i=>induction i using I.casesOn<;>first |exact λ_=>rfl |exact λh=>cy h
 |_=>exact λ_=>rfl
theorem GZ(j:Nat)(r:List T)(h:b5 B1 r=true):b5 B1 (.leaf (.set j)::r)=true:=by
 induction r using PI with
 |nil=>rfl
 |cons t r=>rw[cb,h,Up];induction t using T.casesOn<;>first |rfl |(rename_i i;induction i using I.casesOn<;>rfl)
theorem F7:∀(xs:List T)(k:Nat),b5 B1 xs=true->dp B1 xs=true->b5 B1 (putD k xs)=true/\dp B1 (putD k xs)=true:=
 rK (P:=λxs k ys=>b5 B1 xs=true->dp B1 xs=true->b5 B1 ys=true/\dp B1 ys=true) (λxs h1 h2=>⟨h1,h2⟩) (λk _ _=>⟨zy _,by have:=qy (k+1) (r:=[]);rw[Qg] at this;exact this⟩)
  (λt r k h h1 h2=>⟨gC _ (N6 t h) h1,(qy _).trans h2⟩) (λj r k h1 h2=>⟨gC _ rfl (GZ j r (dq h1)),(qy _).trans ((ji ..).trans ((ji ..).symm.trans h2))⟩)
  (λi n r k ys _ ih h1 h2=>ih (dq h1) ((ji ..).symm.trans h2))
theorem Bk(t u:T)(r:List T)(ht:t.Eh=false)(h1:b5 B1 (u::r)=true):b5 B1 (t::u::r)=true:=by
 rw[cb,h1,Up];revert ht;induction t using T.casesOn with
 |leaf i=>induction i using I.casesOn<;>first |exact λh=>jr h |exact λ_=>by induction u using T.casesOn<;>rfl
 |_=>exact λ_=>by induction u using T.casesOn<;>rfl
theorem El(acc:List T)(t:T)(ha:Gd B1 acc):sv B1 t=true->Gd B1 (ly acc t):=by
 refine mD (P:=λt ys=>sv B1 t=true->Gd B1 ys) (λ_=>?_) (λt ht h=>?_) t
 ·have:=F7 acc.reverse 1 (by rw[<- eS,Qx];exact ha.1) (by rw[gM];exact ha.2)
  exact⟨by rw[eS];exact this.1,by rw[gM];exact this.2⟩
 ·refine⟨?_,by rw[pG,ha.2,dp,h];rfl⟩
  have h1:=ha.1;rw[<- Qx acc,eS] at h1;rw[show acc++[t]=(t::acc.reverse).reverse by simp,eS];induction q:acc.reverse using PI with
  |nil=>rfl
  |cons u r=>rw[q] at h1;exact Bk t u r ht h1
theorem Lu(ts:List T):uc (bad 1) [11] (dQ 1 ts) [11]=true:=by
 have:=xl El ts;exact rA OW this.1 this.2
end
section
noncomputable def B0:T->T->Bool:=λt _=>dU t
theorem Pn:RB (bad 0) B0:=by
 refine⟨λp q h=>CR (ir (f:=λp=>[0,12,14,15].contains (cd p)) rfl h),λp q h=>Kj (ir (f:=λq=>!([5,11]:List Int).contains (cd q)) rfl h),λt u=>?_⟩;induction t using T.casesOn with
 |leaf i=>induction i using I.casesOn<;>first |exact λ_=>CR rfl |exact λh=>jr h
 |_=>exact λ_=>CR rfl
theorem lG:(∀t,sv B0 (bx t)=true)/\(∀ts,Gd B0 (dead ts)):=by
 refine T.dO (λi=>?_) (λh a ih=>?_) (λv a b iha ihb=>?_) ?_ (λt ts iht ihs=>?_)
 ·unfold bx sv;rfl
 ·unfold bx sv;rw[ih.1,ih.2];rfl
 ·unfold bx sv;rw[iha.1,iha.2,ihb.1,ihb.2];rfl
 ·unfold dead;exact⟨rfl,rfl⟩
 ·unfold dead
  split
  ·exact⟨rfl,by rw[qN,iht];rfl⟩
  ·rename_i hl
   have hl:dU (bx t)=false:=by simpa using hl
   split
   ·exact⟨by rw[gY];show(!dU (bx t) && _)=true;rw[hl];rfl,by rw[qN,iht];rfl⟩
   ·refine⟨?_,by rw[qN,iht,ihs.2];rfl⟩
    induction q:dead ts using PI with
    |nil=>rfl
    |cons u us=>rw[gY,<- q,ihs.1];show(!dU (bx t) && _)=true;rw[hl];rfl
theorem Le(ts:List T):uc (bad 0) [11] (dQ 0 ts) [11]=true:=rA Pn (lG.2 ts).1 (lG.2 ts).2
theorem ll{P:List T->Prop}{J:T->Prop}(h1:∀i,J (.leaf i))(h2:∀h a,P a->J (.one h a))(h3:∀v a b,P a->P b->J (.two v a b))(h4:P []){f:List T->T->List T}(hf:∀acc t,P acc->J t->P (f acc t)):
  (∀t,J (eX f t))/\(∀ts acc,P acc->P (gV f acc ts)):=by
 refine T.dO (λi=>?_) (λh a ih=>?_) (λv a b iha ihb=>?_) (λacc h=>?_) (λt ts iht ihs acc h=>?_)
 ·unfold eX;exact h1 i
 ·unfold eX;exact h2 _ _ (ih [] h4)
 ·unfold eX;exact h3 _ _ _ (iha [] h4) (ihb [] h4)
 ·unfold gV;exact h
 ·unfold gV;exact ihs _ (hf _ _ h iht)
noncomputable def JQ:I->Bool
 |.oM=>false
 |_=>true
mutual
noncomputable def EA:T->Bool
 |.leaf i=>JQ i
 |.one _ a=>!a.isEmpty && rS a
 |.two _ a b=>(!a.isEmpty && rS a) && (!b.isEmpty && rS b)
noncomputable def rS:List T->Bool
 |[]=>true
 |t::ts=>EA t && rS ts
end
theorem n6:rS (a++b)=(rS a && rS b):=by
 induction a with
 |nil=>simp[rS]
 |cons t a ih=>simp[rS,ih,Ru]
def Oq(t:T):Prop:=match t with
 |.leaf _=>True
 |.one _ a=>rS a=true
 |.two _ a b=>rS a=true/\rS b=true
theorem jc(ha:rS acc=true)(ht:EA t=true):rS (acc++[t])=true:=by
 rw[n6,ha];exact bt rfl (bt ht rfl)
theorem AJ(acc:List T)(t:T)(ha:rS acc=true):Oq t->rS (cV acc t)=true:=by
 induction t using T.casesOn with
 |leaf i=>induction i using I.casesOn<;>first |exact λ_=>ha |exact λ_=>jc ha rfl
 |one h a=>induction a using PI with
  |nil=>induction h using H.casesOn with
   |iff v=>exact λ_=>jc ha rfl
   |_=>exact λ_=>ha
  |cons u us=>exact λht=>jc ha ht
 |two v a b=>induction a using PI with
  |nil=>induction b using PI with
   |nil=>exact λ_=>jc ha rfl
   |cons u us=>
    intro ht;show rS (acc++[.leaf .ic,.one (.iff v) (u::us)])=true;rw[n6,ha];exact bt rfl (bt rfl (bt ht.2 rfl))
  |cons w ws=>induction b using PI with
   |nil=>exact λht=>jc ha ht.1
   |cons u us=>exact λht=>jc ha (bt ht.1 ht.2)
theorem Kt(t:T)(h:EA t=true)(q:List Int):bad 3 t.gN q=false:=by
 induction t using T.casesOn with
 |leaf i=>induction i using I.casesOn<;>first |rfl |exact cy h
 |_=>rfl
theorem xW(t:T)(hp:cd p≠1):bad 3 p t.firstTok=false:=by
 have hp:(cd p == 1)=false:=beq_eq_false_iff_ne.mpr hp;induction t using T.casesOn with
 |leaf i=>induction i using I.casesOn<;>exact Je hp rfl rfl
 |one h a=>induction h using H.casesOn<;>exact Je hp rfl rfl
 |two v a b=>exact Je hp rfl rfl
theorem sD(h:(cd p == 1)=false):cd p≠1:=beq_eq_false_iff_ne.mp h
theorem Cr:(∀t,EA t=true->∀p,cd p≠1->rq (bad 3) p t=true)/\(∀ts,rS ts=true->∀p q,cd p≠1->(ts=[]->bad 3 p q=false)->uc (bad 3) p ts q=true):=by
 have ne:∀{a:List T}{P:Prop},(!a.isEmpty)=true->a=[]->P:=λ{a P} h e=>by induction a using PI<;>first |exact cy h |exact nomatch e
 refine T.dO (λi h p hp=>dG (xW (.leaf i) hp)) (λh a ih ho p hp=>?_) (λv a b iha ihb ho p hp=>?_) (λ_ p q hp hq=>dG (hq rfl)) (λt ts iht ihs ho p q hp hq=>?_)
 ·have ho:=ax ho
  exact bt (dG (xW (.one h a) hp)) (ih ho.2 _ _ (sD (by generalize h=z9;induction z9 using H.casesOn<;>rfl)) (ne ho.1))
 ·have ho:=ax ho
  have ha:=ax ho.1;have hb:=ax ho.2;exact bt (dG (xW (.two v a b) hp)) (bt (iha ha.2 _ _ (sD rfl) (ne ha.1)) (ihb hb.2 _ _ (sD rfl) (ne hb.1)))
 ·have ho:=ax ho
  refine bt (iht ho.1 p hp) (ihs ho.2 _ _ (sD ?_) λe=>Kt t ho.1 q);induction t using T.casesOn with
  |leaf i=>induction i using I.casesOn<;>first |rfl |exact cy ho.1
  |_=>rfl
theorem KY(ts:List T):ts≠[]\/True->uc (bad 3) [11] (dQ 3 ts) [11]=true:=λ_=>
 Cr.2 _ ((ll (P:=λts=>rS ts=true) (J:=Oq) (λi=>trivial) (λh a p=>p) (λv a b p q=>⟨p,q⟩) rfl AJ).2 ts [] rfl) _ _ (sD rfl) λ_=>rfl
theorem ij(h:uc (bad n) [11] ts [11]=true):uy (bad n) (flat ts++[[11]])=true:=CE (BW h)
noncomputable def scan:List (List Int)->Nat->Bool
 |[],_=>false
 |p::r,d=>if[12,13,14].contains (cd p) && p.tail.contains (d:Int) then true else if cd p == 11 && d == 0 then false else
   scan r (if[2,3,4].contains (cd p) then d+1 else if cd p == 11 then d - 1 else d)
noncomputable def fP:List (List Int)->Bool
 |[]=>true
 |p::r=>match r with
  |[]=>true
  |_::_=>!([2,3].contains (cd p) && !scan r 0) && fP r
theorem vC:fP (x::y::r)=(!([2,3].contains (cd x) && !scan (y::r) 0) && fP (y::r)):=by rw[fP]
theorem qU{ks:List Nat}(h1:[12,13,14].contains c=true)(h2:(c == 11)=false)(h3:[2,3,4].contains c=false):scan ((c::ks.map Wo)::rest) d=(ks.contains d || scan rest d):=by
 have e:∀ks:List Nat,(ks.map Wo).contains (d:Int)=ks.contains d:=λks=>by
  induction ks with
  |nil=>rfl
  |cons k ks ih=>rw[RX,QG,QG,ih,show((d:Int) == Wo k)=(d == k) from by rw[SU,beq_iff_eq,beq_iff_eq];exact Int.ofNat_inj]
 show(if([12,13,14].contains c && (ks.map Wo).contains (d:Int))=true then true else if(c == 11 && d == 0)=true then false else scan rest (if[2,3,4].contains c=true then d+1 else if(c == 11)=true then d - 1 else d))=_
 rw[h1,h2,h3,e,Tx];induction ks.contains d using PU<;>rfl
theorem zK(i:I)(d:Nat)(rest:List (List Int)):scan (i.enc::rest) d=(i.eC.contains d || scan rest d):=by
 induction i using I.casesOn with
 |br k=>exact qU (ks:=[k]) rfl rfl rfl
 |b7 k=>exact qU (ks:=[k]) rfl rfl rfl
 |hW j k=>exact qU (ks:=[j,k]) rfl rfl rfl
 |_=>rfl
theorem pE(h:H)(d:Nat)(rest:List (List Int)):scan (h.enc::rest) d=scan rest (d+1):=by
 induction h using H.casesOn<;>rfl
theorem tJ(d:Nat)(rest:List (List Int)):scan ([11]::rest) (d+1)=scan rest d:=rfl
theorem J8(rest:List (List Int)):scan ([11]::rest) 0=false:=rfl
theorem zC(d:Nat)(rest:List (List Int)):scan ([5]::rest) d=scan rest d:=rfl
theorem BY:(∀t,∀d rest,scan (eT t++rest) d=(gI t d || scan rest d))/\(∀ts,∀d rest,scan (flat ts++rest) d=(ey ts d || scan rest d)):=by
 refine T.dO (λi d rest=>?_) (λh a ih d rest=>?_) (λv a b iha ihb d rest=>?_) (λd rest=>?_) (λt ts iht ihs d rest=>?_)
 ·simp only[eT,gI,Qz,Rk];exact zK i d rest
 ·simp only[eT,gI,Qz,PX,Rk]
  rw[pE,ih,tJ]
 ·simp only[eT,gI,Qz,PX,Rk]
  rw[show([4,jq v]:List Int)=(H.iff v).enc from rfl,pE,iha,zC,ihb,tJ,W2]
 ·simp[flat,ey]
 ·simp only[flat,ey,PX]
  rw[iht,ihs,W2]
mutual
noncomputable def qH:T->Bool
 |.leaf _=>true
 |.one h a=>la a && match h with
  |.iff _=>true
  |_=>ey a 0
 |.two _ a b=>la a && la b
noncomputable def la:List T->Bool
 |[]=>true
 |t::ts=>qH t && la ts
end
theorem mH:la (a++b)=(la a && la b):=by
 induction a with
 |nil=>simp[la]
 |cons t a ih=>simp[la,ih,Ru]
theorem Kh(h:k < d):lw d l=k↔l=k:=by unfold lw;split<;>(first |lia |rfl)
theorem wV(i:I)(h:k < d):(i.low d).eC.contains k=i.eC.contains k:=by
 have e:∀l,(k == lw d l)=(k == l):=λl=>by
  rw[SU,beq_iff_eq,beq_iff_eq,eq_comm,Kh h,eq_comm]
 have two:∀a b,[lw d a,lw d b].contains k=[a,b].contains k:=λa b=>by rw[QG,QG,QG,QG,e,e]
 have one:∀l,[lw d l].contains k=[l].contains k:=λl=>by rw[QG,QG,e]
 induction i using I.casesOn<;>first |rfl |exact one _ |exact two _ _
theorem ux:(∀t,∀d k,k < d->gI (fz t d) k=gI t k)/\(∀ts,∀d k,k < d->ey (low ts d) k=ey ts k):=by
 refine T.dO (λi d k h=>?_) (λhh a ih d k h=>?_) (λv a b iha ihb d k h=>?_) (λd k h=>?_) (λt ts iht ihs d k h=>?_)
 ·unfold fz gI;exact wV i h
 ·unfold fz gI;exact ih _ _ (by exact nA h)
 ·unfold fz gI;rw[iha _ _ (by exact nA h),ihb _ _ (by exact nA h)]
 ·unfold low ey;rfl
 ·unfold low ey;rw[iht _ _ h,ihs _ _ h]
theorem uK:(∀t,∀d,qH (fz t d)=qH t)/\(∀ts,∀d,la (low ts d)=la ts):=by
 refine T.dO (λi d=>?_) (λhh a ih d=>?_) (λv a b iha ihb d=>?_) (λd=>?_) (λt ts iht ihs d=>?_)
 ·unfold fz qH;rfl
 ·unfold fz qH;rw[ih,ux.2 a (d+1) 0 (by exact nZ)]
 ·unfold fz qH;rw[iha,ihb]
 ·unfold low la;rfl
 ·unfold low la;rw[iht,ihs]
def in4(t:T):Prop:=match t with
 |.leaf _=>True
 |.one _ a=>la a=true
 |.two _ a b=>la a=true/\la b=true
theorem lZ(ha:la acc=true)(ht:qH t=true):la (acc++[t])=true:=by
 rw[mH,ha];exact bt rfl (bt ht rfl)
theorem ui(ha:la acc=true)(ht:la a=true)(k:ey a 0=true->qH (.one h a)=true):la (lh h a acc)=true:=by
 unfold lh;induction q:ey a 0 using PU with
 |true=>exact lZ ha (k q)
 |false=>
  show la (acc++low a 0)=true;rw[mH,ha,uK.2];exact ht
theorem C1(acc:List T)(t:T)(ha:la acc=true):in4 t->la (m9 acc t)=true:=by
 induction t using T.casesOn with
 |leaf i=>exact λ_=>lZ ha rfl
 |one h a=>induction h using H.casesOn with
  |iff v=>exact λht=>lZ ha (bt ht rfl)
  |dg v=>exact λht=>ui ha ht λq=>bt ht q
  |ku=>exact λht=>ui ha ht λq=>bt ht q
 |two v a b=>exact λht=>lZ ha (bt ht.1 ht.2)
theorem eO(hp:[2,3].contains (cd p)=false)(h:fP r=true):fP (p::r)=true:=by
 induction r using PI with
 |nil=>rfl
 |cons y r=>exact bt (dG (mN hp)) h
theorem pI(hs:scan r 0=true)(h:fP r=true):fP (p::r)=true:=by
 induction r using PI with
 |nil=>rfl
 |cons y r=>exact bt (dG (kc (by rw[hs];rfl))) h
theorem Cd:(∀t,qH t=true->∀x rest,fP (x::rest)=true->fP (eT t++x::rest)=true)/\(∀ts,la ts=true->∀x rest,fP (x::rest)=true->fP (flat ts++x::rest)=true):=by
 have lp:∀{a:List T}{r:List (List Int)},ey a 0=true->scan (flat a++r) 0=true:=λh=>by rw[BY.2,h];rfl
 refine T.dO (λi h x rest hr=>eO (by generalize i=z9;induction z9 using I.casesOn<;>rfl) hr) (λh a ih ho x rest hr=>?_) (λv a b iha ihb ho x rest hr=>?_) (λh x rest hr=>hr) (λt ts iht ihs ho x rest hr=>?_)
 ·have ho:=ax ho
  have hin:=ih ho.1 [11] (x::rest) (eO rfl hr);show fP (h.enc::((flat a++[[11]])++x::rest))=true;rw[PX];induction h using H.casesOn with
  |iff v=>exact eO rfl hin
  |dg v=>exact pI (lp ho.2) hin
  |ku=>exact pI (lp ho.2) hin
 ·have ho:=ax ho
  show fP ([4,jq v]::((flat a++[5]::(flat b++[[11]]))++x::rest))=true;rw[PX,Qz,PX];exact eO rfl (iha ho.1 _ _ (eO rfl (ihb ho.2 _ _ (eO rfl hr))))
 ·have ho:=ax ho
  have:=ihs ho.2 x rest hr;show fP ((eT t++flat ts)++x::rest)=true;rw[PX];induction q:flat ts++x::rest using PI with
  |nil=>exact absurd (List.append_eq_nil_iff.mp q).2 nofun
  |cons y r=>rw[q] at this;exact iht ho.1 _ _ this
theorem KC(ts:List T):fP (flat (dQ 4 ts)++[[11]])=true:=
 Cd.2 _ ((ll (P:=λts=>la ts=true) (J:=in4) (λi=>trivial) (λh a p=>p) (λv a b p q=>⟨p,q⟩) rfl C1).2 ts [] rfl) _ _ rfl
theorem Cm(n:Nat)(hn:n < 6)(ts:List T):uy (bad n) (flat (dQ n ts)++[[11]])=true/\(n=4->fP (flat (dQ n ts)++[[11]])=true):=by
 have no:∀{m:Nat},m≠4->m=4->fP (flat (dQ m ts)++[[11]])=true:=λh e=>absurd e h;rcases n with _ |_ |_ |_ |_ |_ |n
 ·exact⟨ij (Le ts),no nofun⟩
 ·exact⟨ij (Lu ts),no nofun⟩
 ·exact⟨ij (LX ts),no nofun⟩
 ·exact⟨ij (KY ts (.inr trivial)),no nofun⟩
 ·refine⟨?_,λ_=>KC ts⟩
  have:∀l:List (List Int),uy (bad 4) l=true:=λl=>by
   induction l with
   |nil=>rfl
   |cons x r ih=>induction r using PI with
    |nil=>rfl
    |cons y r=>exact ih
  exact this _
 ·exact⟨ij (Kz ts),no nofun⟩
 ·exact absurd hn (UQ.mpr (QX 6 n))
end
section
structure eW (L:List Int) (s s':St) (B c:Nat):Prop where
 cost:c<=B
 len:s'.loc.length=5
 loc:2∈L->s'.loc[4]?=s.loc[4]?
def bK(L:List Int)(s:St)(B:Nat)(N:St->Prop):KT:=λo s' c=>eW L s s' B c/\match o with
 |.next=>N s'
 |.br k=>∃kd xs,L[k]?=some kd/\s'.ak=xs++s.ak/\(kd=1->xs≠[])
 |.ret=>∃xs,s'.ak=xs++s.ak/\xs≠[]
 |.bk=>True
theorem bK.dn:Dn (bK L s B N):=λo s' c c' hc w=>⟨⟨PH hc w.1.cost,w.1.len,w.1.loc⟩,w.2⟩
theorem bK.up(hB:B<=B')(hN:∀s',N s'->N' s'):su (bK L s B N) (bK L s B' N'):=λo s' c c' hc w=>
 ⟨⟨PH hc (PH w.1.cost hB),w.1.len,w.1.loc⟩,by
  induction o using O.casesOn with
  |next=>exact hN _ w.2
  |br k=>exact w.2
  |ret=>exact w.2
  |bk=>trivial⟩
theorem bK.base{s1:St}(h4:2∈L->s1.loc[4]?=s.loc[4]?)(hs:s1.ak=ys++s.ak):su (bK L s1 B N) (bK L s B N):=λo s' c c' hc w=>
 ⟨⟨PH hc w.1.cost,w.1.len,λh=>(w.1.loc h).trans (h4 h)⟩,by
  induction o using O.casesOn with
  |next=>exact w.2
  |br k=>
   refine cI w.2 λkd xs h1 h2 h3=>?_;exact⟨kd,xs++ys,h1,by rw[h2,hs,PX],λe=>by have:=h3 e;induction xs using PI<;>simp_all⟩
  |ret=>
   refine aT w.2 λxs h2 h3=>?_;exact⟨xs++ys,by rw[h2,hs,PX],by induction xs using PI<;>simp_all⟩
  |bk=>trivial⟩
theorem lH(w:W a (bK L s B N) s0 c)(hB:B<=B')(h:∀s1 c1,eW L s s1 B c1->N s1->W b (bK L s B' N') s1 c1):W (a++b) (bK L s B' N') s0 c:=by
 rw[nH];refine w.le (λo s1 c1 c1' hc w=>?_) (PK _);induction o using O.casesOn with
 |next=>exact h s1 c1' ⟨PH hc w.1.cost,w.1.len,w.1.loc⟩ w.2
 |br k=>exact⟨⟨PH hc (PH w.1.cost hB),w.1.len,w.1.loc⟩,w.2⟩
 |ret=>exact⟨⟨PH hc (PH w.1.cost hB),w.1.len,w.1.loc⟩,w.2⟩
 |bk=>exact⟨⟨PH hc (PH w.1.cost hB),w.1.len,w.1.loc⟩,w.2⟩
def aN(L:List Int)(w:Nat)(ts:List T):Prop:=∀s c,s.loc.length=5->W ts (bK L s (c+w) λs'=>∃v,s'.ak=v::s.ak) s c
def aC(L:List Int)(w:Nat)(ts:List T):Prop:=∀s c,s.loc.length=5->W ts (bK L s (c+w) λs'=>s'.ak=s.ak) s c
theorem aN.mono(g:aN L w ts)(h:w<=w'):aN L w' ts:=λs c hl=>(g s c hl).le (bK.up (by exact nA h) λ_ h=>h) (PK _)
theorem aC.mono(g:aC L w ts)(h:w<=w'):aC L w' ts:=λs c hl=>(g s c hl).le (bK.up (by exact nA h) λ_ h=>h) (PK _)
theorem aN.at(g:aN L w ts){s1:St}(p:eW L s s1 B c)(hs:s1.ak=ys++s.ak):W ts (bK L s (B+w) λs'=>∃v,s'.ak=v::(ys++s.ak)) s1 c:=by
 refine(g s1 c p.len).le (λo s' c1 c1' hc q=>?_) (PK _);have:=bK.base (N:=λs'=>∃v,s'.ak=v::s1.ak) p.loc hs o s' c1 c1' hc q;exact bK.up (by have:=p.cost;exact nA this) (λs' h=>by rw[hs] at h;exact h) o s' c1' c1' (PK _) this
theorem aC.at(g:aC L w ts){s1:St}(p:eW L s s1 B c)(hs:s1.ak=ys++s.ak):W ts (bK L s (B+w) λs'=>s'.ak=ys++s.ak) s1 c:=by
 refine(g s1 c p.len).le (λo s' c1 c1' hc q=>?_) (PK _);have:=bK.base (N:=λs'=>s'.ak=s1.ak) p.loc hs o s' c1 c1' hc q;exact bK.up (by have:=p.cost;exact nA this) (λs' h=>by rw[hs] at h;exact h) o s' c1' c1' (PK _) this
theorem eW.start(h:s.loc.length=5):eW L s s c c:=⟨PK _,h,λ_=>rfl⟩
theorem aC.nil:aC L 0 []:=λs c h=>by rw[B7];exact⟨.start h,rfl⟩
theorem aC.seq(x:aC L w1 a)(y:aC L w2 b):aC L (w1+w2) (a++b):=λs c h=>by
 refine lH (x s c h) (by exact nZ) λs1 c1 p q=>?_;exact(y.at (ys:=[]) p q).le (bK.up (by exact nZ) λ_ h=>h) (PK _)
theorem aC.Ml(x:aC L w1 a)(y:aN L w2 b):aN L (w1+w2) (a++b):=λs c h=>by
 refine lH (x s c h) (by exact nZ) λs1 c1 p q=>?_;exact(y.at (ys:=[]) p q).le (bK.up (by exact nZ) λ_ h=>h) (PK _)
theorem aN.then(x:aN L w1 a)(h:s.loc.length=5)(y:∀s1 c1 v,eW L s s1 (c+w1) c1->s1.ak=v::s.ak->W b (bK L s (c+(w1+w2)) N) s1 c1):
  W (a++b) (bK L s (c+(w1+w2)) N) s c:=
 lH (x s c h) (by exact nZ) λs1 c1 p ⟨v,q⟩=>y s1 c1 v p q
theorem Jt{y x:bS}{r loc tr:List bS}{K:KT}{c:Nat}(h1:K .bk ⟨r,loc,tr⟩ (c+1))(h2:K .next ⟨wr (x.i / y.i)::r,loc,tr⟩ (c+1)):WI .div K ⟨y::x::r,loc,tr⟩ c:=by
 show WO (if y.i=0 then some (.bk,⟨r,loc,tr⟩,1) else some (.next,⟨wr (x.i / y.i)::r,loc,tr⟩,1)) K c
 by_cases h:y.i=0
 ·rw[if_pos h];exact h1
 ·rw[if_neg h];exact h2
theorem E7{k:Nat}{x:bS}{r loc tr:List bS}{K:KT}{c:Nat}(h1:K (.br k) ⟨r,loc,tr⟩ (c+1))(h2:K .next ⟨r,loc,tr⟩ (c+1)):WI (.b7 k) K ⟨x::r,loc,tr⟩ c:=by
 show K (if x.i≠0 then .br k else .next) _ _
 by_cases h:x.i≠0
 ·rw[if_pos h];exact h1
 ·rw[if_neg h];exact h2
theorem IE{j k:Nat}{x:bS}{r loc tr:List bS}{K:KT}{c:Nat}(h1:K (.br j) ⟨r,loc,tr⟩ (c+1))(h2:K (.br k) ⟨r,loc,tr⟩ (c+1)):WI (.hW j k) K ⟨x::r,loc,tr⟩ c:=by
 show K (.br (if x.i=0 then j else k)) _ _
 by_cases h:x.i=0
 ·rw[if_pos h];exact h1
 ·rw[if_neg h];exact h2
theorem dF(L:List Int)(n:fX):aN L 1 [.leaf (.cst n)]:=λs c h=>⟨⟨PK _,h,λ_=>rfl⟩,_,rfl⟩
theorem dH(L:List Int)(i:Nat)(hi:i < 5):aN L 1 [.leaf (.get i)]:=λs c h=>
 gg (K:=fM (W [] _) _) (Ql (h.symm ▸ hi)) ⟨⟨PK _,h,λ_=>rfl⟩,_,rfl⟩
theorem aN.un(x:aN L w a)(i:I)(hi:i = .ic\/i = .call\/∃j,j < 4/\i = .dW j):aN L (w+1) (a++[.leaf i]):=λs c h=>by
 refine x.then (w2:=1) h λs1 c1 v p e=>?_;obtain⟨ak,loc,tr⟩:=s1;simp only at e;subst e;have hc:=p.cost;have hl:loc.length=5:=p.len;rcases hi with rfl |rfl |⟨j,hj,rfl⟩
 ·exact⟨⟨by exact nA hc,p.len,p.loc⟩,_,rfl⟩
 ·exact⟨⟨by exact nA hc,p.len,p.loc⟩,_,rfl⟩
 ·refine gB.mpr ⟨by exact nA hj (nR hl),⟨by exact nA hc,by rw[Sb];exact hl,λh2=>?_⟩,_,rfl⟩
  rw[Vm (by exact λz=>nF (nR z (nA hj)))];exact p.loc h2
theorem aN.bin(x:aN L w1 a)(y:aN L w2 b)(i:I)(hi:i = .add\/i = .sub\/i = .div):aN L (w1+w2+1) (a++b++[.leaf i]):=λs c h=>by
 rw[PX,show w1+w2+1=w1+(w2+1) by exact PN (nZ) (nZ)];refine x.then (w2:=w2+1) h λs1 c1 v p e=>?_;refine lH (y.at (ys:=[v]) p e) (by exact nZ) λs2 c2 p2 ⟨v2,e2⟩=>?_;obtain⟨ak,loc,tr⟩:=s2;simp only at e2;subst e2;have hc:=p2.cost;rcases hi with rfl |rfl |rfl
 ·exact⟨⟨by exact nA hc,p2.len,p2.loc⟩,_,rfl⟩
 ·exact⟨⟨by exact nA hc,p2.len,p2.loc⟩,_,rfl⟩
 ·exact Jt (K:=fM (W [] _) _) ⟨⟨by exact nA hc,p2.len,p2.loc⟩,trivial⟩ ⟨⟨by exact nA hc,p2.len,p2.loc⟩,_,rfl⟩
theorem aN.sel(x:aN L w1 a)(y:aN L w2 b)(z:aN L w3 d):aN L (w1+w2+w3+2) (a++b++d++[.leaf .sel]):=λs c h=>by
 rw[PX,PX,show w1+w2+w3+2=w1+(w2+w3+2) by exact PN (nZ) (nZ)];refine x.then (w2:=w2+w3+2) h λs1 c1 v p e=>?_;refine lH (y.at (ys:=[v]) p e) (by exact nZ) λs2 c2 p2 ⟨v2,e2⟩=>?_;refine lH (z.at (ys:=[v2,v]) p2 e2) (by exact nZ) λs3 c3 p3 ⟨v3,e3⟩=>?_;obtain⟨ak,loc,tr⟩:=s3;simp only at e3;subst e3;have hc:=p3.cost;exact⟨⟨by exact nA hc,p3.len,p3.loc⟩,_,rfl⟩
theorem bK.lv(hv:v=true->kd=1)(h2:kd=2->2∈L)(hk:v=false->kd≠1)(hN:∀s',s'.ak=(if v then s'.ak.take 1 else[])++s.ak->(v=true->∃x,s'.ak=x::s.ak)->N s'):
  su (bK (kd::L) s B λs'=>if v then ∃x,s'.ak=x::s.ak else s'.ak=s.ak) (lv (mv v) s.ak.length (bK L s B N)):=λo s' c c' hc w=>by
 have p:eW L s s' B c':=⟨PH hc w.1.cost,w.1.len,λh=>w.1.loc (.tail _ h)⟩;induction o using O.casesOn with
 |next=>
  refine⟨p,?_⟩;have:=w.2;induction v using PU with
  |true=>refine xE this λx e=>?_;exact hN _ (by rw[e];rfl) λ_=>⟨x,e⟩
  |false=>exact hN _ this λh=>by exact cy h
 |br k=>
  refine cI w.2 λkd' xs h1 h2 h3=>?_;induction k using P0 with
  |zero=>
   obtain rfl:=PG h1;have hlen:s'.ak.length=xs.length+s.ak.length:=by rw[h2,PS]
   have hdrop:s'.ak.drop (s'.ak.length - s.ak.length)=s.ak:=by rw[hlen,SX,h2,Q6]
   induction v using PU with
   |true=>
    have:=h3 (hv rfl)
    (refine vY (List.exists_cons_of_ne_nil this) λx xs q2q=>?_;obtain rfl:=q2q)
    refine⟨by rw[hlen];simp[mv];exact nZ,⟨p.cost,p.len,p.loc⟩,?_⟩;have e:s'.ak.take (mv true)++s'.ak.drop (s'.ak.length - s.ak.length)=x::s.ak:=by rw[hdrop,h2];rfl
    exact hN _ (by simp only[e];rfl) λ_=>⟨x,e⟩
   |false=>
    refine⟨by rw[hlen];simp[mv],⟨p.cost,p.len,p.loc⟩,?_⟩;have e:s'.ak.take (mv false)++s'.ak.drop (s'.ak.length - s.ak.length)=s.ak:=by rw[hdrop];rfl
    exact hN _ (by simp only[e];rfl) λh=>by exact cy h
  |succ k=>exact⟨p,kd',xs,h1,h2,h3⟩
 |ret=>exact⟨p,w.2⟩
 |bk=>exact⟨p,trivial⟩
end
section
theorem aN.dg(x:aN (1::L) w a):aN L (w+2) [.one (.dg true) a]:=λs c h=>by
 rw[dR];unfold W1;refine(x s (c+2) h).le (λo s' c1 c1' hc w=>?_) (PK _);refine bK.lv (v:=true) (kd:=1) (λ_=>rfl) (λe=>by cases e) (λe=>by exact jr e) (λs' e e2=>e2 rfl) o s' c1 c1' hc ?_
 exact bK.up (by exact nZ) (λ_ q=>q) o s' c1 c1 (PK _) w
theorem aC.dg(x:aC (0::L) w a):aC L (w+2) [.one (.dg false) a]:=λs c h=>by
 rw[dR];unfold W1;refine(x s (c+2) h).le (λo s' c1 c1' hc w=>?_) (PK _);refine bK.lv (v:=false) (kd:=0) (λe=>by exact cy e) (λe=>by cases e) (λ_=>by decide) (λs' e e2=>e) o s' c1 c1' hc ?_
 exact bK.up (by exact nZ) (λ_ q=>q) o s' c1 c1 (PK _) w
theorem LJ(x:aN (1::L) w a){s1:St}(p:eW L s s1 B c)(e:s1.ak=s.ak)(hb:c'+w<=B'):W a (lv (mv true) s.ak.length (bK L s B' λs'=>∃v,s'.ak=v::s.ak)) s1 c':=by
 refine(x s1 c' p.len).le (λo s' c1 c1' hc w=>?_) (PK _);rw[<- e];refine lI (K:=bK L s1 B' λs'=>∃v,s'.ak=v::s1.ak) (λo s' c c' hc q=>bK.base p.loc (ys:=[]) e o s' c c' hc q) o s' c1' c1' (PK _) ?_;refine bK.lv (v:=true) (kd:=1) (λ_=>rfl) (λe=>by cases e) (λe=>by exact jr e) (λs' e e2=>e2 rfl) o s' c1 c1' hc ?_
 exact bK.up hb (λ_ q=>q) o s' c1 c1 (PK _) w
theorem IP(x:aC (0::L) w a){s1:St}(p:eW L s s1 B c)(e:s1.ak=s.ak)(hb:c'+w<=B'):W a (lv (mv false) s.ak.length (bK L s B' λs'=>s'.ak=s.ak)) s1 c':=by
 refine(x s1 c' p.len).le (λo s' c1 c1' hc w=>?_) (PK _);rw[<- e];refine lI (K:=bK L s1 B' λs'=>s'.ak=s1.ak) (λo s' c c' hc q=>bK.base p.loc (ys:=[]) e o s' c c' hc q) o s' c1' c1' (PK _) ?_;refine bK.lv (v:=false) (kd:=0) (λe=>by exact cy e) (λe=>by cases e) (λ_=>by decide) (λs' e e2=>e) o s' c1 c1' hc ?_
 exact bK.up hb (λ_ q=>q) o s' c1 c1 (PK _) w
theorem eW.pop{L:List Int}{s:St}{ak loc tr:List bS}{B c:Nat}(p:eW L s ⟨ak,loc,tr⟩ B c)(stk':List bS):eW L s ⟨stk',loc,tr⟩ B c:=⟨p.cost,p.len,p.loc⟩
theorem aN.if2(z:aN L w0 d)(x:aN (1::L) w1 a)(y:aN (1::L) w2 b):aN L (w0+(3+w1+w2)) (d++[.two true a b]):=λs c h=>by
 refine z.then (w2:=3+w1+w2) h λs1 c1 v p e=>?_;obtain⟨ak,loc,tr⟩:=s1;simp only at e;subst e;have hc:=p.cost;rw[dR];unfold W1;simp only;split
 ·exact LJ x (p.pop _) rfl (by exact nA hc)
 ·exact LJ y (p.pop _) rfl (by exact nA hc)
theorem aC.if2(z:aN L w0 d)(x:aC (0::L) w1 a)(y:aC (0::L) w2 b):aC L (w0+(3+w1+w2)) (d++[.two false a b]):=λs c h=>by
 refine z.then (w2:=3+w1+w2) h λs1 c1 v p e=>?_;obtain⟨ak,loc,tr⟩:=s1;simp only at e;subst e;have hc:=p.cost;rw[dR];unfold W1;simp only;split
 ·exact IP x (p.pop _) rfl (by exact nA hc)
 ·exact IP y (p.pop _) rfl (by exact nA hc)
theorem aC.if1(z:aN L w0 d)(x:aC (0::L) w1 a):aC L (w0+(3+w1)) (d++[.one (.iff false) a]):=λs c h=>by
 refine z.then (w2:=3+w1) h λs1 c1 v p e=>?_;obtain⟨ak,loc,tr⟩:=s1;simp only at e;subst e;have hc:=p.cost;rw[dR];unfold W1;simp only;split
 ·exact IP x (p.pop _) rfl (by exact nA hc)
 ·exact⟨⟨by exact nA hc,p.len,p.loc⟩,rfl⟩
theorem aC.use(x:aN L w a)(i:I)(hi:i = .drop\/∃j,j < 4/\i = .set j):aC L (w+1) (a++[.leaf i]):=λs c h=>by
 refine x.then (w2:=1) h λs1 c1 v p e=>?_;obtain⟨ak,loc,tr⟩:=s1;simp only at e;subst e;have hc:=p.cost;have hl:loc.length=5:=p.len;rcases hi with rfl |⟨j,hj,rfl⟩
 ·exact⟨⟨by exact nA hc,p.len,p.loc⟩,rfl⟩
 ·refine gL.mpr ⟨by exact nA hj (nR hl),⟨by exact nA hc,by rw[Sb];exact hl,λh2=>?_⟩,rfl⟩
  rw[Vm (by exact λz=>nF (nR z (nA hj)))];exact p.loc h2
theorem DN(L:List Int):aC L 1 [.leaf .oM]:=λs c h=>by
 exact⟨⟨by exact nZ,h,λ_=>rfl⟩,rfl⟩
theorem Dj(L:List Int):aC L 1 [.leaf .pQ]:=λs c h=>by
 exact⟨⟨by exact nZ,h,λ_=>rfl⟩,trivial⟩
theorem DJ(x:aN L w a):aC L (w+1) (a++[.leaf .ret]):=λs c h=>by
 refine x.then (w2:=1) h λs1 c1 v p e=>?_;obtain⟨ak,loc,tr⟩:=s1;simp only at e;subst e;have hc:=p.cost;exact⟨⟨by exact nA hc,p.len,p.loc⟩,[v],rfl,by simp⟩
def Carry(L:List Int)(has:Bool)(w:Nat)(a:List T):Prop:=if has then aN L w a else a=[]
theorem Carry.run(x:Carry L has w a)(h:s.loc.length=5)(y:∀s1 c1 ys,eW L s s1 (c+w) c1->s1.ak=ys++s.ak->(has=true->∃v,ys=[v])->(has=false->ys=[])->W b (bK L s (c+(w+w2)) N) s1 c1):
  W (a++b) (bK L s (c+(w+w2)) N) s c:=by
 unfold Carry at x;induction has using PU with
 |true=>exact x.then h λs1 c1 v p e=>y s1 c1 [v] p e (λ_=>⟨v,rfl⟩) λh=>by exact jr h
 |false=>
  have x:a=[]:=x;subst x;exact y s c [] ⟨by exact nZ,h,λ_=>rfl⟩ rfl (λh=>by exact cy h) λ_=>rfl
theorem i8(p:eW L s s' B c)(e:s'.ak=ys++s.ak)(h1:has=true->∃v,ys=[v])(hk:L[k]?=some kd)(hh:(kd=1)=(has=true)):bK L s B N (.br k) s' c:=
 ⟨p,kd,ys,hk,e,λq=>by rw[hh] at q;(refine xE (h1 q) λv q1q=>?_;obtain rfl:=q1q);simp⟩
theorem GH(x:Carry L has w a)(hk:L[k]?=some kd)(hh:(kd=1)=(has=true)):aC L (w+1) (a++[.leaf (.br k)]):=λs c h=>
 x.run (w2:=1) h λs1 c1 ys p e h1 h0=>by
  have hc:=p.cost;exact i8 (N:=λs'=>s'.ak=s.ak) ⟨by exact nA hc,p.len,p.loc⟩ e h1 hk hh
theorem i6(x:Carry L has w a)(y:aN L w2 b)(hk:L[k]?=some kd)(hh:(kd=1)=(has=true)):
  aC L (w+(w2+2)) (a++(b++(.leaf (.b7 k)::if has then[.leaf .drop] else[]))):=λs c h=>
 x.run (w2:=w2+2) h λs1 c1 ys p e h1 h0=>by
  refine lH (y.at p e) (by exact nZ) λs2 c2 p2 ⟨v2,e2⟩=>?_;obtain⟨ak,loc,tr⟩:=s2;simp only at e2;subst e2;have hc:=p2.cost;refine E7 (r:=ys++s.ak) (K:=fM (W (if has then[.leaf .drop] else[]) _) _) ?_ ?_
  ·exact i8 (N:=λs'=>s'.ak=s.ak) (s':=⟨ys++s.ak,loc,tr⟩) ⟨by exact nA hc,p2.len,p2.loc⟩ rfl h1 hk hh
  ·induction has using PU with
   |true=>
    (refine xE (h1 rfl) λv q1q=>?_;obtain rfl:=q1q)
    exact⟨⟨by exact nA hc,p2.len,p2.loc⟩,rfl⟩
   |false=>
    have h0:=h0 rfl;subst h0;exact⟨⟨by exact nA hc,p2.len,p2.loc⟩,rfl⟩
theorem uN(x:Carry L has w a)(y:aN L w2 b)(hj:L[j]?=some kj)(hk:L[k]?=some kk)(hhj:(kj=1)=(has=true))(hhk:(kk=1)=(has=true)):
  aC L (w+(w2+1)) (a++(b++[.leaf (.hW j k)])):=λs c h=>
 x.run (w2:=w2+1) h λs1 c1 ys p e h1 h0=>by
  refine lH (y.at p e) (by exact nZ) λs2 c2 p2 ⟨v2,e2⟩=>?_;obtain⟨ak,loc,tr⟩:=s2;simp only at e2;subst e2;have hc:=p2.cost;rw[dR];refine IE (r:=ys++s.ak) ?_ ?_
  ·exact i8 (s':=⟨ys++s.ak,loc,tr⟩) ⟨by exact nA hc,p2.len,p2.loc⟩ rfl h1 hj hhj
  ·exact i8 (s':=⟨ys++s.ak,loc,tr⟩) ⟨by exact nA hc,p2.len,p2.loc⟩ rfl h1 hk hhk
noncomputable def n1:fX:=⟨1,by decide,by decide⟩
noncomputable def n2:fX:=⟨2,by decide,by decide⟩
noncomputable def jw(a:List T):List T:=[.leaf (.get 4),.leaf .ic,.leaf (.b7 1),.leaf (.get 4),.leaf (.cst n1),.leaf .sub,.leaf (.set 4)]++(a++[.leaf (.br 0)])
noncomputable def jt(a:List T):List T:=[.leaf (.cst n2),.leaf (.set 4),.one (.dg false) [.one .ku (jw a)]]
theorem wy(x:aC (2::0::L) w a)(h2:2∉L):∀(m:Nat)(s:St)(c:Nat),m < 3->s.loc[4]?=some (wr m)->s.loc.length=5->s.ak=s0.ak->c+3+m * (8+w)<=B->
  b9 s0.ak.length (W (jw a)) (lv 0 s0.ak.length (bK L s0 B λs'=>s'.ak=s0.ak)) (m+1) s c:=by
 intro m;induction m with
 |zero=>
  intro s c hm h4 hl hs hB;unfold b9 jw;obtain⟨ak,loc,tr⟩:=s;simp only at h4 hl hs;refine gg h4 ?_;show lv 0 _ _ (.br 0) _ _;refine⟨by rw[hs];exact PK _,⟨by exact nA hB,hl,λh=>absurd h h2⟩,?_⟩;simp only[hs];simp
 |succ m ih=>
  intro s c hm h4 hl hs hB;unfold b9 jw;obtain⟨ak,loc,tr⟩:=s;simp only at h4 hl hs;have hmul:(m+1) * (8+w)=m * (8+w)+(8+w):=by rw[Nat.add_mul,Nat.one_mul]
  have e1:¬ (wr (if(wr ((m:Int)+1)).i=0 then 1 else 0)).i≠0:=by
   have:m=0\/m=1:=by lia
   rcases this with rfl |rfl<;>decide
  have e2:wr ((wr ((m:Int)+1)).i - (wr n1.i).i)=wr m:=by
   have:m=0\/m=1:=by lia
   rcases this with rfl |rfl<;>rfl
  have h4':loc[4]?=some (wr ((m:Int)+1)):=by rw[h4];simp
  refine gg h4' ?_;show fM _ _ (if(wr (if(wr ((m:Int)+1)).i=0 then 1 else 0)).i≠0 then .br 1 else .next) _ _
  rw[if_neg e1];refine gg h4' (gL.mpr ⟨by exact nR hl,?_⟩);show W (a++[.leaf (.br 0)]) _ ⟨ak,loc.set 4 (wr ((wr ((m:Int)+1)).i - (wr n1.i).i)),tr⟩ _;rw[nH,e2];refine(x ⟨ak,loc.set 4 (wr m),tr⟩ (c+1+1+1+1+1+1+1) (by rw[Sb];exact hl)).le (λo s' c1 c1' hc q=>?_) (PK _);have q1:=q.1.cost;have ql:=q.1.len;have q4:s'.loc[4]?=some (wr m):=(q.1.loc (.head _)).trans (by rw[Sn];simp[hl]);have go:∀(st:List bS)(cc:Nat),st=s0.ak->cc<=c1'+1->b9 s0.ak.length (W (jw a)) (lv 0 s0.ak.length (bK L s0 B λs'=>s'.ak=s0.ak)) (m+1) ⟨st,s'.loc,s'.tr⟩ cc:=
   λst cc e hcc=>ih ⟨st,s'.loc,s'.tr⟩ cc (by exact nA hm) q4 ql e (by exact nA hcc (nR hmul (nA hc (nA hB (nA q1)))))
  have hd:∀xs:List bS,(xs++s0.ak).drop ((xs++s0.ak).length - s0.ak.length)=s0.ak:=λxs=>by
   rw[PS,SX,Q6]
  induction o using O.casesOn with
  |next=>
   have e:s'.ak=s0.ak:=q.2.trans hs;exact And.intro (a:=s0.ak.length<=s'.ak.length) (by rw[e];exact PK _) (go _ _ (by rw[e];simp) (by exact nZ))
  |br k=>
   refine cI q.2 λkd xs k1 k2 k3=>?_;have e:s'.ak=xs++s0.ak:=k2.trans (by rw[<- hs]);induction k using P0 with
   |zero=>exact⟨by rw[e,PS];exact nZ,go _ _ (by rw[e];exact hd xs) (by exact nZ)⟩
   |succ k=>
    induction k using P0 with
    |zero=>
     show lv 0 _ _ (.br 0) _ _;refine⟨by rw[e,PS];exact nZ,⟨by exact nA hc (nA q1 (nA hB (nR hmul))),ql,λh=>absurd h h2⟩,?_⟩;show s'.ak.take 0++s'.ak.drop _=_;rw[e,hd];rfl
    |succ k=>exact⟨⟨by exact nA hc (nA q1 (nA hB (nR hmul))),ql,λh=>absurd h h2⟩,kd,xs,k1,e,k3⟩
  |ret=>
   refine aT q.2 λxs k2 k3=>?_;exact⟨⟨by exact nA hc (nA q1 (nA hB (nR hmul))),ql,λh=>absurd h h2⟩,xs,k2.trans (by rw[<- hs]),k3⟩
  |bk=>exact⟨⟨by exact nA hc (nA q1 (nA hB (nR hmul))),ql,λh=>absurd h h2⟩,trivial⟩
theorem zX(x:aC (2::0::L) w a)(h2:2∉L):aC L (25+2 * w) (jt a):=λs c h=>by
 obtain⟨ak,loc,tr⟩:=s;unfold jt;simp only at h;refine gL.mpr ⟨by exact nR h,?_⟩;show W [.one (.dg false) [.one .ku (jw a)]] _ _ _;rw[dR];show W [.one .ku (jw a)] _ _ _;rw[dR];refine⟨3,?_⟩;have:=wy x h2 (s0:=⟨ak,loc,tr⟩) (B:=c+(25+2 * w)) 2 ⟨ak,loc.set 4 (wr n2.i),tr⟩ (c+1+1+2+2) (by exact nZ) (by rw[Sn];simp[h];rfl) (by rw[Sb];exact h) rfl (by exact nZ);refine iv (λhk s c c' hc w=>w.le hk hc) ?_ (PK _) this;refine λo s' c c' hc w=>?_;have w:=lI bK.dn o s' c c' hc w;induction o using O.casesOn with
 |next=>exact w
 |br k=>induction k using P0 with
  |zero=>exact w
  |succ k=>exact w
 |ret=>exact w
 |bk=>exact w
end
section
inductive Tok where
 |ins (i:I) |lz (h:H) |rj |fin
noncomputable def Tok.enc:Tok->List Int
 |.ins i=>i.enc
 |.lz h=>h.enc
 |.rj=>[5]
 |.fin=>[11]
mutual
noncomputable def lD:T->List Tok
 |.leaf i=>[.ins i]
 |.one h a=>.lz h::(bc a++[.fin])
 |.two v a b=>.lz (.iff v)::(bc a++.rj::(bc b++[.fin]))
noncomputable def bc:List T->List Tok
 |[]=>[]
 |t::ts=>lD t++bc ts
end
theorem jC:(∀t,(lD t).map Tok.enc=eT t)/\(∀ts,(bc ts).map Tok.enc=flat ts):=by
 refine T.dO (λi=>?_) (λh a ih=>?_) (λv a b iha ihb=>?_) ?_ (λt ts iht ihs=>?_)
 ·rfl
 ·simp[lD,eT,ih,Tok.enc]
 ·simp[lD,eT,iha,ihb,Tok.enc,H.enc]
 ·rfl
 ·simp[bc,flat,iht,ihs]
theorem IM(a b:List T):bc (a++b)=bc a++bc b:=by
 induction a with
 |nil=>simp[bc]
 |cons t a ih=>simp[bc,ih]
structure Lb where
 goal:Nat
 sW:Nat
 many:Nat
 loop:Bool
structure RS where
 pos:Nat
 ak:List bS
 lab:List Lb
 loc:List bS
 tr:List bS
inductive Rs where
 |ok (ak tr:List bS)
 |bk (tr:List bS)
inductive jk where
 |to (rs:RS) |res (r:Rs)
noncomputable def dM(d:Nat)(rs:RS):Option jk:=(rs.lab[d]?).bind λl=>if l.sW+l.many<=rs.ak.length then
   some (.to {rs with pos:=l.goal,ak:=rs.ak.take l.many++rs.ak.drop (rs.ak.length - l.sW),lab:=rs.lab.drop (d+if l.loop then 0 else 1)})
  else none
noncomputable def ib(rs:RS)(f:bS->RS->Option jk):Option jk:=match rs.ak with
 |[]=>none
 |x::r=>f x {rs with ak:=r}
noncomputable def oZ(rs:RS)(x:bS):Option jk:=some (.to {rs with ak:=x::rs.ak})
noncomputable def plainS(i:I)(rs:RS):Option jk:=match i with
 |.oM=>some (.to rs)
 |.call=>ib rs λx rs=>some (.to {rs with ak:=wr (x.i+1)::rs.ak,tr:=rs.tr++[x]})
 |.drop=>ib rs λ_ rs=>some (.to rs)
 |.sel=>ib rs λz rs=>ib rs λy rs=>ib rs λx rs=>oZ rs (if z.i≠0 then x else y)
 |.get i=>match rs.loc[i]? with |some x=>oZ rs x |none=>none
 |.set i=>ib rs λx rs=>if i < rs.loc.length then some (.to {rs with loc:=rs.loc.set i x}) else none
 |.dW i=>ib rs λx rs=>if i < rs.loc.length then some (.to {rs with ak:=x::rs.ak,loc:=rs.loc.set i x}) else none
 |.cst n=>oZ rs (wr n.i)
 |.ic=>ib rs λx rs=>oZ rs (wr (if x.i=0 then 1 else 0))
 |.add=>ib rs λy rs=>ib rs λx rs=>oZ rs (wr (x.i+y.i))
 |.sub=>ib rs λy rs=>ib rs λx rs=>oZ rs (wr (x.i - y.i))
 |.div=>ib rs λy rs=>ib rs λx rs=>if y.i=0 then some (.res (.bk rs.tr)) else oZ rs (wr (x.i / y.i))
 |_=>none
noncomputable def N5(i:I)(rs:RS):Option jk:=match i with
 |.pQ=>some (.res (.bk rs.tr))
 |.br k=>dM k rs
 |.b7 k=>ib rs λx rs=>if x.i≠0 then dM k rs else some (.to rs)
 |.hW j k=>ib rs λx rs=>dM (if x.i=0 then j else k) rs
 |.ret=>dM (rs.lab.length - 1) rs
 |i=>plainS i rs
noncomputable def iL(e:Nat):Option Nat->Nat
 |some y=>y+1
 |none=>e
noncomputable def Lj(E X:Nat->Option Nat)(h:H)(rs:RS):Option jk:=match h with
 |.dg v=>(E rs.pos).bind λe=>some (.to ⟨rs.pos+1,rs.ak,⟨e+1,rs.ak.length,mv v,false⟩::rs.lab,rs.loc,rs.tr⟩)
 |.ku=>some (.to ⟨rs.pos+1,rs.ak,⟨rs.pos+1,rs.ak.length,0,true⟩::rs.lab,rs.loc,rs.tr⟩)
 |.iff v=>ib rs λx rs=>(E rs.pos).bind λe=>some (.to ⟨if x.i≠0 then rs.pos+1 else iL e (X rs.pos),rs.ak,⟨e+1,rs.ak.length,mv v,false⟩::rs.lab,rs.loc,rs.tr⟩)
noncomputable def hY(E X:Nat->Option Nat)(t:Tok)(rs:RS):Option jk:=match t with
 |.ins i=>N5 i {rs with pos:=rs.pos+1}
 |.lz h=>Lj E X h rs
 |.rj=>(E rs.pos).bind λe=>some (.to {rs with pos:=e})
 |.fin=>match rs.lab with
  |[]=>none
  |_::l=>some (.to {rs with pos:=rs.pos+1,lab:=l})
noncomputable def qF(f:RS->Option Rs):Option jk->Option Rs
 |some z=>match z with
  |.to rs=>f rs
  |.res r=>some r
 |none=>none
noncomputable def A2(f:Option jk->Option Rs)(E X:Nat->Option Nat)(rs:RS):Option Tok->Option Rs
 |none=>some (.ok rs.ak rs.tr)
 |some t=>f (hY E X t rs)
noncomputable def runN(E X:Nat->Option Nat)(body:List Tok):Nat->RS->Option Rs
 |0,_=>none
 |n+1,rs=>A2 (qF (runN E X body n)) E X rs (body[rs.pos]?)
theorem runN_mono:∀{m:Nat}{rs:RS},n<=m->runN E X body n rs=some r->runN E X body m rs=some r:=by
 induction n with
 |zero=>exact λ_ h=>bf h
 |succ n ih=>
  intro m rs hm h;obtain⟨m,rfl⟩:∃k,m=k+1:=⟨m - 1,(TY (PH (QX 1 n) hm)).symm⟩;have h:A2 (qF (runN E X body n)) E X rs (body[rs.pos]?)=some r:=h;show A2 (qF (runN E X body m)) E X rs (body[rs.pos]?)=some r;revert h;generalize body[rs.pos]?=z;induction z using Option.casesOn with
  |none=>exact id
  |some t=>
   show qF _ (hY E X t rs)=_->qF _ (hY E X t rs)=_;generalize hY E X t rs=z;induction z using Option.casesOn with
   |none=>exact id
   |some z=>induction z using jk.casesOn with
    |to rs=>exact ih (Nat.le_of_succ_le_succ hm)
    |res=>exact id
mutual
noncomputable def yT(E X:Nat->Option Nat):T->Nat->Prop
 |.leaf _,_=>True
 |.one h a,p=>E p=some (p+1+(bc a).length)/\(∀v,h = .iff v->X p=none)/\oo E X a (p+1)
 |.two v a b,p=>E p=some (p+2+(bc a).length+(bc b).length)/\X p=some (p+1+(bc a).length)/\E (p+1+(bc a).length)=some (p+2+(bc a).length+(bc b).length)/\oo E X a (p+1)/\oo E X b (p+2+(bc a).length)
noncomputable def oo(E X:Nat->Option Nat):List T->Nat->Prop
 |[],_=>True
 |t::ts,p=>yT E X t p/\oo E X ts (p+(lD t).length)
end
def wU(K:KT):KT:=λo s c=>K o s (c+1)
theorem Md{K:KT}{s:St}{c:Nat}:WI i K s (c+1)->WI i (wU K) s c:=by
 unfold WI;induction wi i s using Option.casesOn with
 |none=>exact id
 |some z=>exact λw=>(QU c 1 z.2.2 ▸ w:K z.1 z.2.1 (c+z.2.2+1))
theorem Kg{m h:Nat}{K:KT}:∀o s c,wU (lv m h K) o s c->lv m h (wU K) o s c:=λo s c w=>by
 induction o using O.casesOn with
 |br k=>induction k using P0 with
  |zero=>exact w
  |succ k=>exact w
 |_=>exact w
theorem W.imp{K K':KT}(d:Dn K)(h:∀o s c,K o s c->K' o s c){s:St}{c:Nat}(w:W ts K s c):W ts K' s c:=w.le (λo s c c' hc q=>h o s c' (d o s c c' hc q)) (PK _)
theorem Dn.sh{K:KT}(d:Dn K):Dn (wU K):=λo s c c' hc w=>d _ _ _ _ (by exact nA hc) w
theorem IU:(∀t,∀K,Dn K->∀s c,W1 t K s (c+1)->W1 t (wU K) s c)/\(∀ts,∀K,Dn K->∀s c,W ts K s (c+1)->W ts (wU K) s c):=by
 have lvs:∀{a:List T}{m h:Nat}{K:KT}{s:St}{c d:Nat},Dn K->(∀K,Dn K->∀s c,W a K s (c+1)->W a (wU K) s c)->W a (lv m h K) s (c+1+d)->W a (lv m h (wU K)) s (c+d):=λ{a m h K s c d} dn ih w=>
  (ih _ dn.lv s (c+d) (QU c 1 d ▸ w)).imp dn.lv.sh Kg
 refine T.dO (λi K d s c w=>Md w) (λh a ih K d s c w=>?_) (λv a b iha ihb K d s c w=>?_) (λK d s c w=>w) (λt ts iht ihs K d s c w=>?_)
 ·induction h using H.casesOn with
  |dg v=>exact lvs d ih w
  |ku=>
   refine xE w λn w=>?_;have key:∀(sW n:Nat)(s:St)(c:Nat),b9 sW (W a) K n s (c+1)->b9 sW (W a) (wU K) n s c:=λsW n=>by
    induction n with
    |zero=>exact λ_ _ w=>w
    |succ n ihn=>
     intro s c w;refine W.imp (K:=wU (qo sW (λs c=>b9 sW (W a) K n s c) K)) (K':=qo sW (λs c=>b9 sW (W a) (wU K) n s c) (wU K)) (jl d).sh (λo s c w=>?_) (ih _ (jl d) s c w);induction o using O.casesOn with
     |br k=>induction k using P0 with
      |zero=>exact⟨w.1,ihn _ _ w.2⟩
      |succ k=>exact w
     |_=>exact w
   exact⟨n,key _ _ _ _ w⟩
  |iff v=>
   obtain⟨ak,loc,tr⟩:=s;induction ak using PI with
   |nil=>exact w
   |cons y r=>exact c9 (lvs d ih) id w
 ·obtain⟨ak,loc,tr⟩:=s
  induction ak using PI with
  |nil=>exact w
  |cons y r=>exact c9 (lvs d iha) (lvs d ihb) w
 ·refine W1.le (K:=wU (fM (W ts K) K)) (λo s c c' hc w=>?_) (PK _) (iht _ d.fM s c w)
  have w:=d.fM.sh _ _ _ _ hc w;induction o using O.casesOn with
  |next=>exact ihs _ d _ _ w
  |_=>exact w
theorem W.sh{K:KT}(d:Dn K){s:St}{c:Nat}(w:W ts K s (c+1)):W ts (wU K) s c:=IU.2 ts K d s c w
end
section
section
variable(E X:Nat->Option Nat)(body:List Tok)(N:Nat)(R:Rs)
def Runs(c:Nat)(rs:RS):Prop:=c<=N/\runN E X body (N - c) rs=some R
def Gh(c:Nat):jk->Prop
 |.to rs=>Runs E X body N R c rs
 |.res r=>c<=N/\r=R
noncomputable def dX(s:St)(p:Nat)(lab:List Lb):RS:=⟨p,s.ak,lab,s.loc,s.tr⟩
def RK(lab:List Lb)(e:Nat):KT:=λo s c=>match o with
 |.next=>Runs E X body N R c (dX s e lab)
 |.br k=>∃z,(∀p,dM k (dX s p lab)=some z)/\Gh E X body N R c z
 |.ret=>∃z,(∀p,dM (lab.length - 1) (dX s p lab)=some z)/\Gh E X body N R c z
 |.bk=>c<=N/\R = .bk s.tr
end
section
variable{E X:Nat->Option Nat}{body:List Tok}{N:Nat}{R:Rs}
theorem Runs.le(h:c'<=c)(x:Runs E X body N R c rs):Runs E X body N R c' rs:=⟨PH h x.1,runN_mono (by omega) x.2⟩
theorem Gh.le(h:c'<=c)(x:Gh E X body N R c z):Gh E X body N R c' z:=by
 induction z using jk.casesOn with
 |to rs=>exact Runs.le h x
 |res r=>exact⟨PH h x.1,x.2⟩
theorem RK.dn:Dn (RK E X body N R lab e):=λo s c c' hc w=>by
 induction o using O.casesOn with
 |next=>exact Runs.le hc w
 |br k=>refine aT w λz h1 h2=>?_;exact⟨z,h1,h2.le hc⟩
 |ret=>refine aT w λz h1 h2=>?_;exact⟨z,h1,h2.le hc⟩
 |bk=>exact⟨PH hc w.1,w.2⟩
theorem Runs.of(h:c+1<=N)(g:runN E X body (N - (c+1)+1) rs=some R):Runs E X body N R c rs:=by
 refine⟨Tn h,?_⟩;rw[<- Nat.sub_sub,TY (Nat.le_sub_of_add_le (Rr c 1 ▸ h))] at g;exact g
theorem Runs.step(ht:body[rs.pos]?=some t)(hs:hY E X t rs=some z)(h:Gh E X body N R (c+1) z):Runs E X body N R c rs:=by
 have e:∀n,runN E X body (n+1) rs=qF (runN E X body n) (some z):=λn=>(congrArg (A2 _ E X rs) ht).trans (congrArg (qF _) hs);induction z using jk.casesOn with
 |to rs'=>exact Runs.of h.1 ((e _).trans h.2)
 |res r=>exact Runs.of h.1 ((e _).trans (congrArg some h.2))
theorem BM(ht:body[p]?=some (.ins i))(w:WI i (RK E X body N R lab (p+1)) s c):Runs E X body N R c (dX s p lab):=by
 obtain⟨ak,loc,tr⟩:=s;have go:∀{z:jk},hY E X (.ins i) (dX ⟨ak,loc,tr⟩ p lab)=some z->Gh E X body N R (c+1) z->Runs E X body N R c (dX ⟨ak,loc,tr⟩ p lab):=λhs h=>Runs.step ht hs h;induction i using I.casesOn with
 |pQ=>exact go rfl ⟨w.1,w.2.symm⟩
 |br k=>refine aT w λz h1 h2=>?_;exact go (h1 (p+1)) h2
 |ret=>refine aT w λz h1 h2=>?_;exact go (h1 (p+1)) h2
 |b7 k=>
  induction ak using PI with
  |nil=>exact w.elim
  |cons x r=>
   have w:RK E X body N R lab (p+1) (if x.i≠0 then .br k else .next) ⟨r,loc,tr⟩ (c+1):=w
   by_cases q:x.i≠0
   ·rw[if_pos q] at w
    refine aT w λz h1 h2=>?_;exact go ((if_pos q).trans (h1 (p+1))) h2
   ·rw[if_neg q] at w
    exact go (z:=.to ⟨p+1,r,lab,loc,tr⟩) (if_neg q) w
 |hW j k=>
  induction ak using PI with
  |nil=>exact w.elim
  |cons x r=>refine aT w λz h1 h2=>?_;exact go (h1 (p+1)) h2
 |get i=>
  refine aT (nB w) λx q w=>?_;refine go (z:=.to ⟨p+1,x::ak,lab,loc,tr⟩) ?_ w;show(match loc[i]? with |some x=>oZ ⟨p+1,ak,lab,loc,tr⟩ x |none=>none)=_
  rw[q];rfl
 |set i=>
  induction ak using PI with
  |nil=>exact w.elim
  |cons x r=>have w:=gL.mp w;exact go (z:=.to ⟨p+1,r,lab,loc.set i x,tr⟩) (if_pos w.1) w.2
 |dW i=>
  induction ak using PI with
  |nil=>exact w.elim
  |cons x r=>have w:=gB.mp w;exact go (z:=.to ⟨p+1,x::r,lab,loc.set i x,tr⟩) (if_pos w.1) w.2
 |div=>
  rcases ak with _ |⟨x,_ |⟨y,r⟩⟩
  ·exact w.elim
  ·exact w.elim
  ·have w:WO (if x.i=0 then some (.bk,⟨r,loc,tr⟩,1) else some (.next,⟨wr (y.i / x.i)::r,loc,tr⟩,1)) (RK E X body N R lab (p+1)) c:=w
   by_cases q:x.i=0
   ·rw[if_pos q] at w
    exact go (z:=.res (.bk tr)) (if_pos q) ⟨w.1,w.2.symm⟩
   ·rw[if_neg q] at w
    exact go (z:=.to ⟨p+1,wr (y.i / x.i)::r,lab,loc,tr⟩) (if_neg q) w
 |sel=>
  rcases ak with _ |⟨x,_ |⟨y,_ |⟨z,r⟩⟩⟩
  ·exact w.elim
  ·exact w.elim
  ·exact w.elim
  ·exact go (z:=.to ⟨p+1,(if x.i≠0 then z else y)::r,lab,loc,tr⟩) rfl (Runs.le (P5 (c+1)) w)
 |oM=>exact go (z:=.to ⟨p+1,ak,lab,loc,tr⟩) rfl w
 |cst n=>exact go (z:=.to ⟨p+1,wr n.i::ak,lab,loc,tr⟩) rfl w
 |call=>
  induction ak using PI with
  |nil=>exact w.elim
  |cons x r=>exact go (z:=.to ⟨p+1,wr (x.i+1)::r,lab,loc,tr++[x]⟩) rfl w
 |drop=>
  induction ak using PI with
  |nil=>exact w.elim
  |cons x r=>exact go (z:=.to ⟨p+1,r,lab,loc,tr⟩) rfl w
 |ic=>
  induction ak using PI with
  |nil=>exact w.elim
  |cons x r=>exact go (z:=.to ⟨p+1,wr (if x.i=0 then 1 else 0)::r,lab,loc,tr⟩) rfl w
 |add=>
  rcases ak with _ |⟨x,_ |⟨y,r⟩⟩
  ·exact w.elim
  ·exact w.elim
  ·exact go (z:=.to ⟨p+1,wr (y.i+x.i)::r,lab,loc,tr⟩) rfl w
 |sub=>
  rcases ak with _ |⟨x,_ |⟨y,r⟩⟩
  ·exact w.elim
  ·exact w.elim
  ·exact go (z:=.to ⟨p+1,wr (y.i - x.i)::r,lab,loc,tr⟩) rfl w
theorem lY(ht:body[p]?=some .fin)(h:Runs E X body N R (c+1) (dX s (p+1) lab)):Runs E X body N R c (dX s p (l::lab)):=
 Runs.step ht (z:=.to (dX s (p+1) lab)) rfl h
theorem pD:dM (k+1) (dX s p (l::lab))=dM k (dX s p lab):=by
 show((l::lab)[k+1]?).bind _=(lab[k]?).bind _;rw[List.getElem?_cons_succ];congr 1;funext l';rw[QU k 1];rfl
theorem kB(h:l.sW+l.many<=s.ak.length):dM 0 (dX s p (l::lab))=some (.to ⟨l.goal,s.ak.take l.many++s.ak.drop (s.ak.length - l.sW),(l::lab).drop (0+if l.loop then 0 else 1),s.loc,s.tr⟩):=if_pos h
theorem DD(hl:lab≠[]):(l::lab).length - 1=lab.length - 1+1:=by
 induction lab using PI with
 |nil=>exact absurd rfl hl
 |cons _ _=>rfl
theorem RK.ret(hl:lab≠[])(hc:c'<=c)(w:RK E X body N R lab 0 .ret s c):RK E X body N R (l::lab) q .ret s c':=
 w.elim λz w=>⟨z,λp=>(congrArg (dM · _) (DD hl)).trans (pD.trans (w.1 p)),w.2.le hc⟩
theorem RK.br(hc:c'<=c)(w:RK E X body N R lab 0 (.br k) s c):RK E X body N R (l::lab) q (.br (k+1)) s c':=
 w.elim λz w=>⟨z,λp=>pD.trans (w.1 p),w.2.le hc⟩
theorem RK.lv(hl:lab≠[])(ht:body[q]?=some .fin)(he:e=q+1):∀o s c,wU (lv m h (RK E X body N R lab e)) o s c->RK E X body N R (⟨e,h,m,false⟩::lab) q o s c:=λo s c w=>by
 subst he;induction o using O.casesOn with
 |next=>exact lY ht w
 |br k=>induction k using P0 with
  |zero=>exact⟨_,λp=>kB w.1,Runs.le (P5 c) w.2⟩
  |succ k=>exact RK.br (P5 c) w
 |ret=>exact RK.ret hl (P5 c) w
 |bk=>exact⟨Tn w.1,w.2⟩
theorem kb(h:body=pre++t::post):body[pre.length]?=some t:=by
 rw[h,Rj (PK _),TP];rfl
theorem HX{n m:Nat}{t:Tok}(e:body[n]?=some t)(h:n=m):body[m]?=some t:=h ▸ e
variable(E X body N R) in
def mV(a:List T):Prop:=∀p pre post lab s c,pre.length=p->body=pre++(bc a++post)->lab≠[]->oo E X a p->W a (RK E X body N R lab (p+(bc a).length)) s c->Runs E X body N R c (dX s p lab)
theorem mB{a pre:List Tok}(hp:pre.length=p)(hb:body=pre++(a++t::post)):body[p+a.length]?=some t:=by
 rw[<- PX] at hb;exact HX (kb hb) (hp ▸ PS)
theorem sQ(ih:mV E X body N R a)(hp:pre.length=p)(hb:body=pre++(bc a++.fin::post))(hl:lab≠[])(hm:oo E X a p)(w:W a (lv m h (RK E X body N R lab (p+(bc a).length+1))) s (c+1)):Runs E X body N R c (dX s p (⟨p+(bc a).length+1,h,m,false⟩::lab)):=
 ih p pre _ _ s c hp hb (SI _ _) hm ((W.sh RK.dn.lv w).imp RK.dn.lv.sh (RK.lv hl (mB hp hb) rfl))
theorem E5(ih:mV E X body N R a)(hp:pre.length=p)(hb:body=pre++(bc a++.rj::post))(hl:lab≠[])(hm:oo E X a p)(hq:E (p+(bc a).length)=some q)(hf:body[q]?=some .fin)(w:W a (lv m h (RK E X body N R lab (q+1))) s (c+2)):Runs E X body N R c (dX s p (⟨q+1,h,m,false⟩::lab)):=by
 refine ih p pre _ _ s c hp hb (SI _ _) hm ((W.sh RK.dn.lv.sh (W.sh RK.dn.lv w)).imp RK.dn.lv.sh.sh λo s1 c1 w1=>?_);have w2:=RK.lv hl hf rfl o s1 (c1+1) w1;induction o using O.casesOn with
 |next=>exact Runs.step (rs:=dX s1 (p+(bc a).length) _) (mB hp hb) (z:=.to (dX s1 q _)) (congrArg (Uh · _) hq) w2
 |br k=>exact RK.dn (e:=q) _ _ _ _ (P5 c1) w2
 |ret=>exact RK.dn (e:=q) .ret s1 (c1+1) c1 (P5 c1) w2
 |bk=>exact⟨Tn w2.1,w2.2⟩
theorem Gg(ih:mV E X body N R a)(hp:pre.length=p)(hb:body=pre++(bc a++.fin::post))(hl:lab≠[])(hm:oo E X a p):
  ∀{s:St}{c:Nat},h<=s.ak.length->b9 h (W a) (RK E X body N R lab (p+(bc a).length+1)) n s (c+1)->Runs E X body N R c (dX s p (⟨p,h,0,true⟩::lab)):=by
 induction n with
 |zero=>exact λ_ w=>w.elim
 |succ n ihn=>
  intro s c hs w;refine ih p pre _ _ s c hp hb (SI _ _) hm ((W.sh RK.dn.lp w).imp RK.dn.lp.sh λo s1 c1 w1=>?_);induction o using O.casesOn with
  |next=>exact lY (mB hp hb) w1
  |br k=>induction k using P0 with
   |zero=>
    refine⟨_,λq=>kB (l:=⟨p,h,0,true⟩) w1.1,?_⟩;exact ihn (s:=⟨s1.ak.drop (s1.ak.length - h),s1.loc,s1.tr⟩) (by rw[RH,Tw w1.1];exact PK _) w1.2
   |succ k=>exact RK.br (P5 c1) w1
  |ret=>exact RK.ret hl (P5 c1) w1
  |bk=>exact⟨Tn w1.1,w1.2⟩
theorem Gm(ih:mV E X body N R a)(hp:pre.length=p)(hb:body=pre++(lD (.one h a)++post))(hl:lab≠[])(hm:yT E X (.one h a) p)(w:W1 (.one h a) (RK E X body N R lab (p+(lD (.one h a)).length)) s c):Runs E X body N R c (dX s p lab):=by
 have hp1:(pre++[Tok.lz h]).length=p+1:=hp ▸ PS;have hb1:body=(pre++[Tok.lz h])++(bc a++.fin::post):=by rw[hb];simp[lD]
 have e:p+(lD (.one h a)).length=p+1+(bc a).length+1:=by simp[lD];exact PN nZ nZ
 refine kr hm λm1 m2 m3=>?_;rw[e] at w;have go {z:jk} (hs:Lj E X h (dX s p lab)=some z) (g:Gh E X body N R (c+1) z):Runs E X body N R c (dX s p lab):=Runs.step (t:=.lz h) (by rw[hb];exact hp ▸ kb rfl) hs g;have one {m hh s1} (w:W a (lv m hh (RK E X body N R lab _)) s1 (c+2)):=sQ ih hp1 hb1 hl m3 w;induction h using H.casesOn with
 |dg v=>exact go (congrArg (Uh · _) m1) (one w)
 |ku=>exact w.elim λn w=>go rfl (Gg (h:=s.ak.length) (s:=s) ih hp1 hb1 hl m3 (PK _) w)
 |iff v=>
  obtain⟨ak,loc,tr⟩:=s;induction ak using PI with
  |nil=>exact w.elim
  |cons x r=>
   refine go (congrArg (Uh · _) m1) ?_
   have w:if x.i≠0 then W a (lv (mv v) r.length (RK E X body N R lab _)) ⟨r,loc,tr⟩ (c+2) else RK E X body N R lab _ .next ⟨r,loc,tr⟩ (c+2):=w
   show Runs E X body N R (c+1) ⟨if x.i≠0 then p+1 else iL _ (X p),_,_,_,_⟩
   by_cases q:x.i≠0
   ·rw[if_pos q] at w |-;exact one w
   ·rw[if_neg q] at w |-;rw[m2 v rfl];exact lY (s:=⟨r,loc,tr⟩) (mB hp1 hb1) w
theorem GF(iha:mV E X body N R a)(ihb:mV E X body N R b)(hp:pre.length=p)(hb:body=pre++(lD (.two v a b)++post))(hl:lab≠[])(hm:yT E X (.two v a b) p)(w:W1 (.two v a b) (RK E X body N R lab (p+(lD (.two v a b)).length)) s c):Runs E X body N R c (dX s p lab):=by
 have hp1:(pre++[Tok.lz (.iff v)]).length=p+1:=hp ▸ PS;have hba:body=(pre++[Tok.lz (.iff v)])++(bc a++Tok.rj::(bc b++.fin::post)):=by rw[hb];simp[lD]
 have hbb:body=(pre++[Tok.lz (.iff v)]++(bc a++[Tok.rj]))++(bc b++.fin::post):=by rw[hba];simp
 have hpb:(pre++[Tok.lz (.iff v)]++(bc a++[Tok.rj])).length=p+2+(bc a).length:=by simp[hp];exact PN nZ nZ
 have e:p+(lD (.two v a b)).length=p+2+(bc a).length+(bc b).length+1:=by simp[lD];exact PN nZ nZ
 refine Hz hm λm1 m2 m3 m4 m5=>?_;rw[e] at w;have hf:=mB hpb hbb;obtain⟨ak,loc,tr⟩:=s;induction ak using PI with
 |nil=>exact w.elim
 |cons x r=>
  refine Runs.step (t:=.lz (.iff v)) (by rw[hb];exact hp ▸ kb rfl) (congrArg (Uh · _) m1) ?_
  have w:if x.i≠0 then W a (lv (mv v) r.length (RK E X body N R lab _)) ⟨r,loc,tr⟩ (c+3) else W b (lv (mv v) r.length (RK E X body N R lab _)) ⟨r,loc,tr⟩ (c+3):=w
  show Runs E X body N R (c+1) ⟨if x.i≠0 then p+1 else iL _ (X p),_,_,_,_⟩
  by_cases q:x.i≠0
  ·rw[if_pos q] at w |-
   exact E5 (s:=⟨r,loc,tr⟩) iha hp1 hba hl m4 m3 hf w
  ·rw[if_neg q] at w |-
   rw[m2,show iL (p+2+(bc a).length+(bc b).length) (some (p+1+(bc a).length))=p+2+(bc a).length from QU (p+1) _ 1];exact sQ (s:=⟨r,loc,tr⟩) ihb hpb hbb hl m5 (w.le RK.dn.lv (P5 (c+2)))
theorem Fm:(∀t,∀p pre post lab s c,pre.length=p->body=pre++(lD t++post)->lab≠[]->yT E X t p->W1 t (RK E X body N R lab (p+(lD t).length)) s c->Runs E X body N R c (dX s p lab))/\
  ∀ts,mV E X body N R ts:=by
 refine T.dO (λi p pre post lab s c hp hb hl hm w=>BM (hp ▸ kb hb) w) (λh a ih p pre post lab s c=>Gm ih) (λv a b iha ihb p pre post lab s c=>GF iha ihb) (λp pre post lab s c hp hb hl hm w=>w) (λt ts iht ihs p pre post lab s c hp hb hl hm w=>?_);have hb':body=pre++(lD t++(bc ts++post)):=hb.trans (congrArg (pre++·) (PX ..))
 have he:p+(bc (t::ts)).length=p+(lD t).length+(bc ts).length:=(congrArg (p + ·) PS).trans (Tz ..).symm
 rw[he] at w;refine iht p pre _ lab s c hp hb' hl hm.1 (W1.le (λo s1 c1 c1' hc w1=>?_) (PK _) w);have w1:=RK.dn.fM (ts:=ts) _ _ _ _ hc w1;induction o using O.casesOn with
 |next=>exact ihs (p+(lD t).length) (pre++lD t) post lab s1 c1' (hp ▸ PS) (hb'.trans (PX ..).symm) hl hm.2 w1
 |_=>exact w1
end
end
section
noncomputable def HE:O->St->Rs
 |.next,s=>.ok s.ak s.tr
 |.br _,s=>.ok (s.ak.take 1) s.tr
 |.ret,s=>.ok (s.ak.take 1) s.tr
 |.bk,s=>.bk s.tr
noncomputable def tf(n:Nat):Lb:=⟨n,0,1,false⟩
noncomputable def jO(loc:List bS)(n:Nat):RS:=⟨0,[],[tf n],loc,[]⟩
theorem yN(hp:body[rs.pos]?=none)(hc:c+1<=N):Runs E X body N (.ok rs.ak rs.tr) c rs:=by
 exact Runs.of hc (congrArg (A2 _ E X rs) hp)
theorem vP(g:aN [1] B ts)(hB:B<=2900)(hl:loc.length=5):
  ∃R,∀us,Ref ts us->∀E X,oo E X us 0->runN E X (bc us++[.fin]) 3000 (jO loc (bc us++[Tok.fin]).length)=some R:=by
 refine cY ((g ⟨[],loc,[]⟩ 0 hl).pt) λo s' d hp hw=>?_;refine⟨HE o s',λus hr E X hm=>?_⟩;have w:=hr _ fW.dn _ _ hw;have hd:d<=2900:=by have:=hp.1.cost;exact nA this (nA hB)
 have hlen:(bc us++[Tok.fin]).length=(bc us).length+1:=by simp
 have hnone:∀n,(bc us).length+1<=n->(bc us++[Tok.fin])[n]?=none:=λn hn=>Qp (by simp;exact nA hn);have key:=(Fm (E:=E) (X:=X) (body:=bc us++[.fin]) (N:=3000) (R:=HE o s')).2 us 0 [] [.fin] [tf (bc us++[Tok.fin]).length] ⟨[],loc,[]⟩ 0 rfl rfl (by simp) hm (w.le (λo1 s1 c c' hc q=>?_) (PK _))
 ·exact key.2
 ·obtain⟨rfl,rfl,q⟩:=q
  have oP:s1.ak≠[]->∃z,(∀p,dM 0 (dX s1 p [tf (bc us++[Tok.fin]).length])=some z)/\Gh E X (bc us++[.fin]) 3000 (.ok (s1.ak.take 1) s1.tr) c' z:=λhne=>by
   refine⟨.to ⟨(bc us++[Tok.fin]).length,s1.ak.take 1,[],s1.loc,s1.tr⟩,λp=>?_,?_⟩
   ·have e:s1.ak.take 1++s1.ak.drop (s1.ak.length - 0)=s1.ak.take 1:=by rw[UR,UE,Qg]
    exact(kB (show 0+1<=s1.ak.length from SN.mpr hne)).trans (by rw[show(tf (bc us++[Tok.fin]).length).sW=0 from rfl,show(tf (bc us++[Tok.fin]).length).many=1 from rfl,e];rfl)
   ·exact yN (rs:=⟨(bc us++[Tok.fin]).length,s1.ak.take 1,[],s1.loc,s1.tr⟩) (hnone _ (QQ hlen.symm)) (by exact nA hc (nA q (nA hd)))
  induction o1 using O.casesOn with
  |next=>
   have h:Runs E X (bc us++[.fin]) 3000 (.ok s1.ak s1.tr) c' (dX s1 (bc us).length [tf (bc us++[Tok.fin]).length]):=
    lY (lab:=[]) (kb (pre:=bc us) (post:=[]) rfl) (yN (rs:=dX s1 ((bc us).length+1) []) (hnone _ (PK _)) (by exact nA hc (nA q (nA hd))))
   show Runs E X (bc us++[.fin]) 3000 (.ok s1.ak s1.tr) c' (dX s1 (0+(bc us).length) [tf (bc us++[Tok.fin]).length]);rw[TQ];exact h
  |br k=>
   refine cI hp.2 λkd xs h1 h2 h3=>?_;induction k using P0 with
   |zero=>
    obtain rfl:=PG h1;exact oP (by rw[h2];have:=h3 rfl;simpa using this)
   |succ k=>exact bf h1
  |ret=>
   obtain⟨xs,h2,h3⟩:=hp.2;exact oP (by rw[h2];simpa using h3)
  |bk=>exact⟨by exact nA hc (nA q (nA hd)),rfl⟩
noncomputable def cs(n:Int)(h1:-2147483648<=n:=by decide)(h2:n < 2147483648:=by decide):I:=.cst ⟨n,h1,h2⟩
noncomputable def JI:List T:=[.leaf (.get 0),.leaf .call,.leaf .drop,
 .one (.dg false) [.one (.dg false) [.leaf (.get 0),.leaf (.b7 1)],.leaf (cs 7),.leaf (.set 1)],
 .leaf (.get 0),.two false [] [.leaf (cs 3),.leaf (.set 2)],
 .one (.dg false) [.one (.dg false) [.leaf (cs 1),.leaf (.hW 0 1)],.leaf (cs 9),.leaf (.set 3)],
 .one (.dg false) [.leaf (cs 1),.leaf (.b7 0),.leaf (cs 8),.leaf (.set 3)],
 .one (.dg false) [.leaf (cs 0),.leaf (.b7 0),.leaf (.get 3),.leaf (cs 5),.leaf .add,.leaf (.set 3)]]
noncomputable def ke:List T:=[.leaf (.get 1),.leaf .add,.leaf (.get 2),.leaf .add,.leaf (.get 3),.leaf .add]
theorem rk(L:List Int):Carry L false 0 []:=rfl
theorem BP:aC [1] 100 JI:=by
 have a:aC [1] _ [.leaf (.get 0),.leaf .call,.leaf .drop]:=aC.use ((dH [1] 0 (by decide)).un .call (.inr (.inl rfl))) .drop (.inl rfl);have b1:aC [0,1] _ [.one (.dg false) [.leaf (.get 0),.leaf (.b7 1)]]:=aC.dg (i6 (has:=false) (rk _) (dH [0,0,1] 0 (by decide)) (k:=1) (kd:=0) rfl (by simp));have b2:aC [0,1] _ [.leaf (cs 7),.leaf (.set 1)]:=aC.use (dF [0,1] _) (.set 1) (.inr ⟨1,by decide,rfl⟩);have b:=aC.dg (b1.seq b2);have c0:aC [0,1] _ [.leaf (cs 3),.leaf (.set 2)]:=aC.use (dF [0,1] _) (.set 2) (.inr ⟨2,by decide,rfl⟩);have c:=aC.if2 (dH [1] 0 (by decide)) aC.nil c0;have d1:aC [0,1] _ [.one (.dg false) [.leaf (cs 1),.leaf (.hW 0 1)]]:=aC.dg (uN (has:=false) (rk _) (dF [0,0,1] _) (j:=0) (k:=1) (kj:=0) (kk:=0) rfl rfl (by simp) (by simp));have d2:aC [0,1] _ [.leaf (cs 9),.leaf (.set 3)]:=aC.use (dF [0,1] _) (.set 3) (.inr ⟨3,by decide,rfl⟩);have d:=aC.dg (d1.seq d2);have e1:aC [0,1] _ [.leaf (cs 1),.leaf (.b7 0)]:=i6 (has:=false) (rk _) (dF [0,1] _) (k:=0) (kd:=0) rfl (by simp);have e2:aC [0,1] _ [.leaf (cs 8),.leaf (.set 3)]:=aC.use (dF [0,1] _) (.set 3) (.inr ⟨3,by decide,rfl⟩);have e:=aC.dg (e1.seq e2);have f1:aC [0,1] _ [.leaf (cs 0),.leaf (.b7 0)]:=i6 (has:=false) (rk _) (dF [0,1] _) (k:=0) (kd:=0) rfl (by simp);have f2:aC [0,1] _ [.leaf (.get 3),.leaf (cs 5),.leaf .add,.leaf (.set 3)]:=aC.use ((dH [0,1] 3 (by decide)).bin (dF [0,1] _) .add (.inl rfl)) (.set 3) (.inr ⟨3,by decide,rfl⟩);have f:=aC.dg (f1.seq f2)
 exact(((((a.seq b).seq c).seq d).seq e).seq f).mono (by decide)
theorem zF(x:aN L w v):aN L (w+6) (v++ke):=by
 have h:=((x.bin (dH L 1 (by decide)) .add (.inl rfl)).bin (dH L 2 (by decide)) .add (.inl rfl)).bin (dH L 3 (by decide)) .add (.inl rfl);have e:v++[.leaf (.get 1)]++[.leaf .add]++[.leaf (.get 2)]++[.leaf .add]++[.leaf (.get 3)]++[.leaf .add]=v++ke:=by simp[ke]
 rw[<- e];exact h.mono (by exact nZ)
end
section
noncomputable def pV:I->Nat
 |.sel=>2
 |_=>1
mutual
noncomputable def eh:T->Nat
 |.leaf i=>pV i
 |.one _ a=>mu a+2
 |.two _ a b=>mu a+mu b+3
noncomputable def mu:List T->Nat
 |[]=>0
 |t::ts=>eh t+mu ts
end
mutual
noncomputable def bO:T->Nat
 |.leaf _=>0
 |.one _ a=>dep a+1
 |.two _ a b=>max (dep a) (dep b)+1
noncomputable def dep:List T->Nat
 |[]=>0
 |t::ts=>max (bO t) (dep ts)
end
theorem bY:mu (t::ts)=eh t+mu ts:=rfl
theorem aK:mu (a++b)=mu a+mu b:=by
 induction a with
 |nil=>simp[mu]
 |cons t a ih=>simp[mu,ih];exact PN (nZ) (nZ)
theorem d0:mu a.reverse=mu a:=by
 induction a with
 |nil=>rfl
 |cons t a ih=>rw[Qn,aK,ih];simp[mu]<;>exact PN (nZ) (nZ)
theorem qY(t:T):1<=eh t:=by
 induction t using T.casesOn with
 |leaf i=>unfold eh;induction i using I.casesOn<;>simp[pV]
 |one h a=>unfold eh;exact nZ
 |two v a b=>unfold eh;exact nZ
theorem dk:∀ts:List T,ts.length<=mu ts
 |[]=>P4 _
 |t::ts=>by rw[bY,QY];have:=dk ts;have:=qY t;lia
theorem cG:(∀t,(eT t).length<=eh t)/\(∀ts,(flat ts).length<=mu ts):=by
 refine T.dO (λi=>?_) (λh a ih=>?_) (λv a b iha ihb=>?_) ?_ (λt ts iht ihs=>?_)
 ·unfold eT eh;induction i using I.casesOn<;>simp[pV]
 ·unfold eT eh;simp;exact nA ih
 ·unfold eT eh;simp;exact nA iha (nA ihb)
 ·simp[flat,mu]
 ·unfold flat mu;simp;exact nA iht (nA ihs)
theorem aI:dep (a++b)=max (dep a) (dep b):=by
 induction a with
 |nil=>simp[dep]
 |cons t a ih=>simp[dep,ih,Nat.max_assoc]
theorem il:dep (t::ts)=max (bO t) (dep ts):=rfl
theorem iC:dep a.reverse=dep a:=by
 induction a with
 |nil=>rfl
 |cons t a ih=>rw[Qn,aI,ih];simp[dep]<;>lia
def Tame(f:List T->T->List T):Prop:=∀acc t,mu (f acc t)<=mu acc+eh t/\dep (f acc t)<=max (dep acc) (bO t)
def Tm(xs ys:List T):Prop:=mu ys<=mu xs/\dep ys<=dep xs
theorem Tm.refl:Tm xs xs:=⟨PK _,PK _⟩
theorem Tm.trans(x:Tm a b)(y:Tm b c):Tm a c:=⟨PH y.1 x.1,PH y.2 x.2⟩
theorem Tm.drop(h:Tm xs ys):Tm (t::xs) ys:=⟨PH h.1 (QX _ _),PH h.2 (QH _ _)⟩
theorem gm{a b c d:Nat}(h:a<=b)(k:c<=d):max a c<=max b d:=Qb.mpr ⟨PH h (QK _ _),PH k (QH _ _)⟩
theorem Tm.cons(h1:eh u<=eh t)(h2:bO u<=bO t)(h:Tm xs ys):Tm (t::xs) (u::ys):=⟨Sw h1 h.1,gm h2 h.2⟩
theorem Tm.app(x:Tm a b)(y:Tm c d):Tm (a++c) (b++d):=⟨by rw[aK,aK];exact Sw x.1 y.1,by rw[aI,aI];exact gm x.2 y.2⟩
theorem Tm.off:Tm (acc++b) acc:=⟨by rw[aK];exact P8 _ _,by rw[aI];exact QK _ _⟩
theorem yb(h:∀acc t,Tm (acc++[t]) (f acc t)):Tame f:=λacc t=>⟨by
 have:=(h acc t).1;rw[aK] at this;exact this,by
 have:=(h acc t).2;rw[aI] at this;exact PH this (gm (PK _) (Qb.mpr ⟨PK _,P4 _⟩))⟩
theorem Tame.tm(h:Tame f)(acc:List T)(t:T):Tm (acc++[t]) (f acc t):=⟨by rw[aK];exact(h acc t).1,by rw[aI];exact PH (h acc t).2 (gm (PK _) (QK _ _))⟩
theorem gS(hf:Tame f):(∀t,eh (eX f t)<=eh t/\bO (eX f t)<=bO t)/\(∀ts acc,Tm (acc++ts) (gV f acc ts)):=by
 refine T.dO (λi=>⟨PK _,PK _⟩) (λh a ih=>?_) (λv a b iha ihb=>?_) (λacc=>?_) (λt ts iht ihs acc=>?_)
 ·have:=ih [];exact⟨P7 this.1 2,Qs this.2⟩
 ·have h1:=iha [];have h2:=ihb [];exact⟨P7 (Sw h1.1 h2.1) 3,Qs (gm h1.2 h2.2)⟩
 ·rw[Qg];exact .refl
 ·refine Tm.trans ?_ (ihs (f acc (eX f t)))
  rw[show acc++t::ts=(acc++[t])++ts by rw[PX];rfl];exact Tm.app (Tm.trans (Tm.app .refl (.cons iht.1 iht.2 .refl)) (hf.tm acc (eX f t))) .refl
theorem iV(hf:Tame f)(ts:List T):mu (qn f ts)<=mu ts/\dep (qn f ts)<=dep ts:=(gS hf).2 ts []
theorem wO(hf:∀{xs ys},f xs=some ys->mu ys<=mu xs/\dep ys<=dep xs):∀{n:Nat}{xs:List T},mu (fw f n xs)<=mu xs/\dep (fw f n xs)<=dep xs:=by
 intro xs;induction xs with
 |zero=>
  intro xs;exact⟨PK _,PK _⟩
 |succ n ih=>
  intro xs;unfold fw;split
  ·exact⟨PK _,PK _⟩
  ·rename_i ys q
   have h1:=hf q;have h2:=ih (xs:=ys);exact⟨PH h2.1 h1.1,PH h2.2 h1.2⟩
theorem gF(hf:∀{xs ys},f xs=some ys->mu ys<=mu xs/\dep ys<=dep xs):Tame (iH f):=λacc t=>by
 have:=wO (f:=f) hf (n:=acc.length+2) (xs:=t::acc.reverse);unfold iH;rw[d0,iC];rw[bY,il,d0,iC,Rr (eh t),Nat.max_comm (bO t)] at this;exact this
theorem Hq[Decidable p](h:mu a<=m/\dep a<=d)(k:mu b<=m/\dep b<=d):mu (if p then a else b)<=m/\dep (if p then a else b)<=d:=by
 by_cases q:p
 ·rw[if_pos q];exact h
 ·rw[if_neg q];exact k
theorem kS:cg xs=some ys->mu ys<=mu xs/\dep ys<=dep xs:=by
 refine ka (P:=Tm) (λ_ _=>.drop (.cons (PK _) (PK _) .refl)) (λ_ _ _ _ _ _ _=>.drop (.drop (.cons (PK _) (PK _) .refl))) (λ_ _ _ _ _=>.drop (.drop .refl)) (λ_ _ _=>.drop (.cons (PK _) (PK _) .refl)) (λb p r _ _=>?_) (λb v a r=>?_) (λb v a c r=>?_) (λ_ _ _ _=>.drop (.cons (PK _) (PK _) .refl)) (λ_ _ _ _=>.drop (.cons (PK _) (PK _) .refl)) (λ_ _ _ _=>.drop (.drop .refl))
 ·refine⟨?_,?_⟩
  ·show eh p+(1+mu r)<=2+(1+(eh p+mu r));exact nZ
  ·exact Qb.mpr ⟨PH (PH (QK _ (dep r)) (QH 0 _)) (QH 0 _),Qb.mpr ⟨P4 _,PH (PH (QH (bO p) _) (QH 0 _)) (QH 0 _)⟩⟩
 ·have k:=Hq (p:=b.i≠0) (a:=a) (b:=[]) ⟨PK _,PK _⟩ ⟨P4 _,P4 _⟩
  exact .cons (P7 k.1 2) (Qs k.2) (.drop .refl)
 ·have k:=Hq (p:=b.i≠0) (a:=a) (b:=c) ⟨P8 _ (mu c),QK _ (dep c)⟩ ⟨QX _ (mu a),QH (dep a) _⟩
  exact .cons (Q0 (P7 k.1 2)) (Qs k.2) (.drop .refl)
theorem kP:joinR xs=some ys->mu ys<=mu xs/\dep ys<=dep xs:=
 jS (P:=Tm) (λ_ _=>.drop (.cons (PK _) (PK _) .refl)) (λ_ _=>.drop (.drop .refl)) (λ_ _=>.drop (.cons (PK _) (PK _) .refl)) (λ_ _=>.drop (.cons (PK _) (PK _) .refl)) (λ_ _=>.drop (.cons (PK _) (PK _) .refl))
theorem vO(k:Nat)(r:List T):mu (Qi k (.leaf .drop)++r)=k+mu r/\dep (Qi k (.leaf .drop)++r)=dep r:=by
 induction k with
 |zero=>simp
 |succ k ih=>rw[TL,Qz,bY,il,ih.1,ih.2];simp[eh,bO,pV];exact PN (nZ) (nZ)
theorem A7:∀(xs:List T)(k:Nat),mu (putD k xs)<=mu xs+k/\dep (putD k xs)<=dep xs:=
 have go {t:T} {r:List T} {k:Nat}:mu (fK k++t::r)<=mu (t::r)+k/\dep (fK k++t::r)<=dep (t::r):=⟨QQ ((vO k _).1.trans (Rr ..)),QQ (vO k _).2⟩
 rK (P:=λxs k ys=>mu ys<=mu xs+k/\dep ys<=dep xs) (λxs=>⟨PK _,PK _⟩) (λk=>by have:=vO (k+1) [];rw[Qg] at this;exact⟨QQ (this.1.trans (Rr ..)),QQ this.2⟩)
  (λt r k _=>go) (λj r k=>⟨Q0 go.1,go.2⟩)
  (λi n r k ys h ih=>⟨PH ih.1 (by
   have:n<=pV i+1:=Hp (P:=λi n=>n<=pV i+1) (λ_=>P4 _) (λ_=>P4 _) (by decide) (by decide) (by decide) (by decide) h;rw[bY,eh];exact nA this),PH ih.2 (by rw[il];exact QH _ _)⟩)
theorem qf:Tame ly:=λacc t=>by
 refine mD (P:=λt ys=>mu ys<=mu acc+eh t/\dep ys<=max (dep acc) (bO t)) ?_ (λt _=>?_) t
 ·have:=A7 acc.reverse 1
  rw[d0,iC] at this |-;exact⟨this.1,PH this.2 (QK _ _)⟩
 ·rw[aK,aI];exact⟨PK _,Qb.mpr ⟨QK _ _,Qb.mpr ⟨QH _ _,P4 _⟩⟩⟩
theorem my:Tame cV:=yb λacc t=>by
 have put:∀{t u:T},eh u<=eh t->bO u<=bO t->Tm (acc++[t]) (acc++[u]):=λh k=>.app .refl (.cons h k .refl);induction t using T.casesOn with
 |leaf i=>induction i using I.casesOn<;>first |exact .off |exact .refl
 |one h a=>induction a using PI with
  |nil=>induction h using H.casesOn with
   |iff v=>exact put (Qs (P4 _)) (P4 _)
   |_=>exact .off
  |cons u us=>exact .refl
 |two v a b=>induction a using PI with
  |nil=>induction b using PI with
   |nil=>exact put (Qs (P4 _)) (P4 _)
   |cons u us=>
    refine .app .refl ⟨?_,?_⟩
    ·show 1+(mu (u::us)+2+0)<=0+mu (u::us)+3+0;exact nZ
    ·show max 0 (max (dep (u::us)+1) 0)<=max (max 0 (dep (u::us))+1) 0
     exact Qb.mpr ⟨P4 _,gm (Qs (QH _ _)) (PK _)⟩
  |cons w ws=>induction b using PI with
   |nil=>exact put (P5 _) (Qs (QK _ _))
   |cons u us=>exact .refl
theorem gU:(∀t,∀d,eh (fz t d)=eh t/\bO (fz t d)=bO t)/\(∀ts,∀d,mu (low ts d)=mu ts/\dep (low ts d)=dep ts):=by
 refine T.dO (λi d=>?_) (λhh a ih d=>?_) (λv a b iha ihb d=>?_) (λd=>?_) (λt ts iht ihs d=>?_)
 ·unfold fz eh bO;induction i using I.casesOn<;>simp[I.low,pV]
 ·unfold fz eh bO;rw[(ih _).1,(ih _).2];exact⟨rfl,rfl⟩
 ·unfold fz eh bO;rw[(iha _).1,(iha _).2,(ihb _).1,(ihb _).2];exact⟨rfl,rfl⟩
 ·unfold low;exact⟨rfl,rfl⟩
 ·unfold low mu dep;rw[(iht _).1,(iht _).2,(ihs _).1,(ihs _).2];exact⟨rfl,rfl⟩
theorem wH:Tm (acc++[.one h a]) (lh h a acc):=by
 unfold lh;induction ey a 0 using PU with
 |true=>exact .refl
 |false=>exact .app .refl ⟨by rw[(gU.2 _ _).1];exact P8 _ 2,by rw[(gU.2 _ _).2];exact PH (P5 _) (QK _ _)⟩
theorem qt:Tame m9:=yb λacc t=>by
 induction t using T.casesOn with
 |one h a=>induction h using H.casesOn with
  |iff v=>exact .refl
  |_=>exact wH
 |_=>exact .refl
theorem Nx{a b c d:Nat}(h:a<=c)(k:b<=d):max a b<=max c d:=Qb.mpr ⟨PH h (QK ..),PH k (QH ..)⟩
theorem fQ:(∀t,eh (bx t)<=eh t/\bO (bx t)<=bO t)/\(∀ts,mu (dead ts)<=mu ts/\dep (dead ts)<=dep ts):=by
 refine T.dO (λi=>?_) (λh a ih=>?_) (λv a b iha ihb=>?_) ?_ (λt ts iht ihs=>?_)
 ·unfold bx;exact⟨PK _,PK _⟩
 ·unfold bx eh bO;exact⟨nA ih.1,nA ih.2⟩
 ·unfold bx eh bO;exact⟨nA iha.1 (nA ihb.1),Qs (Nx iha.2 ihb.2)⟩
 ·unfold dead;exact⟨PK _,PK _⟩
 ·unfold dead
  rw[bY,il];split
  ·rw[show mu [bx t]=eh (bx t)+0 from rfl,show dep [bx t]=max (bO (bx t)) 0 from rfl];exact⟨Sw iht.1 (P4 _),Nx iht.2 (P4 _)⟩
  ·split
   ·rename_i h
    have:1<=mu ts:=by
     induction ts using PI with
     |nil=>simp at h
     |cons u us=>rw[bY];have:=qY u;exact nA this
    simp[mu,dep,eh,bO,pV];lia
   ·rw[bY,il];exact⟨Sw iht.1 ihs.1,Nx iht.2 ihs.2⟩
theorem oj(n:Nat)(ts:List T):mu (dQ n ts)<=mu ts/\dep (dQ n ts)<=dep ts:=by
 unfold dQ;split
 ·exact fQ.2 ts
 ·exact iV qf ts
 ·exact iV (gF kP) ts
 ·exact iV my ts
 ·exact iV qt ts
 ·exact iV (gF kS) ts
end
section
theorem ai{M:Mem}:(M.set a o) a=some o:=by unfold Mem.set;rw[if_pos rfl]
theorem aA{M:Mem}{a b:Nat}{o:cz}(h:b≠a):(M.set a o) b=M b:=by unfold Mem.set;rw[if_neg h]
theorem af{M:Mem}(h:M a=some (.list vs)):M.list? a=some vs:=by unfold Mem.list?;rw[h]
theorem aw{M:Mem}(h:M.list? a=some vs):M a=some (.list vs):=by
 unfold Mem.list? at h;split at h
 ·obtain rfl:=PG h;assumption
 ·exact bf h
theorem fh{M:Mem}(h:M a=some (.av p f s)):M.piece? a=some (p,f,s):=by unfold Mem.piece?;rw[h]
theorem ek{M:Mem}(h:M a=some (.dict es)):M.dict? a=some es:=by unfold Mem.dict?;rw[h]
theorem aM{vs:List V}(h:fns k=some ⟨np,nl,b⟩)(hl:vs.length=np)(e:vs.map some++Qi (nl - np) none=l)(w:b (aj fns n) l M (rt Q) X):aj fns (n+1) k vs Q X M:=
 aS h ⟨hl,e ▸ w⟩
theorem mn(h:Q v M):rt Q (.ret v) l M:=h
theorem kH(h:Q .none M):rt Q .next l M:=h
section
variable{c:Call}{l:Loc}{M:Mem}{Q:V->Mem->Prop}{X:Mem->Prop}{K:Bool->Mem->Prop}{P:Fl->Loc->Mem->Prop}{a b d:ME}{es:List ME}{t:MB}
theorem MP(h:Q v M):aa v c l M Q X:=h
theorem Ot(e:l[i]?=some (some v))(h:Q v M):ab i c l M Q X:=by unfold ab;rw[e];exact h
theorem BG(z:xs.length+ys.length<=bh)(h:Q (.tup (xs++ys)) M):F1 xs ys M Q:=⟨z,h⟩
theorem vT(e1:M.list? r=some xs)(e2:M.list? q=some ys)(h:bw M (xs++ys) Q):I2 r q M Q:=aS e1 (aS e2 h)
theorem uR(z:j≠0)(h:Q (.int (Rh i j)) M):KI i j M Q:=⟨z,h⟩
theorem D5(z:0 < j)(y:j < 2 ^ 62)(h:Q (.int (Uq i j)) M):Hn i j M Q:=⟨z,y,h⟩
theorem Hf(z:i=1)(y:j=32)(h:Q (.int (2 ^ 32)) M):K6 i j M Q:=⟨z,y,h⟩
theorem Mi(y:j=31)(h:Q (.int (Uq i (2 ^ 31))) M):LI i j M Q:=⟨y,h⟩
theorem JG(y:j=2 ^ 32 - 1)(h:Q (.int (Rh i (2 ^ 32))) M):Hy i j M Q:=⟨y,h⟩
theorem yx(h:Q (.int (2 ^ 31)) M):Ig 2 31 M Q:=⟨rfl,.inl ⟨rfl,h⟩⟩
theorem jd(h:Q (.int (2 ^ 32)) M):Ig 2 32 M Q:=⟨rfl,.inr ⟨rfl,h⟩⟩
theorem ay{vs:List V}(z:vs.length<=bh)(h:∀r,M r=none->Q (.lst r) (M.set r (.list vs))):bw M vs Q:=⟨z,h⟩
theorem cw(e:yO op va vb M=some r)(h:K r M):eL op va vb M K:=aS e h
theorem L4(h:K (i == j) M):eL .eq (.int i) (.int j) M K:=h
theorem gv{α:Type}{f:V->Option RW}{g:α->V}{k:α->RW}(h:∀a,f (g a)=some (k a))(xs:List α):kT f (xs.map g)=some (xs.map k):=by
 induction xs with
 |nil=>rfl
 |cons x xs ih=>
  show(f (g x)).bind (λd=>(kT f (xs.map g)).map (d::·))=_
  rw[h,ih];rfl
theorem Gy[BEq α](h:∀a b,SJ (k a) (k b)=(a == b)):∀xs ys:List α,Rz (xs.map k) (ys.map k)=(xs == ys):=by
 intro xs;induction xs with
 |nil=>intro ys;induction ys using PI<;>rfl
 |cons x xs ih=>intro ys;induction ys using PI with
  |nil=>rfl
  |cons y ys=>exact congr (congrArg and (h x y)) (ih ys)
theorem yA(i:Int):toD M (n+1) (.int i)=some (.int i):=rfl
theorem Cc(xs:List Int):kT (toD M (n+1)) (xs.map .int)=some (xs.map .int):=gv yA xs
theorem ma(xs ys:List Int):Rz (xs.map .int) (ys.map .int)=(xs == ys):=Gy (λ_ _=>rfl) xs ys
theorem qD{α:Type}[BEq α]{g:α->V}{k:α->RW}(h:∀a,toD M 5 (g a)=some (k a))(e:∀a b,SJ (k a) (k b)=(a == b))(x:α)(xs:List α):vA M (g x) (xs.map g)=some (xs.any λy=>y == x):=
 (Dg (h x) (gv h xs)).trans (congrArg some (V2.trans (congrArg (List.any xs) (funext λy=>e y x))))
theorem j9{xs:List Int}:vA M (.int i) (xs.map .int)=some (xs.any λy=>y == i):=qD yA (λ_ _=>rfl) i xs
theorem bJ{i:Int}(xs:List Int)(h:K (xs.any λy=>y == i) M):eL .isin (.int i) (.tup (xs.map .int)) M K:=cw j9 h
noncomputable def Ja(i:Int):List V->Option Bool
 |[]=>some false
 |.int j::r=>(Ja i r).map λb=>(j == i) || b
 |_=>none
theorem Bo:∀{ys:List V}{r:Bool},Ja i ys=some r->vA M (.int i) ys=some r:=by
 have go:∀{ys:List V}{r:Bool},Ja i ys=some r->∃xs:List Int,ys=xs.map .int/\r=xs.any λy=>y == i:=by
  intro ys;induction ys with
  |nil=>intro r h;obtain rfl:=PG h;exact⟨[],rfl,rfl⟩
  |cons v ys ih=>
   intro r h;induction v using V.casesOn
   case int j=>
    (refine aT (Qa.mp h) λb hb q2q=>?_;obtain rfl:=q2q)
    (refine aT (ih hb) λxs q1q q2q=>?_;obtain rfl:=q1q;obtain rfl:=q2q)
    exact⟨j::xs,rfl,rfl⟩
   all_goals exact nX h
 intro ys r h
 (refine aT (go h) λxs q1q q2q=>?_;obtain rfl:=q1q;obtain rfl:=q2q)
 exact j9
theorem Mc(e:Ja i ys=some true)(h:K true M):eL .isin (.int i) (.tup ys) M K:=cw (Bo e) h
theorem sX(e:Ja i ys=some false)(h:K false M):eL .isin (.int i) (.tup ys) M K:=cw (Bo e) h
noncomputable def hH:V->Bool
 |.none=>false
 |_=>true
theorem Gf(h:K (hH v) M):DG v M K:=by induction v using V.casesOn<;>exact h
theorem Gn(h:K (!hH v) M):Br v M K:=by induction v using V.casesOn<;>exact h
theorem OO(h:a c l M (λv M1=>sZ v λr=>K r M1) X):kq a c l M K X:=h
theorem J0(h:f r):sZ (.bool r) f:=h
theorem cf{p q:Prop}{r:Bool}(e:r=true)(h:p):if r=true then p else q:=by rw[if_pos e];exact h
theorem bB{p q:Prop}{r:Bool}(e:r=false)(h:q):if r=true then p else q:=by rw[if_neg (by rw[e];decide)];exact h
theorem aJ{p q:Prop}{r:Bool}(h1:r=true->p)(h0:r=false->q):if r=true then p else q:=by
 induction r using PU with
 |true=>exact h1 rfl
 |false=>exact h0 rfl
theorem aY{xs:List V}(e:M.list? r=some xs)(e2:(idx? k xs.length).bind (λj=>xs[j]?)=some x)(h:Q x M):Iu r k M Q:=aS e (aS e2 h)
theorem qL(e2:(idx? k xs.length).bind (λj=>xs[j]?)=some x)(h:Q x M):Bh xs k M Q:=aS e2 h
theorem k6{r:Nat}{k:Int}{es:List (Int × Int)}{x:Int}(e:M.dict? r=some es)(e2:es.lookup k=some x)(h:Q (.int x) M):Ii r k M Q:=aS (x:=x) (by rw[e];exact e2) h
theorem yc{r:Nat}{lo hi:Option Int}{xs:List V}(e:M.list? r=some xs)(h:bw M (bW xs lo hi) Q):NB r lo hi M Q:=aS e h
theorem Kw(z:1<=i)(y:i<=xs.length)(h:Q (.tup (xs.drop i.toNat)) M):J6 xs (some i) none M Q:=⟨i,rfl,rfl,z,y,h⟩
theorem IV(e:M.list? r=some xs)(h:bw M xs.reverse Q):KS r M Q:=aS e h
theorem gz(e:M r=some (.av p q s))(h:Q p M):zv .plain r M Q:=aS (fh e) h
theorem i3(e:M r=some (.av p q s))(h:Q q M):zv .first r M Q:=aS (fh e) h
theorem kh(e:M r=some (.av p q s))(h:Q s M):zv .second r M Q:=aS (fh e) h
theorem jH(e:M.list? r=some xs)(h:Q (.int xs.length) M):Km r M Q:=aS e h
theorem kD(e:M.list? r=some xs)(h:b c l M (λvb M2=>True->nV r vb M2 Q) X):L2 r b c l M Q X:=⟨by rw[e];rfl,h⟩
theorem fv(e:M.list? r=some xs)(z:xs.length<=bh)(h:Q .none (M.set r (.list (xs++[vb])))):nV r vb M Q:=aS e ⟨z,h⟩
theorem HY(e:M.list? r=some xs)(h:b c l M (λvb M2=>lstK vb λr'=>True->zI r r' M2 Q) X):Ky r b c l M Q X:=⟨by rw[e];rfl,h⟩
theorem wq(e:M.list? r=some xs)(e':M.list? r'=some ys)(ne:r≠r')(z:xs.length+ys.length<=bh)(h:Q .none (M.set r (.list (xs++ys)))):zI r r' M Q:=aS e (aS e' ⟨ne,z,h⟩)
theorem iU{r:Nat}{xs:List V}{x:V}(e:M.list? r=some (xs++[x]))(h:Q x (M.set r (.list xs))):Jr r M Q:=
 aS e (aS List.getLast?_concat (by rw[List.dropLast_concat];exact h))
theorem C9{bs:List Bool}(e:M.list? r=some (bs.map V.bool))(h:Q (.bool (bs.any id)) M):KJ r M Q:=aS e ⟨bs,rfl,h⟩
theorem I4(e:M.list? r=some xs)(h:Q (.tup xs) M):Ki r M Q:=aS e h
theorem C4(e:M.list? r=some xs)(h:bw M xs Q):Mn r M Q:=aS e h
variable{s s':MS}{e:ME}
theorem cJ(h:P .next l M):ae [] c l M P X:=h
theorem b0(h:s c l M (j7 c (ae ss) P X) X):ae (s::ss) c l M P X:=h
theorem bq(h:s c l M P X):j7 c s P X .next l M:=h
theorem sj(h:P (.ret v) l M):j7 c s P X (.ret v) l M:=h
theorem D6(q:jy l is vs=some l')(h:P .next l' M):Ox l is vs M P:=aS q h
theorem Aw{r:Nat}{p q s v:V}(z:M r=some (.av p q s))(h:P .next l (M.set r (.av v q s))):NK .plain r v l M P:=aS (fh z) h
theorem mC{r:Nat}{p q s v:V}(z:M r=some (.av p q s))(h:P .next l (M.set r (.av p q v))):NK .second r v l M P:=aS (fh z) h
theorem Ei(q:M.list? r=some xs)(q2:idx? k xs.length=some j)(h:P .next l (M.set r (.list (xs.set j v)))):N7 r k v l M P:=aS q (aS q2 h)
theorem BA{r:Nat}{k x:Int}{es:List (Int × Int)}(q:M.dict? r=some es)(z:es.length<=bh)(h:P .next l (M.set r (.dict (dictPut es k x)))):NC r k x l M P:=aS q ⟨z,h⟩
theorem yz{r r':Nat}{lo hi:Option Int}{xs ys:List V}(q:M.list? r=some xs)(q':M.list? r'=some ys)(ne:r≠r')(z:xs.length+ys.length<=bh)(h:P .next l (M.set r (.list (cu xs ys lo hi)))):Ih r r' lo hi l M P:=aS q (aS q' ⟨ne,z,h⟩)
theorem LA(h:t c l M (λr M1=>if r=true then s c l M1 P X else s' c l M1 P X) X):bl t s s' c l M P X:=h
end
end
section
open Nm.Internal renaming yc->zg,IV->zg,gz->zg,i3->zg,kh->zg,jH->zg,kD->zg,HY->zg,qL->zh,Mc->zh,D6->zh,sX->zi,Gf->zj,Gn->zj
local macro_rules | `(tactic|right)=>`(tactic|repeat (first
 |intro (_:True)
 |with_reducible first |refine uR (by decide) ?_ |refine zg (by k_dflt assumption) ?_ |refine fv (by k_dflt assumption) (by k_dflt assumption) ?_ |refine zh (by k_dflt rfl) ?_ |refine zi (by k_dflt rfl) ?_ |refine zj ?_
 |refine cf (by assumption) ?_ |refine bB (by assumption) ?_))
section
variable{n:Nat}{Q:V->Mem->Prop}{X:Mem->Prop}{M:Mem}
noncomputable def iu(c a b m:Int):V:=if a<=c/\c < a+m then .tup [.int (c - a),.int 32] else if b<=c/\c < b+m then .tup [.int (c - b),.int 64] else .none
theorem xV(h:Q (iu c a b m) M):aj fns (n+1) 6 [.int c,.int a,.int b,.int m] Q X M:=by
 refine aM (l:=[some (.int c),some (.int a),some (.int b),some (.int m)]) rfl rfl rfl ?_;right;refine aJ (λq1=>?_) (λq1=>?_)<;>right
 ·refine aJ (λq2=>?_) (λq2=>?_)<;>right
  ·rwa [iu,if_pos ⟨of_decide_eq_true q1,of_decide_eq_true q2⟩] at h
  ·rw[iu,if_neg (λz=>of_decide_eq_false q2 z.2)] at h
   refine aJ (λq3=>?_) (λq3=>?_)<;>right
   ·refine aJ (λq4=>?_) (λq4=>?_)<;>right
    ·rwa [if_pos ⟨of_decide_eq_true q3,of_decide_eq_true q4⟩] at h
    ·rwa [if_neg (λz=>of_decide_eq_false q4 z.2)] at h
   ·rwa [if_neg (λz=>of_decide_eq_false q3 z.1)] at h
 ·rw[iu,if_neg (λz=>of_decide_eq_false q1 z.1)] at h
  refine aJ (λq3=>?_) (λq3=>?_)<;>right
  ·refine aJ (λq4=>?_) (λq4=>?_)<;>right
   ·rwa [if_pos ⟨of_decide_eq_true q3,of_decide_eq_true q4⟩] at h
   ·rwa [if_neg (λz=>of_decide_eq_false q4 z.2)] at h
  ·rwa [if_neg (λz=>of_decide_eq_false q3 z.1)] at h
theorem gi(h:a<=c/\c < a+m):iu c a b m = .tup [.int (c - a),.int 32]:=if_pos h
theorem nE(h:¬ (a<=c/\c < a+m)/\¬ (b<=c/\c < b+m)):iu c a b m = .none:=by rw[iu,if_neg h.1,if_neg h.2]
theorem eN(e:iu c a b m=v)(h:Q v M):aj fns (n+1) 6 [.int c,.int a,.int b,.int m] Q X M:=xV (e ▸ h)
theorem jL(x:Int):Rh x (2 ^ 32)=(wr x).i:=TX x (by decide)
theorem gP(h:Q (.int (wr x).i) M):aj fns (n+1) 0 [.int x,.int 32] Q X M:=by
 refine aM (l:=[some (.int x),some (.int 32)]) rfl rfl rfl ?_;right;refine Hf rfl rfl ?_;right;refine JG (by decide) ?_;right;rw[jL];exact h
theorem By{x:bS}(h:Q (.int (sg x).i) M):aj fns (n+1) 1 [.int x.i,.int 32] Q X M:=by
 refine aM (l:=[some (.int x.i),some (.int 32)]) rfl rfl rfl ?_;right;refine Mi (by decide) ?_;right;have e:Uq x.i (2 ^ 31)=x.i / 2147483648:=Sx _ (by decide);have hlo:=x.lo;have hhi:=x.hi;unfold sg at h;refine aJ (λq=>?_) (λq=>?_)<;>right
 ·refine Hf rfl rfl ?_
  right;rw[e] at q;have:¬ x.i < 2147483648:=by
   intro z;have:x.i / 2147483648=0:=Int.ediv_eq_zero_of_lt hlo z;rw[this] at q;exact cy q
  rw[dif_neg this] at h;exact h
 ·rw[e] at q
  have:x.i < 2147483648:=by
   have q:x.i / 2147483648=0:=by simpa using q
   omega
  rw[dif_pos this] at h;exact h
theorem LF(h:Q (.int (if x=0 then 1 else 0)) M):aj fns (n+1) 2 [.int x,.int 32] Q X M:=by
 refine aM (l:=[some (.int x),some (.int 32)]) rfl rfl rfl ?_;right;refine aJ (λq=>?_) (λq=>?_)<;>right
 ·rwa [if_pos (by simpa using q)] at h
 ·rwa [if_neg (by simpa using q)] at h
theorem w_add(h:Q (.int (wr (x+y)).i) M):aj fns (n+2) 3 [.int x,.int y,.int 32] Q X M:=by
 refine aM (l:=[some (.int x),some (.int y),some (.int 32)]) rfl rfl rfl ?_;right;refine gP ?_;right;exact h
theorem w_sub(h:Q (.int (wr (x - y)).i) M):aj fns (n+2) 4 [.int x,.int y,.int 32] Q X M:=by
 refine aM (l:=[some (.int x),some (.int y),some (.int 32)]) rfl rfl rfl ?_;right;refine gP ?_;right;exact h
theorem Ge{x y:bS}(h0:y.i=0->X M)(h:y.i≠0->Q (.int (wr (x.i / y.i)).i) M):aj fns (n+1) 5 [.int x.i,.int y.i,.int 32] Q X M:=by
 refine aM (l:=[some (.int x.i),some (.int y.i),some (.int 32)]) rfl rfl rfl ?_;right;have:=y.lo;have:=y.hi;refine aJ (λq=>?_) (λq=>?_)<;>right
 ·exact h0 (by simpa using q)
 ·have q:y.i≠0:=by simpa using q
  refine D5 (by lia) (by lia) ?_;right;have e:(wr (x.i / y.i)).i=Uq x.i y.i:=by
   rw[Sx _ (by assumption)];have h1:0<=x.i / y.i:=WG x.lo (by assumption);have h2:x.i / y.i<=x.i:=Wq _ x.lo;exact Ug h1 (by have:=x.hi;exact iA h2 (iA this))
  rw[<- e];exact h q
noncomputable def Pg(c:Int):Bool:=(decide (192<=c) && decide (c < 194)) || (decide (194<=c) && decide (c < 197)) || c == 172
theorem ur(hc:c < 172)(h:Q .none M):aj fns (n+1) 7 [.int c] Q X M:=by
 refine aM (l:=[some (.int c)]) rfl rfl rfl ?_;right;refine bB (decide_eq_false (by exact λz=>iF (iA z (iA hc)))) ?_;right;refine bB (decide_eq_false (by exact λz=>iF (iA z (iA hc)))) ?_;right;refine bB (by rw[beq_eq_false_iff_ne];exact λz=>iF (iR z (iA hc))) ?_;right;exact h
def small(c:Int):Prop:=0<=c/\c < 121/\c≠80/\¬ (81<=c/\c < 106)
theorem eU(hc:small c)(h:Q (.bool (c == 69)) M):aj fns (n+2) 8 [.int c] Q X M:=by
 refine q7 hc λh1 h2 h3 h4=>?_;refine aM (l:=[some (.int c)]) rfl rfl rfl ?_;right
 try refine bJ [69,80,167,173] ?_
 refine aJ (λq=>?_) (λq=>?_)<;>right
 ·have:c=69:=by
   simp at q;rcases q with q |q |q |q<;>first |exact q.symm |exact absurd q.symm h3 |(subst q;exact absurd h2 (by decide))
  rw[this] at h;exact h
 ·refine eN (nE ⟨λz=>h4 ⟨V8 (by decide) z.1,z.2⟩,λz=>absurd h2 (VJ.mpr z.1)⟩) ?_
  have:c≠69:=by intro e;rw[e] at q;simp at q
  rw[show(c == 69)=false by simpa using this] at h;right;refine ur (by exact iA h2) ?_;right;exact h
theorem lK(hc:small c)(h:Q (.bool (decide (70<=c/\c < 80) || decide (106<=c))) M):aj fns (n+2) 9 [.int c] Q X M:=by
 refine q7 hc λh1 h2 h3 h4=>?_;refine aM (l:=[some (.int c)]) rfl rfl rfl ?_;right;by_cases q:70<=c/\c < 80
 ·refine eN (gi (by simp only[Rl];assumption)) ?_
  rw[decide_eq_true q] at h;right;exact h
 ·refine eN (nE ⟨q,λz=>h4 ⟨z.1,Int.lt_trans z.2 (by decide)⟩⟩) ?_
  right;rw[decide_eq_false q] at h;by_cases q2:106<=c
  ·rw[decide_eq_true q2] at h
   refine eN (gi (by simp only[Rl];lia)) ?_;right;exact h
  ·rw[decide_eq_false q2] at h
   refine eN (nE (by simp only[Rl];exact⟨λz=>iF (iA z.1 (iN q2)),λz=>iF (iA z.1 (iN q2))⟩)) ?_;right;exact h
theorem wI(h1:106<=c)(h2:c < 121)(h:Q (.bool (decide (109<=c/\c<=112))) M):aj fns (n+2) 10 [.int c] Q X M:=by
 refine aM (l:=[some (.int c),none]) rfl rfl rfl ?_;right;refine eN (gi ⟨h1,h2⟩) ?_;right;refine aJ (λq=>?_) (λq=>?_)<;>right
 ·have q:=of_decide_eq_true q
  show Q (.bool (decide (c - 106<=6))) M;rw[show decide (c - 106<=6)=decide (109<=c/\c<=112) from decide_eq_decide.mpr ⟨λz=>⟨Int.add_le_of_le_sub_right (a:=3) q,Int.le_add_of_sub_right_le (b:=6) z⟩,λz=>Int.sub_right_le_of_le_add (b:=6) z.2⟩];exact h
 ·have q:=of_decide_eq_false q
  rw[show decide (109<=c/\c<=112)=false by rw[decide_eq_false_iff_not];exact λz=>iF (iA z.1 (iN q))] at h;exact h
noncomputable def vU(c:Int):Int:=if(c == 69)=true then 1 else if([27,28].any λy=>y == c)=true then 3 else if(decide (70<=c/\c < 80) || decide (106<=c))=true then(if(!decide (109<=c/\c<=112))=true then 2 else 0) else 0
theorem n8(hc:small c)(hb:¬ (70<=c/\c < 80))(h:Q (.int (vU c)) M):aj fns (n+3) 21 [.int c] Q X M:=by
 refine aM (l:=[some (.int c)]) rfl rfl rfl ?_;right;refine bB (by rw[beq_eq_false_iff_ne];exact λz=>iF (iR z (iA hc.2.1))) ?_;right;refine eU hc ?_;right;unfold vU at h;refine aJ (λq=>?_) (λq=>?_)
 ·rw[if_pos q] at h
  right;exact h
 ·rw[if_neg (RJ _ ▸ q)] at h
  right
  try refine bJ [27,28] ?_
  refine aJ (λq=>?_) (λq=>?_)<;>right
  ·rw[if_pos q] at h;exact h
  ·rw[if_neg (RJ _ ▸ q)] at h
   refine lK hc ?_;right;refine aJ (λq=>?_) (λq=>?_)<;>right
   ·rw[if_pos q] at h
    refine wI (of_decide_eq_true ((TH _ _ ▸ q).resolve_left λz=>hb (of_decide_eq_true z))) hc.2.1 ?_;right;refine aJ (λz=>?_) (λz=>?_)<;>right
    ·rw[if_pos z] at h;exact h
    ·rw[if_neg (RJ _ ▸ z)] at h;exact h
   ·rw[if_neg (RJ _ ▸ q)] at h;exact h
theorem ri(hc:c=106\/c=107\/c=110)(h:Q (.int (if c=110 then 1 else 0)) M):aj fns (n+1) 22 [.int c] Q X M:=by
 rcases hc with rfl |rfl |rfl
 all_goals
  refine aM (l:=[some (.int _),none]) rfl rfl rfl ?_;right;exact h
theorem lJ(hc:c=69\/c=106\/c=107\/c=110)(h:Q (.tup [.int 32,.int 32]) M):aj fns (n+1) 25 [.int c] Q X M:=by
 rcases hc with rfl |rfl |rfl |rfl
 all_goals
  refine aM (l:=[some (.int _),none]) rfl rfl rfl ?_;right;exact h
theorem zM(h:Q (.int (if x=0 then 1 else 0)) M):aj fns (n+2) 11 [.int 69,.int x] Q X M:=by
 refine aM (l:=[some (.int 69),some (.int x),none,none]) rfl rfl rfl ?_;right;refine LF ?_;right;exact h
theorem oW(h:Q (.int (wr (x+y)).i) M):aj fns (n+3) 12 [.int 106,.int x,.int y] Q X M:=by
 refine aM (l:=[some (.int 106),some (.int x),some (.int y),none]) rfl rfl rfl ?_;right;refine eN (gi (by simp only[Rl];decide)) ?_;right;refine w_add ?_;right;exact h
theorem oV(h:Q (.int (wr (x - y)).i) M):aj fns (n+3) 12 [.int 107,.int x,.int y] Q X M:=by
 refine aM (l:=[some (.int 107),some (.int x),some (.int y),none]) rfl rfl rfl ?_;right;refine eN (gi (by simp only[Rl];decide)) ?_;right;refine w_sub ?_;right;exact h
theorem pj{x y:bS}(h0:y.i=0->X M)(h:y.i≠0->Q (.int (wr (x.i / y.i)).i) M):aj fns (n+3) 12 [.int 110,.int x.i,.int y.i] Q X M:=by
 refine aM (l:=[some (.int 110),some (.int x.i),some (.int y.i),none]) rfl rfl rfl ?_;right;refine eN (gi (by simp only[Rl];decide)) ?_;right;refine Ge h0 λhy=>?_;right;exact h hy
end
noncomputable def PV(p:List Int):V:=.tup (p.map .int)
theorem fJ{p:List Int}(e:(idx? k p.length).bind (λj=>p[j]?)=some x)(h:Q (.int x) M):Bh (p.map .int) k M Q:=by
 refine qL (x:=.int x) ?_ h;rw[Qc];refine aT (Qh.mp e) λj q e=>?_;rw[q,QM,QE,e];rfl
theorem C2{p:List Int}{i:Int}(z:1<=i)(y:i<=p.length)(h:Q (PV (p.drop i.toNat)) M):J6 (p.map .int) (some i) none M Q:=by
 refine Kw z (by rwa [Qc]) ?_;rw[<- VC];exact h
section
variable{c:Call}{l:Loc}{M:Mem}{Q:V->Mem->Prop}{X:Mem->Prop}{P:Fl->Loc->Mem->Prop}{a:ME}
theorem cZ(e:M.list? r=some vs)(h:R (.lst r) M):OJ r M R:=⟨by rw[e];rfl,h⟩
theorem vt{i:Int}(z:-bh<=i/\i<=bh)(h:R (.uu i.toNat) M):Ou i M R:=⟨z.1,z.2,h⟩
theorem Hu(e:M.list? r=some vs)(h:R (.kG r) M):OA r M R:=⟨by rw[e];rfl,h⟩
theorem eH(h:it c l M (λi M1=>t.ok i/\∃n,ct c t body i n 0 l M1 P) X):bX t it body c l M P X:=by unfold bX;exact h
abbrev Ba(c:Call)(t:l6)(body:MS)(it:It)(n k:Nat)(P:Fl->Loc->Mem->Prop):=lE (λl M=>ct c t body it n (k+1) l M P) P
theorem cH(e:cS M it k=some none)(h:P .next l M):ct c t body it (n+1) k l M P:=aS e h
theorem dY(e:cS M it k=some (some v))(e1:t.set l v=some l1)(h:body c l1 M (Ba c t body it n k P) (λ_=>False)):ct c t body it (n+1) k l M P:=aS e (aS e1 h)
theorem NP(h:R l M):lE R P .next l M:=h
theorem Oj(h:P (.ret v) l M):lE R P (.ret v) l M:=h
abbrev OX(c:Call)(t:MB)(body:MS)(n:Nat)(P:Fl->Loc->Mem->Prop):=lE (λl M=>fj c t body n l M P) P
theorem MQ(h:∃n,fj c t body n l M P):fq t body c l M P X:=h
theorem qE(h:t c l M (λr M1=>if r=true then body c l M1 (OX c t body n P) (λ_=>False) else P .next l M1) (λ_=>False)):fj c t body (n+1) l M P:=h
theorem MD(h:R l M):lE R P .next l M:=h
theorem fH{it:MI}{cond:Option MB}(h:it c l M (λi M1=>(l6.one 0).ok i/\∃n,dE c l elt cond i (λ_=>False) n 0 [] M1 Q) X):dP elt it cond c l M Q X:=by unfold dP;exact h
theorem ix{cond:Option MB}{it:It}{n k:Nat}{acc:List V}{Y:Mem->Prop}(e:cS M it k=some none)(h:bw M acc Q):dE c l elt cond it Y (n+1) k acc M Q:=aS e h
theorem sI(e:cS M it k=some (some v))(z:acc.length<=bh)(h:elt c (l++[some v]) M (λx M1=>dE c l elt none it Y n (k+1) (acc++[x]) M1 Q) Y):dE c l elt none it Y (n+1) k acc M Q:=aS e ⟨z,h⟩
theorem xH(e:cS M it k=some (some v))(z:acc.length<=bh)(h:t c (l++[some v]) M (λb M1=>if b=true then elt c (l++[some v]) M1 (λx M2=>dE c l elt (some t) it Y n (k+1) (acc++[x]) M2 Q) Y else dE c l elt (some t) it Y n (k+1) acc M1 Q) Y):dE c l elt (some t) it Y (n+1) k acc M Q:=aS e ⟨z,h⟩
theorem kx{vs:List V}(hit:∀k,cS M it k=some vs[k]?)(hf:∀v∈vs,∀R:V->Mem->Prop,R (f v) M->elt c (l++[some v]) M R Y)(hz:vs.length<=bh)(h:bw M (vs.map f) Q):
  ∃n,dE c l elt none it Y n 0 [] M Q:=by
 have go:∀(m k:Nat),k+m=vs.length->dE c l elt none it Y (m+1) k ((vs.take k).map f) M Q:=by
  intro m;induction m with
  |zero=>
   intro k hk;refine ix (by rw[hit,Qp (by exact nR hk)]) ?_;rw[RD (by exact nR hk)];exact h
  |succ m ih=>
   intro k hk;have hlt:k < vs.length:=by exact nQ hk
   refine sI (v:=vs[k]) (by rw[hit,Ql hlt]) (by simp;lia) ?_;refine hf _ (List.getElem_mem hlt) _ ?_;have:=ih (k+1) (by exact PN (nQ hk) (nR hk))
   rwa [List.take_succ_eq_append_getElem hlt,Q8] at this
 exact⟨_,go vs.length 0 (by exact PN (nZ) (nZ))⟩
end
def bN(o1 o2:List Nat):Prop:=∀c,c∈o1->c∉o2
mutual
noncomputable def PT(M:Mem):T->Nat->List Nat->Prop
 |.leaf i,a,o=>M a=some (.av (PV i.enc) .none .none)/\o=[a]
 |.one h ts,a,o=>∃b as o1,M a=some (.av (PV h.enc) (.lst b) .none)/\M b=some (.list (as.map .obj))/\bP M ts as o1/\a∉o1/\b∉o1/\o=a::b::o1
 |.two v ts us,a,o=>∃b as o1 d bs o2,M a=some (.av (PV [4,jq v]) (.lst b) (.lst d))/\M b=some (.list (as.map .obj))/\bP M ts as o1/\M d=some (.list (bs.map .obj))/\bP M us bs o2/\
   b≠d/\a∉o1/\a∉o2/\b∉o1/\b∉o2/\d∉o1/\d∉o2/\bN o1 o2/\o=a::b::d::(o1++o2)
noncomputable def bP(M:Mem):List T->List Nat->List Nat->Prop
 |[],as,o=>as=[]/\o=[]
 |t::ts,as,o=>∃a as' o1 o2,as=a::as'/\PT M t a o1/\bP M ts as' o2/\bN o1 o2/\o=o1++o2
end
def LT(M:Mem)(ts:List T)(b:Nat)(o:List Nat):Prop:=∃as o1,M b=some (.list (as.map .obj))/\bP M ts as o1/\b∉o1/\o=b::o1
theorem EX{P:Nat->Prop}{a b:List Nat}(h:∀c,c∈a->P c)(k:∀c,c∈b->P c)(c:Nat)(m:c∈a++b):P c:=(P1.mp m).elim (h c) (k c)
theorem all_cons{P:Nat->Prop}{r:Nat}{b:List Nat}(h:P r)(k:∀c,c∈b->P c)(c:Nat)(m:c∈r::b):P c:=(PJ.mp m).elim (λe=>e ▸ h) (k c)
theorem all_nil{P:Nat->Prop}(c:Nat)(m:c∈([]:List Nat)):P c:=nomatch m
theorem bN.HK(h:r∉o)(d:bN o b):bN o (r::b):=λc h1 h2=>(PJ.mp h2).elim (λe=>h (e ▸ h1)) (d c h1)
theorem bN.one(h:r∉b):bN [r] b:=λc h1 h2=>h (PL.mp h1 ▸ h2)
theorem bN.Pj(d:bN o a)(e:bN o b):bN o (a++b):=λc h1 h2=>(P1.mp h2).elim (d c h1) (e c h1)
theorem bN.symm(h:bN o1 o2):bN o2 o1:=λc h2 h1=>h c h1 h2
theorem kl:(∀t,∀a o,(∀c∈o,M' c=M c)->PT M t a o->PT M' t a o)/\(∀ts,∀as o,(∀c∈o,M' c=M c)->bP M ts as o->bP M' ts as o):=by
 refine T.dO (λi a o h p=>?_) (λhh ts ih a o h p=>?_) (λv ts us iha ihb a o h p=>?_) (λas o h p=>?_) (λt ts iht ihs as o h p=>?_)
 ·unfold PT at p |-
  obtain⟨p,rfl⟩:=p;exact⟨(h a (by simp)).trans p,rfl⟩
 ·unfold PT at p |-
  (refine b6 p λb as o1 p1 p2 p3 p4 p5 q8q=>?_;obtain rfl:=q8q)
  exact⟨b,as,o1,(h a (by simp)).trans p1,(h b (by simp)).trans p2,ih _ _ (λc hc=>h c (by simp[hc])) p3,p4,p5,rfl⟩
 ·unfold PT at p |-
  (refine bU p λb as o1 d bs o2 p1 p2 p3 p4 p5 p6 p7 p8 p9 p10 p11 p12 p13 q19q=>?_;obtain rfl:=q19q)
  exact⟨b,as,o1,d,bs,o2,(h a (by simp)).trans p1,(h b (by simp)).trans p2,iha _ _ (λc hc=>h c (by simp[hc])) p3,(h d (by simp)).trans p4,ihb _ _ (λc hc=>h c (by simp[hc])) p5,p6,p7,p8,p9,p10,p11,p12,p13,rfl⟩
 ·unfold bP at p |-;exact p
 ·unfold bP at p |-
  (refine aQ p λa as' o1 o2 q4q p1 p2 p3 q8q=>?_;obtain rfl:=q4q;obtain rfl:=q8q)
  exact⟨a,as',o1,o2,rfl,iht _ _ (λc hc=>h c (by simp[hc])) p1,ihs _ _ (λc hc=>h c (by simp[hc])) p2,p3,rfl⟩
theorem PT.frame(p:PT M t a o)(h:∀c∈o,M' c=M c):PT M' t a o:=kl.1 t a o h p
theorem bP.frame(p:bP M ts as o)(h:∀c∈o,M' c=M c):bP M' ts as o:=kl.2 ts as o h p
theorem j3:(∀t,∀a o,PT M t a o->∀c∈o,M c≠none)/\(∀ts,∀as o,bP M ts as o->∀c∈o,M c≠none):=by
 refine T.dO (λi a o p c hc=>?_) (λhh ts ih a o p c hc=>?_) (λv ts us iha ihb a o p c hc=>?_) (λas o p c hc=>?_) (λt ts iht ihs as o p c hc=>?_)
 ·unfold PT at p
  obtain⟨p,rfl⟩:=p;rw[PL.mp hc,p];simp
 ·unfold PT at p
  (refine b6 p λb as o1 p1 p2 p3 p4 p5 q8q=>?_;obtain rfl:=q8q)
  rcases PJ.mp hc with rfl |hc
  ·rw[p1];simp
  ·rcases PJ.mp hc with rfl |hc
   ·rw[p2];simp
   ·exact ih _ _ p3 _ hc
 ·unfold PT at p
  (refine bU p λb as o1 d bs o2 p1 p2 p3 p4 p5 p6 p7 p8 p9 p10 p11 p12 p13 q19q=>?_;obtain rfl:=q19q)
  simp only[PJ,P1] at hc;rcases hc with rfl |rfl |rfl |hc |hc
  ·rw[p1];simp
  ·rw[p2];simp
  ·rw[p4];simp
  ·exact iha _ _ p3 _ hc
  ·exact ihb _ _ p5 _ hc
 ·unfold bP at p;(refine xA p λq0q q1q=>?_;obtain rfl:=q0q;obtain rfl:=q1q);cases hc
 ·unfold bP at p
  (refine aQ p λa as' o1 o2 q4q p1 p2 p3 q8q=>?_;obtain rfl:=q4q;obtain rfl:=q8q)
  rcases P1.mp hc with hc |hc
  ·exact iht _ _ p1 _ hc
  ·exact ihs _ _ p2 _ hc
theorem PT.alloc(p:PT M t a o):∀c∈o,M c≠none:=j3.1 t a o p
theorem bP.alloc(p:bP M ts as o):∀c∈o,M c≠none:=j3.2 ts as o p
theorem LT.alloc(p:LT M ts b o):∀c∈o,M c≠none:=by
 (refine aX p λas o1 p1 p2 p3 q5q=>?_;obtain rfl:=q5q)
 intro c hc;rcases PJ.mp hc with rfl |hc
 ·rw[p1];simp
 ·exact p2.alloc c hc
theorem LT.frame(p:LT M ts b o)(h:∀c∈o,M' c=M c):LT M' ts b o:=by
 (refine aX p λas o1 p1 p2 p3 q5q=>?_;obtain rfl:=q5q)
 exact⟨as,o1,(h b (by simp)).trans p1,p2.frame λc hc=>h c (by simp[hc]),p3,rfl⟩
theorem PT.root(p:PT M t a o):a∈o:=by
 induction t using T.casesOn<;>unfold PT at p
 ·(refine xA p λp q1q=>?_;obtain rfl:=q1q);simp
 ·(refine b6 p λb as o1 p1 p2 p3 p4 p5 q8q=>?_;obtain rfl:=q8q);simp
 ·(refine bU p λb as o1 d bs o2 p1 p2 p3 p4 p5 p6 p7 p8 p9 p10 p11 p12 p13 q19q=>?_;obtain rfl:=q19q);simp
theorem bP.length:∀{ts:List T}{as o:List Nat},bP M ts as o->as.length=ts.length:=by
 intro ts;induction ts with
 |nil=>
  intro _ _ p;unfold bP at p;(refine xA p λq0q q1q=>?_;obtain rfl:=q0q;obtain rfl:=q1q);rfl
 |cons t ts ih=>
  intro _ _ p;unfold bP at p
  (refine aQ p λa as' o1 o2 q4q p1 p2 p3 q8q=>?_;obtain rfl:=q4q;obtain rfl:=q8q)
  simp[ih p2]
theorem bP.append:∀{ts us:List T}{as bs o1 o2:List Nat},bP M ts as o1->bP M us bs o2->bN o1 o2->bP M (ts++us) (as++bs) (o1++o2):=by
 intro ts;induction ts with
 |nil=>
  intro us as bs o1 o2 p q d;unfold bP at p;(refine xA p λq0q q1q=>?_;obtain rfl:=q0q;obtain rfl:=q1q);exact q
 |cons t ts ih=>
  intro us as bs o1 o2 p q d;unfold bP at p
  (refine aQ p λa as' x y q4q p1 p2 p3 q8q=>?_;obtain rfl:=q4q;obtain rfl:=q8q)
  show bP M (t::(ts++us)) _ _;unfold bP;refine⟨a,as'++bs,x,y++o2,rfl,p1,ih p2 q λc h=>d c (by simp[h]),λc h=>?_,by simp⟩;simp only[P1,not_or];exact⟨p3 c h,d c (by simp[h])⟩
theorem bP.split:∀{ts us:List T}{as o:List Nat},bP M (ts++us) as o->∃as1 as2 o1 o2,as=as1++as2/\o=o1++o2/\bP M ts as1 o1/\bP M us as2 o2/\bN o1 o2:=by
 intro ts;induction ts with
 |nil=>
  intro us as o p;exact⟨[],as,[],o,rfl,rfl,by unfold bP;exact⟨rfl,rfl⟩,p,λc h=>by cases h⟩
 |cons t ts ih=>
  intro us as o p;have p:bP M (t::(ts++us)) as o:=p;unfold bP at p
  (refine aQ p λa as' x y q4q p1 p2 p3 q8q=>?_;obtain rfl:=q4q;obtain rfl:=q8q)
  (refine aQ (ih p2) λas1 as2 o1 o2 q4q q5q q1 q2 q3=>?_;obtain rfl:=q4q;obtain rfl:=q5q)
  refine⟨a::as1,as2,x++o1,o2,rfl,by simp,?_,q2,λc h=>?_⟩
  ·unfold bP;exact⟨a,as1,x,o1,rfl,p1,q1,λc h=>by have:=p3 c h;simp at this;exact this.1,rfl⟩
  ·rcases P1.mp h with h |h
   ·have:=p3 c h;simp at this;exact this.2
   ·exact q3 c h
theorem dh:bP M [] [] []:=by unfold bP;exact⟨rfl,rfl⟩
theorem bZ(p:PT M t a o):bP M [t] [a] o:=by
 unfold bP;exact⟨a,[],o,[],rfl,p,dh,λc h=>by simp,by simp⟩
structure Upd (o:List Nat) (M:Mem) (o':List Nat) (M':Mem):Prop where
 ext:∀c,M c≠none->c∉o->M' c=M c
 sub:∀c∈o',c∈o\/M c=none
theorem Upd.refl(o:List Nat)(M:Mem):Upd o M o M:=⟨λ_ _ _=>rfl,λ_ h=>.inl h⟩
theorem Upd.trans(x:Upd o0 M0 o1 M1)(y:Upd o1 M1 o2 M2):Upd o0 M0 o2 M2 where
 ext c h h0:=by
  have e:=x.ext c h h0;refine(y.ext c (by rw[e];exact h) λq=>?_).trans e;rcases x.sub c q with q |q
  ·exact h0 q
  ·exact h q
 sub c hc:=by
  rcases y.sub c hc with q |q
  ·exact x.sub c q
  ·by_cases h:M0 c=none
   ·exact .inr h
   ·by_cases h0:c∈o0
    ·exact .inl h0
    ·rw[x.ext c h h0] at q;exact absurd q h
theorem Upd.weaken(x:Upd o0 M0 o1 M1)(h0:∀c∈o0,c∈p0\/M0 c=none)(h1:∀c∈p1,c∈o1\/c∈p0\/M0 c=none):Upd p0 M0 p1 M1 where
 ext c h hn:=x.ext c h λq=>by
  rcases h0 c q with q |q
  ·exact hn q
  ·exact h q
 sub c hc:=by
  rcases h1 c hc with q |q |q
  ·rcases x.sub c q with q |q
   ·exact h0 c q
   ·exact .inr q
  ·exact .inl q
  ·exact .inr q
theorem Upd.apart(x:Upd o0 M0 o1 M1)(d:bN o0 p)(hp:∀c∈p,M0 c≠none):bN o1 p/\∀c∈p,M1 c=M0 c:=
 ⟨λc h1 h2=>by
  rcases x.sub c h1 with q |q
  ·exact d c q h2
  ·exact hp c h2 q,λc hc=>x.ext c (hp c hc) λq=>d c q hc⟩
theorem Upd.new(h:M r=none):Upd o M (r::o) (M.set r ob):=
 ⟨λc hc _=>aA λe=>hc (e ▸ h),λc hc=>by
  rcases PJ.mp hc with rfl |hc
  ·exact .inr h
  ·exact .inl hc⟩
theorem Upd.put(h:r∈o):Upd o M o (M.set r ob):=
 ⟨λc _ hn=>aA λe=>hn (e ▸ h),λc hc=>.inl hc⟩
noncomputable def T.code(t:T):Int:=cd t.firstTok
noncomputable def T.cE:T->List Nat
 |.leaf i=>i.eC
 |_=>[]
noncomputable def T.fst(b:Nat):T->V
 |.leaf _=>.none
 |_=>.lst b
theorem tP(t:T):∃r,t.firstTok=t.code::r:=by
 induction t using T.casesOn with
 |leaf i=>induction i using I.casesOn<;>exact⟨_,rfl⟩
 |one h a=>induction h using H.casesOn<;>exact⟨_,rfl⟩
 |two v a b=>exact⟨_,rfl⟩
theorem PT.av(p:PT M t a o):∃f s,M a=some (.av (PV t.firstTok) f s):=by
 induction t using T.casesOn<;>unfold PT at p
 ·exact⟨_,_,p.1⟩
 ·refine cY p λb as o1 p1 _=>?_;exact⟨_,_,p1⟩
 ·refine j1 p λb as o1 d bs o2 p1 _=>?_;exact⟨_,_,p1⟩
section
variable{n:Nat}{c:Call}{l:Loc}{Q:V->Mem->Prop}{X:Mem->Prop}{M:Mem}{P:Fl->Loc->Mem->Prop}
theorem Iq(e:M a=some (.av (PV (k::p)) f s))(h:Q (.int k) M):aj fns (n+1) 13 [.obj a] Q X M:=by
 refine aM (l:=[some (.obj a)]) rfl rfl rfl ?_;right;refine fJ (x:=k) ?_ ?_
 ·show(if(0:Int)<=0 then(if(0:Int) < ((p.length+1:Nat):Int) then some (0:Int).toNat else none) else _).bind _=_
  rw[if_pos (by decide),if_pos (by exact Se.mpr (UY _))];rfl
 ·right
  exact h
theorem IK(e:M a=some (.av (PV (k::p)) f s))(h:Q (.int k) M):B6 a (aj fns (n+1)) M Q:=⟨by rw[fh e];rfl,Iq e h⟩
theorem aO{t:T}(p:PT M t a o)(h:Q (.int t.code) M):B6 a (aj fns (n+1)) M Q:=by
 refine vY p.av λf s e=>?_;refine xE (tP t) λr hr=>?_;rw[hr] at e;exact IK e h
theorem eK(e:M a=some (.av p f s))(h:c k [.obj a] Q X M):C8 k a c M Q X:=⟨by rw[fh e];rfl,h⟩
noncomputable def Fw(t:T):V:=PV (t.cE.map λ(k:Nat)=>(k:Int))
theorem Ek(p:PT M t a o)(h:Q (Fw t) M):aj fns (n+2) 15 [.obj a] Q X M:=by
 refine aM (l:=[some (.obj a)]) rfl rfl rfl ?_;right;refine aO p ?_;right
 try refine bJ [12,13,14] ?_
 refine vY p.av λf s e=>?_;induction t using T.casesOn with
 |leaf i=>
  induction i using I.casesOn<;>(right)<;>first
   |exact h
   |(refine C2 (by decide) (by simp[I.enc,T.firstTok]) ?_;right;exact h)
 |one hh a=>induction hh using H.casesOn<;>(right;exact h)
 |two v a b=>right;exact h
noncomputable def bV(f s:V):List V:=(if hH f then[f] else[])++(if hH s then[s] else[])
theorem fB(e:M a=some (.av p f s))(h:∀r,M r=none->Q (.lst r) (M.set r (.list (bV f s)))):aj fns (n+1) 14 [.obj a] Q X M:=by
 refine aM (l:=[some (.obj a)]) rfl rfl rfl ?_;right;refine fH ?_;right;refine⟨trivial,3,?_⟩;have end_:∀acc:List V,acc.length<=2->acc=bV f s->bw M acc (λv M1=>rt Q (.ret v) [some (.obj a)] M1):=λacc hz he=>by
  refine ay (by unfold bh;exact nA hz) λr hr=>?_;rw[he];exact h r hr
 refine xH (v:=f) rfl (by decide) ?_;right;refine aJ (λq=>?_) (λq=>?_)<;>right
 ·refine xH (v:=s) rfl (by simp[bh]) ?_
  right;refine aJ (λq2=>?_) (λq2=>?_)<;>right
  ·exact ix rfl (end_ _ (by simp) (by simp[bV,q,q2]))
  ·exact ix rfl (end_ _ (by simp) (by simp[bV,q,q2]))
 ·refine xH (v:=s) rfl (by simp[bh]) ?_
  right;refine aJ (λq2=>?_) (λq2=>?_)<;>right
  ·exact ix rfl (end_ _ (by simp) (by simp[bV,q,q2]))
  ·exact ix rfl (end_ _ (by simp) (by simp[bV,q,q2]))
noncomputable def cX(t:T):V:=match ky t with
 |some c=>.int c.i
 |none=>.none
theorem GO(hu:cX u = .none):ky u=none:=by
 unfold cX at hu;revert hu;induction ky u using Option.casesOn with
 |none=>exact λ_=>rfl
 |some a=>exact λh=>nomatch h
theorem dm(u:T):cX u = .none\/∃x,u = .leaf (.cst x):=by
 induction e:ky u using Option.casesOn with
 |none=>unfold cX;rw[e];exact .inl rfl
 |some a=>exact .inr ⟨a,jV e⟩
theorem uF(hu:cX u = .none):cg (t::u::r)=none:=by
 show uU t u r=none;unfold uU;rw[GO hu]
theorem zP:ky t=none->(([65,66]:List Int).any λy=>y == t.code)=false:=by
 induction t using T.casesOn with
 |leaf i=>induction i using I.casesOn<;>first |exact λ_=>rfl |exact λh=>b8 h
 |one h a=>induction h using H.casesOn<;>exact λ_=>rfl
 |two v a b=>exact λ_=>rfl
theorem fV(p:PT M t a o)(h:Q (cX t) M):aj fns (n+2) 23 [.obj a] Q X M:=by
 refine aM (l:=[some (.obj a)]) rfl rfl rfl ?_;right;refine aO p ?_;right
 try refine bJ [65,66] ?_
 refine vY p.av λf s e=>?_;induction hq:ky t using Option.casesOn with
 |none=>
  have c1:=zP hq;have hv:cX t = .none:=by unfold cX;rw[hq]
  rw[hv] at h;right;exact h
 |some x=>
  obtain rfl:=jV hq;right;exact h
theorem mA(h:∀r,M r=none->Q (.obj r) (M.set r (.av (PV (I.cst (sg x)).enc) .none .none))):aj fns (n+2) 24 [.int 32,.int x.i] Q X M:=by
 refine aM (l:=[some (.int 32),some (.int x.i)]) rfl rfl rfl ?_;right;refine By ?_;right;exact h
theorem Dd{x:fX}(h:Q (.int (if x.i=0 then j else k:Nat)) M):aj fns (n+2) 28 [.tup [.int j,.int k],.int x.i] Q X M:=by
 refine aM (l:=[some (.tup [.int j,.int k]),some (.int x.i),none]) rfl rfl rfl ?_;right;refine gP ?_;right;have hx:=kg x;have hlo:=(wr x.i).lo;refine aJ (λq=>?_) (λq=>?_)<;>right
 ·have q:(wr x.i).i < 1:=by have:=of_decide_eq_true q;simpa using this
  have z:(wr x.i).i=0:=by exact WH (iA q) (iA hlo)
  rw[if_pos (hx.mp z)] at h;rw[z];refine qL rfl ?_;right;exact h
 ·have q:¬ (wr x.i).i < 1:=by have:=of_decide_eq_false q;simpa using this
  rw[if_neg (λz=>q (by rw[hx.mpr z];decide))] at h;exact h
end
def aH(M M':Mem):Prop:=∀c,M c≠none->M' c=M c
theorem aH.back(x:aH M M')(h:M' a=none):M a=none:=by
 cases e:M a with
 |none=>rfl
 |some o=>have:=(x a (by rw[e];exact b8)).symm.trans h;rw[e] at this;exact bf this.symm
theorem aH.refl(M:Mem):aH M M:=λ_ _=>rfl
theorem aH.trans(x:aH M M')(y:aH M' M''):aH M M'':=λc h=>by
 have e:=x c h;exact(y c (by rw[e];exact h)).trans e
theorem aH.new{M:Mem}(h:M r=none):aH M (M.set r o):=λc hc=>aA λe=>hc (e ▸ h)
theorem aH.at(x:aH M M')(e:M a=some o):M' a=some o:=(x a (by rw[e];simp)).trans e
theorem aH.list(x:aH M M')(e:M.list? a=some vs):M'.list? a=some vs:=af (x.at (aw e))
theorem ju(z:vs.length<=bh)(h:∀M' r,M r=none->aH M M'->M'.list? r=some vs->Q (.lst r) M'):bw M vs Q:=⟨z,λr hr=>h _ r hr (aH.new hr) (af ai)⟩
theorem aH.HA(x:aH M M')(p:bP M ts as o):bP M' ts as o:=p.frame λc hc=>x c (p.alloc c hc)
theorem aH.pt(x:aH M M')(p:PT M t a o):PT M' t a o:=p.frame λc hc=>x c (p.alloc c hc)
theorem aH.lt(x:aH M M')(p:LT M ts b o):LT M' ts b o:=p.frame λc hc=>x c (p.alloc c hc)
theorem aH.upd(x:aH M M')(o:List Nat):Upd o M o M':=⟨λc h _=>x c h,λc h=>.inl h⟩
theorem PT.lq(p:PT M (.one h ts) a o):∃b o1,M a=some (.av (PV h.enc) (.lst b) .none)/\LT M ts b o1/\a∉o1/\o=a::o1:=by
 unfold PT at p
 (refine b6 p λb as o1 p1 p2 p3 p4 p5 q8q=>?_;obtain rfl:=q8q)
 refine⟨b,b::o1,p1,⟨as,o1,p2,p3,p5,rfl⟩,?_,rfl⟩;intro q;rcases PJ.mp q with rfl |q
 ·rw[p1] at p2;cases p2
 ·exact p4 q
theorem PT.nv(p:PT M (.two v ts us) a o):∃b o1 d o2,M a=some (.av (PV [4,jq v]) (.lst b) (.lst d))/\LT M ts b o1/\LT M us d o2/\a∉o1/\a∉o2/\bN o1 o2/\(∀c,c∈o↔c=a\/c∈o1\/c∈o2):=by
 unfold PT at p
 (refine bU p λb as o1 d bs o2 p1 p2 p3 p4 p5 p6 p7 p8 p9 p10 p11 p12 p13 q19q=>?_;obtain rfl:=q19q)
 refine⟨b,b::o1,d,d::o2,p1,⟨as,o1,p2,p3,p9,rfl⟩,⟨bs,o2,p4,p5,p12,rfl⟩,?_,?_,?_,λc=>?_⟩
 ·intro q
  rcases PJ.mp q with rfl |q
  ·rw[p1] at p2;cases p2
  ·exact p7 q
 ·intro q
  rcases PJ.mp q with rfl |q
  ·rw[p1] at p4;cases p4
  ·exact p8 q
 ·intro c h1 h2
  rcases PJ.mp h1 with rfl |h1<;>rcases PJ.mp h2 with h2 |h2
  ·exact p6 h2
  ·exact p10 h2
  ·subst h2;exact p11 h1
  ·exact p13 c h1 h2
 ·simp only[PJ,P1]
  constructor
  ·rintro (h |h |h |h |h)<;>simp[h]
  ·rintro (h |(h |h) |(h |h))<;>simp[h]
theorem J9:hH (.lst b)=true:=rfl
section
variable{n:Nat}{c:Call}{l:Loc}{Q:V->Mem->Prop}{X:Mem->Prop}{M:Mem}{P:Fl->Loc->Mem->Prop}{K:Bool->Mem->Prop}
theorem Gz{t:T}(h:K (t.cE.contains e) M):eL .isin (.int (e:Int)) (Fw t) M K:=by
 try refine bJ (t.cE.map λ(k:Nat)=>(k:Int)) ?_
 have:((t.cE.map λ(k:Nat)=>(k:Int)).any λy=>y == (e:Int))=t.cE.contains e:=by
  generalize t.cE=xs;induction xs with
  |nil=>rfl
  |cons x xs ih=>
   simp only[RX,TA,ih,QG];congr 1;rw[SU,beq_iff_eq,beq_iff_eq];lia
 rw[this];exact h
theorem jW(p:PT M t a o)(h:Q (Fw t) M):C8 15 a (aj fns (n+2)) M Q X:=by
 refine vY p.av λf s e=>?_;exact eK e (Ek p h)
def gW(n:Nat)(ts:List T):Prop:=∀(M:Mem)(b:Nat)(o:List Nat)(e:Nat)(Q:V->Mem->Prop)(X:Mem->Prop),LT M ts b o->(∀M',aH M M'->Q (.bool (ey ts e)) M')->aj fns n 19 [.lst b,.int e] Q X M
theorem jA(hN:gW n ts)(p:LT M ts q o)(hit:cS M it k=some (some (.lst q)))(h1:∀M',aH M M'->ey ts (e+1)=true->P (.ret (.bool true)) [x0,some (.int e),x2,some (.lst q)] M')(h0:∀M',aH M M'->ey ts (e+1)=false->ct (aj fns n) (.one 3) zu it m (k+1) [x0,some (.int e),x2,some (.lst q)] M' P):
  ct (aj fns n) (.one 3) zu it (m+1) k [x0,some (.int e),x2,x3] M P:=by
 refine dY (l1:=[x0,some (.int e),x2,some (.lst q)]) hit rfl ?_;unfold zu;right;refine hN M q o (e+1) _ _ p λM' hs=>?_;right;refine aJ (λz=>?_) (λz=>?_)<;>right
 ·exact(h1 M' hs z)
 ·exact(h0 M' hs z)
theorem uX(hN:∀ts,(∃h,t = .one h ts)\/(∃v us,t = .two v ts us)\/(∃v us,t = .two v us ts)->gW (n+2) ts)(p:PT M t a o)(h1:∀M' x,aH M M'->gI t e=true->P (.ret (.bool true)) [x0,some (.int e),some (.obj a),x] M')(h0:∀M' x,aH M M'->gI t e=false->P .next [x0,some (.int e),some (.obj a),x] M'):
  F8 (aj fns (n+2)) [x0,some (.int e),some (.obj a),x3] M P X:=by
 unfold F8;right;refine jW p ?_;right;refine Gz ?_;refine aJ (λz=>?_) (λz=>?_)<;>right
 ·refine h1 M x3 (.refl M) ?_
  induction t using T.casesOn with
  |leaf i=>exact z
  |one h a=>exact cy z
  |two v a b=>exact cy z
 ·refine eH ?_
  right;induction t using T.casesOn with
  |leaf i=>
   have p':=p;unfold PT at p';refine eK p'.1 (fB p'.1 λr hr=>?_);right;refine cZ (af ai) ⟨trivial,1,cH ?_ ?_⟩
   ·show(Mem.list? _ _).map _=_
    rw[af ai];rfl
   ·right
    exact h0 _ _ (.new hr) z
  |one h ts=>
   (refine aX p.lq λb o1 e1 q1 n1 q5q=>?_;obtain rfl:=q5q)
   refine eK e1 (fB e1 λr hr=>?_);right;have hl:(M.set r (.list (bV (.lst b) .none))).list? r=some [.lst b]:=af ai;have hs:=aH.new (o:=.list (bV (.lst b) .none)) hr;right;refine cZ hl ⟨trivial,2,jA (hN ts (.inl ⟨h,rfl⟩)) (hs.lt q1) (by show(Mem.list? _ _).map _=_;rw[hl];rfl) (λM' s' z'=>?_) λM' s' z'=>?_⟩
   ·exact h1 M' _ (hs.trans s') (by unfold gI;exact z')
   ·refine cH (by show(Mem.list? _ _).map _=_;rw[s'.list hl];rfl) ?_
    right;exact h0 M' _ (hs.trans s') (by unfold gI;exact z')
  |two v ts us=>
   refine cM p.nv λb o1 d o2 e1 q1 q2 n1 n2 n3 n4=>?_;refine eK e1 (fB e1 λr hr=>?_);right;have hl:(M.set r (.list (bV (.lst b) (.lst d)))).list? r=some [.lst b,.lst d]:=af ai;have hs:=aH.new (o:=.list (bV (.lst b) (.lst d))) hr;right;refine cZ hl ⟨trivial,3,jA (hN ts (.inr (.inl ⟨v,us,rfl⟩))) (hs.lt q1) (by show(Mem.list? _ _).map _=_;rw[hl];rfl) (λM' s' z'=>?_) λM' s' z'=>?_⟩
   ·exact h1 M' _ (hs.trans s') (by unfold gI;rw[z'];rfl)
   ·refine jA (hN us (.inr (.inr ⟨v,ts,rfl⟩))) (s'.lt (hs.lt q2)) (by show(Mem.list? _ _).map _=_;rw[s'.list hl];rfl) (λM2 s2 z2=>?_) λM2 s2 z2=>?_
    ·exact h1 M2 _ ((hs.trans s').trans s2) (by unfold gI;rw[z',z2];rfl)
    ·refine cH (by show(Mem.list? _ _).map _=_;rw[s2.list (s'.list hl)];rfl) ?_
     right;exact h0 M2 _ ((hs.trans s').trans s2) (by unfold gI;rw[z',z2];rfl)
theorem jE(h:dep (t::ts)<=d):bO t<=d/\dep ts<=d:=by unfold dep at h;lia
theorem nC(h:bO t<=d+1)(q:(∃h,t = .one h ts)\/(∃v us,t = .two v ts us)\/(∃v us,t = .two v us ts)):dep ts<=d:=by
 rcases q with⟨h',rfl⟩ |⟨v,us,rfl⟩ |⟨v,us,rfl⟩<;>unfold bO at h<;>lia
theorem mG{all:List Nat}:∀{us:List T},(∀t∈us,∀ts,(∃h,t = .one h ts)\/(∃v us,t = .two v ts us)\/(∃v us,t = .two v us ts)->gW (n+2) ts)->∀{M:Mem}{as o:List Nat}{k:Nat}{x2 x3:Option V},M.list? b=some (all.map .obj)->all.drop k=as->bP M us as o->
  (∀M' l',aH M M'->ey us e=true->P (.ret (.bool true)) l' M')->(∀M' x y,aH M M'->ey us e=false->P .next [some (.lst b),some (.int e),x,y] M')->
  ct (aj fns (n+2)) (.one 2) F8 (.lst b) (us.length+1) k [some (.lst b),some (.int e),x2,x3] M P:=by
 intro us;induction us with
 |nil=>
  intro _ M as o k x2 x3 hb hk p h1 h0;unfold bP at p
  (refine xA p λq0q q1q=>?_;obtain rfl:=q0q;obtain rfl:=q1q)
  refine cH ?_ (h0 M _ _ (.refl M) (by unfold ey;rfl));show(M.list? b).map _=_;rw[hb,Qj,QE,Qp (by have:=congrArg Rl hk;simp at this;exact nA (nS (all.length) (k)) (nQ this))];rfl
 |cons t us ih=>
  intro hN M as o k x2 x3 hb hk p h1 h0;unfold bP at p
  (refine aQ p λa as' o1 o2 q4q p1 p2 d q8q=>?_;obtain rfl:=q4q;obtain rfl:=q8q)
  have ha:all[k]?=some a:=by rw[<- Q9,hk];rfl
  have hk':all.drop (k+1)=as':=by rw[<- QL,hk];rfl
  refine dY (v:=.obj a) (l1:=[some (.lst b),some (.int e),some (.obj a),x3]) ?_ rfl ?_
  ·show(M.list? b).map _=_
   rw[hb,Qj,QE,ha];rfl
  ·refine uX (hN t (.head _)) p1 (λM' x s z=>?_) λM' x s z=>?_
   ·exact(h1 M' _ s (by unfold ey;rw[z];rfl))
   ·refine(ih (λt' ht=>hN t' (.tail _ ht)) (s.list hb) hk' (s.HA p2) (λM2 l' s2 z2=>?_) λM2 x y s2 z2=>?_)
    ·exact h1 M2 l' (s.trans s2) (by unfold ey;rw[z,z2];rfl)
    ·exact h0 M2 _ _ (s.trans s2) (by unfold ey;rw[z,z2];rfl)
theorem nO:∀(d:Nat)(ts:List T),dep ts<=d->∀n,d+3<=n->gW n ts:=by
 intro d;induction d with
 |zero=>
  intro ts hd n hn M b o e Q X p h;obtain⟨m,rfl⟩:∃m,n=m+3:=⟨n - 3,by exact PN (nA (nS (n) (3))) (nA (nT (n) (3) (nA hn)))⟩;obtain⟨as,o1,p1,p2,p3,rfl⟩:=p;refine aM (l:=[some (.lst b),some (.int e),none,none]) rfl rfl rfl ?_;have hb:=af p1;right;refine eH ?_;right;have hleaf:∀t∈ts,∀us,(∃h,t = .one h us)\/(∃v ws,t = .two v us ws)\/(∃v ws,t = .two v ws us)->gW (m+2) us:=λt ht us q=>by
   have:bO t<=0:=by
    clear hb p1 p2 p3 h;induction ts with
    |nil=>cases ht
    |cons t' ts ih=>
     have:=jE hd;rcases PJ.mp ht with rfl |ht
     ·exact this.1
     ·exact ih this.2 ht
   rcases q with⟨h',rfl⟩ |⟨v,ws,rfl⟩ |⟨v,ws,rfl⟩<;>unfold bO at this<;>exact(nF (nA this)).elim
  refine cZ hb ⟨trivial,ts.length+1,mG (all:=as) hleaf hb rfl p2 (λM' l' s z=>?_) λM' x y s z=>?_⟩
  ·right
   rw[<- z];exact h M' s
  ·right
   rw[<- z];exact h M' s
 |succ d ih=>
  intro ts hd n hn M b o e Q X p h;obtain⟨m,rfl⟩:∃m,n=m+3:=⟨n - 3,by exact PN (nA (nS (n) (3))) (nA (nT (n) (3) (nA hn)))⟩;obtain⟨as,o1,p1,p2,p3,rfl⟩:=p;refine aM (l:=[some (.lst b),some (.int e),none,none]) rfl rfl rfl ?_;have hb:=af p1;right;refine eH ?_;right;have hkid:∀t∈ts,∀us,(∃h,t = .one h us)\/(∃v ws,t = .two v us ws)\/(∃v ws,t = .two v ws us)->gW (m+2) us:=λt ht us q=>by
   have:bO t<=d+1:=by
    clear hb p1 p2 p3 h;induction ts with
    |nil=>cases ht
    |cons t' ts ih=>
     have:=jE hd;rcases PJ.mp ht with rfl |ht
     ·exact this.1
     ·exact ih this.2 ht
   exact ih us (nC this q) _ (by exact nA hn)
  refine cZ hb ⟨trivial,ts.length+1,mG (all:=as) hkid hb rfl p2 (λM' l' s z=>?_) λM' x y s z=>?_⟩
  ·right
   rw[<- z];exact h M' s
  ·right
   rw[<- z];exact h M' s
noncomputable def mT(φ:List T->List T):T->T
 |.leaf i=>.leaf i
 |.one h a=>.one h (φ a)
 |.two v a b=>.two v (φ a) (φ b)
def oO(t:T)(ts:List T):Prop:=(∃h,t = .one h ts)\/(∃v us,t = .two v ts us)\/(∃v us,t = .two v us ts)
theorem PT.yT(e:M a=some (.av (PV h.enc) (.lst b) .none))(p:LT M ts b o1)(n:a∉o1):PT M (.one h ts) a (a::o1):=by
 (refine aX p λas o2 p1 p2 p3 q5q=>?_;obtain rfl:=q5q)
 unfold PT;exact⟨b,as,o2,e,p1,p2,λq=>n (.tail _ q),p3,rfl⟩
theorem PT.OI(e:M a=some (.av (PV [4,jq v]) (.lst b) (.lst d)))(p:LT M ts b o1)(q:LT M us d o2)(n1:a∉o1)(n2:a∉o2)(dj:bN o1 o2):
  ∃o,PT M (.two v ts us) a o/\(∀c,c∈o↔c=a\/c∈o1\/c∈o2):=by
 (refine aX p λas x p1 p2 p3 q5q=>?_;obtain rfl:=q5q)
 (refine aX q λbs y q1 q2 q3 q5q=>?_;obtain rfl:=q5q)
 refine⟨a::b::d::(x++y),?_,λc=>?_⟩
 ·unfold PT
  exact⟨b,as,x,d,bs,y,e,p1,p2,q1,q2,λz=>dj b (by simp) (by simp[z]),λz=>n1 (.tail _ z),λz=>n2 (.tail _ z),p3,λz=>dj b (by simp) (by simp[z]),λz=>dj d (by simp[z]) (by simp),q3,λc h1 h2=>dj c (by simp[h1]) (by simp[h2]),rfl⟩
 ·simp only[PJ,P1]
  constructor
  ·rintro (h |h |h |h |h)<;>simp[h]
  ·rintro (h |(h |h) |(h |h))<;>simp[h]
def PB(c:Call)(pb:MS)(x0 x1 x2:Option V)(φ:List T->List T)(ts:List T):Prop:=∀(M:Mem)(q:Nat)(o:List Nat)(P:Fl->Loc->Mem->Prop),LT M ts q o->(∀M' o',LT M' (φ ts) q o'->Upd o M o' M'->P .next [x0,x1,x2,some (.lst q)] M')->pb c [x0,x1,x2,some (.lst q)] M P (λ_=>False)
theorem kY(hp:PB c pb x0 x1 x2 φ ts)(p:LT M ts q o)(hit:cS M it k=some (some (.lst q)))(h:∀M' o',LT M' (φ ts) q o'->Upd o M o' M'->ct c (.one 3) pb it m (k+1) [x0,x1,x2,some (.lst q)] M' P):ct c (.one 3) pb it (m+1) k [x0,x1,x2,x3] M P:=
 dY (l1:=[x0,x1,x2,some (.lst q)]) hit rfl (hp M q o _ p λM' o' p' u=>(h M' o' p' u))
theorem jF(p:PT M t a o)(hp:∀ts,oO t ts->PB (aj fns (n+1)) pb x0 x1 (some (.obj a)) φ ts)(h:∀M' o' x,PT M' (mT φ t) a o'->Upd o M o' M'->P .next [x0,x1,some (.obj a),x] M'):
  bX (.one 3) (g5 (dw 14 (ab 2))) pb (aj fns (n+1)) [x0,x1,some (.obj a),x3] M P X:=by
 refine eH ?_;right;induction t using T.casesOn with
 |leaf i=>
  have p':=p;unfold PT at p';refine eK p'.1 (fB p'.1 λr hr=>?_);right;have s:=aH.new (o:=.list (bV .none .none)) hr;right;refine cZ (af ai) ⟨trivial,1,cH ?_ ?_⟩
  ·show(Mem.list? _ _).map _=_
   rw[af ai];rfl
  ·exact h _ o _ (s.pt p) (s.upd o)
 |one hh ts=>
  (refine aX p.lq λb o1 e1 q1 n1 q5q=>?_;obtain rfl:=q5q)
  refine eK e1 (fB e1 λr hr=>?_);right;have hl:(M.set r (.list (bV (.lst b) .none))).list? r=some [.lst b]:=af ai;have s:=aH.new (o:=.list (bV (.lst b) .none)) hr;have hr1:r∉o1:=λz=>q1.alloc r z hr;right;refine cZ hl ⟨trivial,2,kY (hp ts (.inl ⟨hh,rfl⟩)) (s.lt q1) (by show(Mem.list? _ _).map _=_;rw[hl];rfl) λM' o' q' u=>?_⟩;have hl':M'.list? r=some [.lst b]:=by
   rw[<- hl];unfold Mem.list?;rw[u.ext r (by rw[ai];simp) hr1]
  refine cH (by show(Mem.list? _ _).map _=_;rw[hl'];rfl) ?_;have ha:(M.set r (.list (bV (.lst b) .none))) a=some (.av (PV hh.enc) (.lst b) .none):=s.at e1;have ha':M' a=some (.av (PV hh.enc) (.lst b) .none):=(u.ext a (by rw[ha];simp) n1).trans ha;have na:a∉o':=λz=>by
   rcases u.sub a z with z |z
   ·exact n1 z
   ·rw[ha] at z;exact b8 z
  refine h M' (a::o') _ (PT.yT ha' q' na) ?_;have u2:=(s.upd o1).trans u;exact u2.weaken (λc hc=>.inl (by simp[hc])) λc hc=>by
   rcases PJ.mp hc with rfl |hc
   ·exact .inr (.inl (by simp))
   ·exact .inl hc
 |two v ts us=>
  refine cM p.nv λb o1 d o2 e1 q1 q2 n1 n2 n3 n4=>?_;refine eK e1 (fB e1 λr hr=>?_);right;have hl:(M.set r (.list (bV (.lst b) (.lst d)))).list? r=some [.lst b,.lst d]:=af ai;have s:=aH.new (o:=.list (bV (.lst b) (.lst d))) hr;have hr1:r∉o1:=λz=>q1.alloc r z hr;have hr2:r∉o2:=λz=>q2.alloc r z hr;right;refine cZ hl ⟨trivial,3,kY (hp ts (.inr (.inl ⟨v,us,rfl⟩))) (s.lt q1) (by show(Mem.list? _ _).map _=_;rw[hl];rfl) λM1 o1' q1' u1=>?_⟩;have hl1:M1.list? r=some [.lst b,.lst d]:=by
   rw[<- hl];unfold Mem.list?;rw[u1.ext r (by rw[ai];simp) hr1]
  have hr1':r∉o1':=λz=>by
   rcases u1.sub r z with z |z
   ·exact hr1 z
   ·rw[ai] at z;exact b8 z
  refine xA (u1.apart n3 λc hc=>by rw[s c (q2.alloc c hc)];exact q2.alloc c hc) λdj1 keep1=>?_;have q2':LT M1 us d o2:=(s.lt q2).frame keep1;refine kY (hp us (.inr (.inr ⟨v,ts,rfl⟩))) q2' (by show(Mem.list? _ _).map _=_;rw[hl1];rfl) λM2 o2' q2'' u2=>?_;have hl2:M2.list? r=some [.lst b,.lst d]:=by
   rw[<- hl1];unfold Mem.list?;rw[u2.ext r (by rw[aw hl1];simp) hr2]
  refine cH (by show(Mem.list? _ _).map _=_;rw[hl2];rfl) ?_;refine xA (u2.apart dj1.symm q1'.alloc) λdj2 keep2=>?_;have ha:(M.set r (.list (bV (.lst b) (.lst d)))) a=some (.av (PV [4,jq v]) (.lst b) (.lst d)):=s.at e1;have ha1:M1 a=some (.av (PV [4,jq v]) (.lst b) (.lst d)):=(u1.ext a (by rw[ha];simp) n1).trans ha;have ha2:M2 a=some (.av (PV [4,jq v]) (.lst b) (.lst d)):=(u2.ext a (by rw[ha1];simp) n2).trans ha1;have na1:a∉o1':=λz=>by
   rcases u1.sub a z with z |z
   ·exact n1 z
   ·rw[ha] at z;exact b8 z
  have na2:a∉o2':=λz=>by
   rcases u2.sub a z with z |z
   ·exact n2 z
   ·rw[ha1] at z;exact b8 z
  refine aT (PT.OI ha2 (q1'.frame keep2) q2'' na1 na2 dj2.symm) λo' hp' ho'=>?_;refine h M2 o' _ hp' ?_;have v1:Upd o M (o1'++o2++[a]) M1:=((s.upd o1).trans u1).weaken (λc hc=>.inl ((n4 c).mpr (.inr (.inl hc)))) λc hc=>by
   simp only[P1,PL] at hc;rcases hc with(hc |hc) |hc
   ·exact .inl hc
   ·exact .inr (.inl ((n4 c).mpr (.inr (.inr hc))))
   ·exact .inr (.inl ((n4 c).mpr (.inl hc)))
  refine v1.trans (u2.weaken (λc hc=>.inl (by simp[hc])) λc hc=>?_);rcases(ho' c).mp hc with hc |hc |hc
  ·exact .inr (.inl (by simp[hc]))
  ·exact .inr (.inl (by simp[hc]))
  ·exact .inl hc
theorem kC(p:List Int):toD M (k+2) (PV p)=some (.tuple (p.map .int)):=congrArg (WX VX) (Cc p)
theorem wz:qW M (PV p) (PV q)=some (p == q):=(xJ (kC p) (kC q)).trans (congrArg some (ma p q))
theorem zk(h:K (p == q) M):eL .eq (PV p) (PV q) M K:=cw (r:=p == q) wz h
theorem Hm(h:K (!(p == q)) M):eL .ne (PV p) (PV q) M K:=cw (r:=!(p == q)) (by show(qW M (PV p) (PV q)).map _=_;rw[wz];rfl) h
def Ci(c:Call)(body:MS)(x0 x1:Option V)(ψ:T->T)(t:T):Prop:=∀(M:Mem)(a:Nat)(o:List Nat)(x3:Option V)(P:Fl->Loc->Mem->Prop),PT M t a o->(∀M' o' x,PT M' (ψ t) a o'->Upd o M o' M'->P .next [x0,x1,some (.obj a),x] M')->body c [x0,x1,some (.obj a),x3] M P (λ_=>False)
theorem iO{M:Mem}{all:List Nat}(hb:M.list? b=some (all.map .obj))(k:Nat):cS M (.lst b) k=some (all[k]?.map .obj):=by
 show(M.list? b).map _=_;rw[hb,Qj,QE]
theorem Ay{all:List Nat}:∀{us:List T},(∀t∈us,Ci c body (some (.lst b)) x1 ψ t)->∀{M:Mem}{as o:List Nat}{k:Nat}{x2 x3:Option V},M.list? b=some (all.map .obj)->all.drop k=as->bP M us as o->b∉o->
  (∀M' o' x y,bP M' (us.map ψ) as o'->Upd o M o' M'->P .next [some (.lst b),x1,x,y] M')->
  ct c (.one 2) body (.lst b) (us.length+1) k [some (.lst b),x1,x2,x3] M P:=by
 intro us;induction us with
 |nil=>
  intro _ M as o k x2 x3 hb hk p nb h;have p':=p;unfold bP at p'
  (refine xA p' λq0q q1q=>?_;obtain rfl:=q0q;obtain rfl:=q1q)
  refine cH ?_ (h M _ _ _ p (.refl _ _));rw[iO hb,Qp (by have:=congrArg Rl hk;simp at this;exact nA (nS (all.length) (k)) (nQ this))];rfl
 |cons t us ih=>
  intro hB M as o k x2 x3 hb hk p nb h;unfold bP at p
  (refine aQ p λa as' o1 o2 q4q p1 p2 d q8q=>?_;obtain rfl:=q4q;obtain rfl:=q8q)
  have ha:all[k]?=some a:=by rw[<- Q9,hk];rfl
  have hk':all.drop (k+1)=as':=by rw[<- QL,hk];rfl
  refine dY (v:=.obj a) (l1:=[some (.lst b),x1,some (.obj a),x3]) (by rw[iO hb,ha];rfl) rfl ?_;refine hB t (.head _) M a o1 x3 _ p1 λM1 o1' x q1 u1=>?_;refine xA (u1.apart d p2.alloc) λdj keep=>?_;have nb1:b∉o1:=λz=>nb (by simp[z]);have hb1:M1.list? b=some (all.map .obj):=by
   rw[<- hb];unfold Mem.list?;rw[u1.ext b (by rw[aw hb];simp) nb1]
  refine ih (λt' ht=>hB t' (.tail _ ht)) hb1 hk' (p2.frame keep) (λz=>nb (by simp[z])) λM2 o2' x y q2 u2=>?_;refine xA (u2.apart dj.symm q1.alloc) λdj2 keep2=>?_;refine h M2 (o1'++o2') x y ?_ ?_
  ·rw[RX];unfold bP
   exact⟨a,as',o1',o2',rfl,q1.frame keep2,q2,dj2.symm,rfl⟩
  ·have v1:Upd (o1++o2) M (o1'++o2) M1:=u1.weaken (λc hc=>.inl (by simp[hc])) λc hc=>by
    rcases P1.mp hc with hc |hc
    ·exact .inl hc
    ·exact .inr (.inl (by simp[hc]))
   exact v1.trans (u2.weaken (λc hc=>.inl (by simp[hc])) λc hc=>by
    rcases P1.mp hc with hc |hc
    ·exact .inr (.inl (by simp[hc]))
    ·exact .inl hc)
def fR(n k:Nat)(extra:List V)(φ:List T->List T)(ts:List T):Prop:=∀(M:Mem)(b:Nat)(o:List Nat)(Q:V->Mem->Prop)(X:Mem->Prop),LT M ts b o->(∀M' o',LT M' (φ ts) b o'->Upd o M o' M'->Q .none M')->aj fns n k (.lst b::extra) Q X M
theorem EM(ts:List T)(e:Nat):low ts e=ts.map λt=>fz t e:=by
 induction ts with
 |nil=>unfold low;rfl
 |cons t ts ih=>unfold low;rw[ih];rfl
theorem DZ{ks:List Nat}{e:Nat}{R:V->Mem->Prop}(hz:ks.length<=10)(h:∀r,M r=none->R (.lst r) (M.set r (.list ((ks.map λk=>((lw e k:Nat):Int)).map .int)))):
  ∃m,dE c [x0,some (.int e),x2,x3] (bR (aq .gt (ab 4) (ab 1)) (aB .sub (ab 4) (aa (.int 1))) (ab 4)) none (.tup ((ks.map λ(k:Nat)=>(k:Int)).map .int)) (λ_=>False) m 0 [] M R:=by
 refine kx (f:=λv=>match v with |.int k=>.int ((lw e k.toNat:Nat):Int) |v=>v) (λk=>rfl) (λv hv R' hR=>?_) (by simp;unfold bh;exact nA hz) ?_
 ·(refine aT (SH.mp hv) λi hi q2q=>?_;obtain rfl:=q2q)
  (refine aT (SH.mp hi) λk hk q2q=>?_;obtain rfl:=q2q)
  show bR _ _ _ _ [x0,some (.int e),x2,x3,some (.int k)] _ _ _;right;have hR:R' (.int ((lw e k:Nat):Int)) M:=hR;unfold lw at hR;refine aJ (λq=>?_) (λq=>?_)<;>right
  ·have q:=of_decide_eq_true q
   rw[if_pos (by lia)] at hR;rw[show((k - 1:Nat):Int)=(k:Int) - 1 by lia] at hR;exact hR
  ·have q:=of_decide_eq_false q
   rwa [if_neg (by lia)] at hR
 ·have e2:((ks.map λ(k:Nat)=>(k:Int)).map V.int).map (λv=>match v with |.int k=>V.int ((lw e k.toNat:Nat):Int) |v=>v)=(ks.map λk=>((lw e k:Nat):Int)).map .int:=by
   simp[V9,Ui]
  rw[e2];exact ay (by simp;unfold bh;exact nA hz) h
theorem AB:t.cE=[]->mT (λts=>low ts (e+1)) t=fz t e:=by
 induction t using T.casesOn with
 |leaf i=>induction i using I.casesOn<;>first |exact λ_=>rfl |exact λh=>absurd h nofun
 |_=>exact λ_=>rfl
theorem Ac{t:T}:t.cE≠[]->∃i,t = .leaf i:=by
 induction t using T.casesOn with
 |leaf i=>exact λ_=>⟨i,rfl⟩
 |_=>exact λh=>absurd rfl h
theorem yS(i:I):(T.leaf i).cE.length<=10:=by
 induction i using I.casesOn<;>exact QA rfl
theorem DV(i:I):([V.int (T.leaf i).code]:List V).length+(((T.leaf i).cE.map λk=>((lw e k:Nat):Int)).map V.int).length<=bh:=by
 rw[Qc,Qc];exact PH (RZ (yS i) 1) (QA rfl)
theorem JH{i:I}{ts:List T}{P:Prop}(h:oO (.leaf i) ts):P:=by
 rcases h with⟨_,z⟩ |⟨_,_,z⟩ |⟨_,_,z⟩<;>cases z
theorem GG:(T.leaf i).cE≠[]->V.tup ([V.int (T.leaf i).code]++(((T.leaf i).cE.map λk=>((lw e k:Nat):Int)).map .int))=PV (i.low e).enc:=by
 induction i using I.casesOn<;>first |exact λh=>absurd rfl h |exact λ_=>rfl
theorem Al(hN:∀ts,oO t ts->fR (n+2) 20 [.int ((e+1:Nat):Int)] (λts=>low ts (e+1)) ts):Ci (aj fns (n+2)) IG x0 (some (.int e)) (λt=>fz t e) t:=λM a o x3 P p h=>by
 have parts:∀{M:Mem}{t:T}{o:List Nat}{P:Fl->Loc->Mem->Prop},(∀ts,oO t ts->fR (n+2) 20 [.int ((e+1:Nat):Int)] (λts=>low ts (e+1)) ts)->PT M t a o->(∀M' o' x,PT M' (mT (λts=>low ts (e+1)) t) a o'->Upd o M o' M'->P .next [x0,some (.int e),some (.obj a),x] M')->
   bX (.one 3) (g5 (dw 14 (ab 2))) Dw (aj fns (n+2)) [x0,some (.int e),some (.obj a),x3] M P (λ_=>False):=λhN p h=>by
  refine jF p (λts hk M q o P pl h=>?_) h;unfold Dw;right;refine hN ts hk M q o _ _ pl λM' o' p' u=>?_;right;exact h M' o' p' u
 unfold IG;right;refine jW p ?_;right;unfold Fw;refine Hm (q:=[]) ?_;have same:t.cE=[]->(t.cE.map (λ(k:Nat)=>(k:Int)) == [])=true:=λe=>by rw[e];rfl
 by_cases hl:t.cE=[]
 ·refine bB (by rw[same hl];rfl) ?_
  right;refine parts hN p λM' o' x q u=>?_;right;refine h M' o' x ?_ u;show PT M' (fz t e) a o';rw[<- AB hl];exact q
 ·refine cf (by induction hh:t.cE using PI with |nil=>exact absurd hh hl |cons _ _=>rfl) ?_
  obtain⟨i,rfl⟩:=Ac hl
  ·
   have p':=p;unfold PT at p'
   (refine xA p' λe1 q1q=>?_;obtain rfl:=q1q)
   right;refine aO p ?_;right;refine fH ?_;right;refine jW p ?_;right;refine⟨trivial,DZ (ks:=(T.leaf i).cE) (e:=e) (yS i) λr hr=>?_⟩;right;refine I4 (af ai) ?_;right;refine BG (DV i) ?_;right;have ha:r≠a:=λz=>by rw[z,e1] at hr;exact b8 hr
   have e2:(M.set r (.list (((T.leaf i).cE.map λk=>((lw e k:Nat):Int)).map .int))) a=some (.av (PV i.enc) .none .none):=(aA (Qu ha)).trans e1;refine Aw e2 ?_;right;rw[GG hl];have q:PT (((M.set r (.list (((T.leaf i).cE.map λk=>((lw e k:Nat):Int)).map .int)))).set a (.av (PV (i.low e).enc) .none .none)) (fz (.leaf i) e) a [a]:=by
    unfold fz PT;exact⟨ai,rfl⟩
   refine parts (λts hk=>JH (i:=i.low e) hk) q λM' o' x q' u=>?_
   ·right
    refine h M' o' x q' ?_
    ·exact(((aH.new hr).upd [a]).trans (Upd.put (by simp))).trans u
theorem ko(hd:dep us<=d+1)(ht:t∈us)(hk:oO t ts):dep ts<=d:=by
 have:bO t<=d+1:=by
  induction us with
  |nil=>cases ht
  |cons t' us ih=>
   have:=jE hd;rcases PJ.mp ht with rfl |ht
   ·exact this.1
   ·exact ih this.2 ht
 exact nC this hk
theorem iS(hd:dep us<=0)(ht:t∈us)(hk:oO t ts):False:=by
 have:bO t<=0:=by
  induction us with
  |nil=>cases ht
  |cons t' us ih=>
   have:=jE hd;rcases PJ.mp ht with rfl |ht
   ·exact this.1
   ·exact ih this.2 ht
 rcases hk with⟨h',rfl⟩ |⟨v,ws,rfl⟩ |⟨v,ws,rfl⟩<;>unfold bO at this<;>exact nF (nA this)
theorem Bq(hN:∀t∈ts,∀us,oO t us->fR (n+2) 20 [.int ((e+1:Nat):Int)] (λts=>low ts (e+1)) us):fR (n+3) 20 [.int (e:Int)] (λts=>low ts e) ts:=λM b o Q X p h=>by
 (refine aX p λas o1 p1 p2 p3 q5q=>?_;obtain rfl:=q5q)
 refine aM (l:=[some (.lst b),some (.int e),none,none]) rfl rfl rfl ?_;have hb:=af p1;right;refine eH ?_;right;refine cZ hb ⟨trivial,ts.length+1,Ay (all:=as) (ψ:=λt=>fz t e) (λt ht=>Al (hN t ht)) hb rfl p2 p3 λM' o' x y q u=>?_⟩;right;have nb:b∉o':=λz=>by
  rcases u.sub b z with z |z
  ·exact p3 z
  ·rw[p1] at z;exact b8 z
 refine h M' (b::o') ⟨as,o',(u.ext b (by rw[p1];simp) p3).trans p1,by show bP M' (low ts e) _ _;rw[EM];exact q,nb,rfl⟩ ?_;exact u.weaken (λc hc=>.inl (by simp[hc])) λc hc=>by
  rcases PJ.mp hc with rfl |hc
  ·exact .inr (.inl (by simp))
  ·exact .inl hc
theorem w_lower:∀(d:Nat)(ts:List T),dep ts<=d->∀n,d+3<=n->∀e:Nat,fR n 20 [.int (e:Int)] (λts=>low ts e) ts:=by
 intro d;induction d with
 |zero=>
  intro ts hd n hn e;obtain⟨m,rfl⟩:∃m,n=m+3:=⟨n - 3,by exact PN (nA (nS (n) (3))) (nA (nT (n) (3) (nA hn)))⟩;exact Bq λt ht us hk=>(iS hd ht hk).elim
 |succ d ih=>
  intro ts hd n hn e;obtain⟨m,rfl⟩:∃m,n=m+3:=⟨n - 3,by exact PN (nA (nS (n) (3))) (nA (nT (n) (3) (nA hn)))⟩;exact Bq λt ht us hk=>ih us (ko hd ht hk) _ (by exact nA hn) _
theorem set_set{M:Mem}:(M.set r x).set r y=M.set r y:=by
 funext b
 unfold Mem.set;split<;>rfl
noncomputable def Bd(M:Mem)(r:Nat)(ps:List (List Int)):Mem:=M.set r (.list (ps.map PV))
theorem fF:(Bd M r ps).list? r=some (ps.map PV):=af ai
theorem Oi:Bd (Bd M r ps) r qs=Bd M r qs:=set_set
theorem IT:(Bd M r ps).set r (.list (ps.map PV++[PV p]))=Bd M r (ps++[p]):=by
 unfold Bd;rw[set_set,Q8];rfl
theorem mS{r c:Nat}{ps:List (List Int)}(h:c≠r):(Bd M r ps) c=M c:=aA h
theorem MO{ps:List (List Int)}(h:M r=some (.list (ps.map PV))):Bd M r ps=M:=by
 funext c
 by_cases e:c=r
 ·rw[e,h];exact ai
 ·exact mS e
def um(n:Nat)(ts:List T):Prop:=∀(M:Mem)(b:Nat)(o:List Nat)(r:Nat)(ps:List (List Int))(Q:V->Mem->Prop)(X:Mem->Prop),LT M ts b o->r∉o->ps.length+(flat ts).length<=bh->Q .none (Bd M r (ps++flat ts))->aj fns n 17 [.lst b,.lst r] Q X (Bd M r ps)
theorem jK(hv:v=PV p)(z:ps.length<=bh)(h:Q .none (Bd M r (ps++[p]))):nV r v (Bd M r ps) Q:=by
 subst hv;right
 try refine fv fF (by rwa [Qc]) ?_
 rw[IT];exact h
theorem AV(hN:∀ts,oO t ts->um n ts)(p:PT M t a o)(hr:r∉o)(hz:ps.length+(eT t).length<=bh)(h:P .next [x0,some (.lst r),some (.obj a)] (Bd M r (ps++eT t))):
  EB (aj fns n) [x0,some (.lst r),some (.obj a)] (Bd M r ps) P X:=by
 have ne:∀c∈o,c≠r:=λc hc e=>hr (e ▸ hc);unfold EB;right;refine kD fF ?_;right;induction t using T.casesOn with
 |leaf i=>
  unfold PT at p
  (refine xA p λe1 q1q=>?_;obtain rfl:=q1q)
  have e2:∀qs,(Bd M r qs) a=some (.av (PV i.enc) .none .none):=λqs=>(mS (ne a (by simp))).trans e1
  try refine gz (e2 _) ?_
  right;refine jK rfl (by exact nA hz) ?_;right
  try refine i3 (e2 _) ?_
  right;unfold eT at h;exact h
 |one hh ts=>
  (refine aX p.lq λb o1 e1 q1 n1 q5q=>?_;obtain rfl:=q5q)
  have e2:∀qs,(Bd M r qs) a=some (.av (PV hh.enc) (.lst b) .none):=λqs=>(mS (ne a (by simp))).trans e1;unfold eT at h hz;simp only[QY,PS,U1] at hz
  try refine gz (e2 _) ?_
  right;refine jK rfl (by exact nA hz) ?_;right
  try refine i3 (e2 _) ?_
  right
  try refine i3 (e2 _) ?_
  right;refine hN ts (.inl ⟨hh,rfl⟩) M b o1 r _ _ _ q1 (λz=>hr (by simp[z])) (by simp;exact nA hz) ?_;right
  try refine kh (e2 _) ?_
  right;refine kD fF ?_;right;refine jK (p:=[11]) rfl (by simp;exact nA hz) ?_;right;have e:ps++[hh.enc]++flat ts++[[11]]=ps++hh.enc::(flat ts++[[11]]):=by simp
  rw[e];exact h
 |two v ts us=>
  refine cM p.nv λb o1 d o2 e1 q1 q2 n1 n2 n3 n4=>?_;have e2:∀qs,(Bd M r qs) a=some (.av (PV [4,jq v]) (.lst b) (.lst d)):=λqs=>(mS (ne a ((n4 a).mpr (.inl rfl)))).trans e1;unfold eT at h hz;simp only[QY,PS,U1] at hz
  try refine gz (e2 _) ?_
  right;refine jK rfl (by exact nA hz) ?_;right
  try refine i3 (e2 _) ?_
  right
  try refine i3 (e2 _) ?_
  right;refine hN ts (.inr (.inl ⟨v,us,rfl⟩)) M b o1 r _ _ _ q1 (λz=>hr ((n4 r).mpr (.inr (.inl z)))) (by simp;exact nA hz) ?_;right
  try refine kh (e2 _) ?_
  right;refine kD fF ?_;right;refine jK (p:=[5]) rfl (by simp;exact nA hz) ?_;right
  try refine kh (e2 _) ?_
  right;refine hN us (.inr (.inr ⟨v,ts,rfl⟩)) M d o2 r _ _ _ q2 (λz=>hr ((n4 r).mpr (.inr (.inr z)))) (by simp;exact nA hz) ?_;right;refine kD fF ?_;right;refine jK (p:=[11]) rfl (by simp;exact nA hz) ?_;right;have e:ps++[[4,jq v]]++flat ts++[[5]]++flat us++[[11]]=ps++[4,jq v]::(flat ts++[5]::(flat us++[[11]])):=by simp
  rw[e];exact h
theorem DK(hbr:b≠r){all:List Nat}(hb:M.list? b=some (all.map .obj)):∀{us:List T},(∀t∈us,∀ts,oO t ts->um n ts)->∀{as o:List Nat}{k:Nat}{x2:Option V}{ps:List (List Int)},all.drop k=as->bP M us as o->r∉o->ps.length+(flat us).length<=bh->
  (∀y,P .next [some (.lst b),some (.lst r),y] (Bd M r (ps++flat us)))->ct (aj fns n) (.one 2) EB (.lst b) (us.length+1) k [some (.lst b),some (.lst r),x2] (Bd M r ps) P:=by
 intro us;induction us with
 |nil=>
  intro _ as o k x2 ps hk p nr hz h;unfold bP at p
  (refine xA p λq0q q1q=>?_;obtain rfl:=q0q;obtain rfl:=q1q)
  have hb':(Bd M r ps).list? b=some (all.map .obj):=by rw[<- hb];unfold Mem.list?;rw[mS hbr]
  refine cH ?_ (by have:=h x2;simpa [flat] using this);rw[iO hb',Qp (by have:=congrArg Rl hk;simp at this;exact nA (nS (all.length) (k)) (nQ this))];rfl
 |cons t us ih=>
  intro hN as o k x2 ps hk p nr hz h;unfold bP at p
  (refine aQ p λa as' o1 o2 q4q p1 p2 d q8q=>?_;obtain rfl:=q4q;obtain rfl:=q8q)
  have ha:all[k]?=some a:=by rw[<- Q9,hk];rfl
  have hk':all.drop (k+1)=as':=by rw[<- QL,hk];rfl
  have hb':(Bd M r ps).list? b=some (all.map .obj):=by rw[<- hb];unfold Mem.list?;rw[mS hbr]
  unfold flat at hz h;rw[PS] at hz;refine dY (v:=.obj a) (l1:=[some (.lst b),some (.lst r),some (.obj a)]) (by rw[iO hb',ha];rfl) rfl ?_;refine AV (hN t (.head _)) p1 (λz=>nr (by simp[z])) (by exact nA hz) ?_;refine ih (λt' ht=>hN t' (.tail _ ht)) hk' p2 (λz=>nr (by simp[z])) (by rw[PS];exact nA hz) λy=>?_;rw[PX];exact h y
theorem De(hN:∀t∈ts,∀us,oO t us->um n us):um (n+1) ts:=λM b o r ps Q X p nr hz h=>by
 (refine aX p λas o1 p1 p2 p3 q5q=>?_;obtain rfl:=q5q)
 refine aM (l:=[some (.lst b),some (.lst r),none]) rfl rfl rfl ?_;have hbr:b≠r:=λe=>nr (by simp[e]);have hb:=af p1;have hb':(Bd M r ps).list? b=some (as.map .obj):=by rw[<- hb];unfold Mem.list?;rw[mS hbr]
 right;refine eH ?_;right;refine cZ hb' ⟨trivial,ts.length+1,DK hbr (all:=as) hb hN rfl p2 (λz=>nr (by simp[z])) hz λy=>?_⟩;right;exact h
theorem Kp:∀(d:Nat)(ts:List T),dep ts<=d->∀n,d+1<=n->um n ts:=by
 intro d;induction d with
 |zero=>
  intro ts hd n hn;obtain⟨m,rfl⟩:∃m,n=m+1:=⟨n - 1,by exact PN (nA (nS (n) (1))) (nA (nT (n) (1) (nA hn)))⟩;exact De λt ht us hk=>(iS hd ht hk).elim
 |succ d ih=>
  intro ts hd n hn;obtain⟨m,rfl⟩:∃m,n=m+1:=⟨n - 1,by exact PN (nA (nS (n) (1))) (nA (nT (n) (1) (nA hn)))⟩;exact De λt ht us hk=>ih us (ko hd ht hk) _ (by exact nA hn)
theorem qj(hd:dep ts<=d)(hn:d+2<=n)(p:LT M ts b o)(hz:(flat ts).length<=1000)(h:∀r,M r=none->Q (.lst r) (Bd M r (flat ts++[[11]]))):aj fns n 18 [.lst b] Q X M:=by
 obtain⟨m,rfl⟩:∃m,n=m+1:=⟨n - 1,by exact PN (nA (nS (n) (1))) (nA (nT (n) (1) (nA hn)))⟩;refine aM (l:=[some (.lst b),none]) rfl rfl rfl ?_;right;refine ay (by decide) λr hr=>?_;right;have nr:r∉o:=λz=>p.alloc r z hr;show aj fns m 17 [.lst b,.lst r] _ _ (Bd M r []);refine Kp d ts hd m (by exact nA hn) M b o r [] _ _ p nr (by simp;unfold bh;exact nA hz) ?_;right;refine kD fF ?_;right;refine jK (p:=[11]) rfl (by simp;unfold bh;exact nA hz) ?_;right;exact h r hr
theorem LT.head(p:LT M ts b o):b∈o:=by
 (refine aX p λas o1 p1 p2 p3 q5q=>?_;obtain rfl:=q5q);simp
theorem LT.at(p:LT M ts b o):∃as:List Nat,M.list? b=some (as.map .obj)/\as.length=ts.length:=by
 (refine aX p λas o1 p1 p2 p3 q5q=>?_;obtain rfl:=q5q)
 exact⟨as,af p1,p2.length⟩
theorem Upd.keep(u:Upd o M o' M')(e:M b=some x)(n:b∉o):M' b=some x:=(u.ext b (by rw[e];simp) n).trans e
theorem Upd.hU(u:Upd o M o' M')(e:M.list? b=some vs)(n:b∉o):M'.list? b=some vs:=af (u.keep (aw e) n)
theorem Upd.eI(u:Upd o M o' M')(e:M b≠none)(n:b∉o):b∉o':=λz=>by
 rcases u.sub b z with z |z
 ·exact n z
 ·exact e z
theorem LT.push(p:LT M xs f of)(q:PT M t a o)(d:bN of o):∃as:List Nat,M.list? f=some (as.map .obj)/\as.length=xs.length/\LT (M.set f (.list (as.map .obj++[.obj a]))) (xs++[t]) f (of++o):=by
 (refine aX p λas o1 p1 p2 p3 q5q=>?_;obtain rfl:=q5q)
 refine⟨as,af p1,p2.length,⟨as++[a],o1++o,?_,?_,?_,rfl⟩⟩
 ·rw[ai];simp
 ·refine bP.append (p2.frame λc hc=>aA λe=>p3 (e ▸ hc)) (bZ (q.frame λc hc=>aA λe=>d f (by simp) (e ▸ hc))) λc h=>d c (by simp[h])
 ·intro z
  rcases P1.mp z with z |z
  ·exact p3 z
  ·exact d f (by simp) z
def k8(c:Call)(rest:List MS)(σ:List T->T->List T)(B D:Nat):Prop:=∀(M:Mem)(b f a:Nat)(x3:Option V)(xs:List T)(t:T)(of o:List Nat)(P:Fl->Loc->Mem->Prop),LT M xs f of->PT M t a o->bN of o->mu xs+eh t<=B->bO t<=D->
 (∀M' of',LT M' (σ xs t) f of'->Upd (of++o) M of' M'->P .next [some (.lst b),some (.lst f),some (.obj a),x3] M')->ae rest c [some (.lst b),some (.lst f),some (.obj a),x3] M P (λ_=>False)
def sq(F:Nat):MS:=bX (.one 3) (g5 (dw 14 (ab 2))) (ae [bj (ah F [(ab 3)])])
def Kx(F:Nat)(rest:List MS):MS:=ae (sq F::rest)
def me(F:Nat)(rest:List MS):MS:=ae [aV 1 (aG []),bX (.one 2) (g5 (ab 0)) (Kx F rest),aZ (ab 0) none none (ab 1)]
theorem xe(p:PT M t a o)(hN:∀ts,oO t ts->fR (n+1) F [] φ ts)(h:∀M' o' x,PT M' (mT φ t) a o'->Upd o M o' M'->P .next [x0,x1,some (.obj a),x] M'):sq F (aj fns (n+1)) [x0,x1,some (.obj a),x3] M P X:=by
 unfold sq;refine jF p (λts hk M q o P pl h=>?_) h;right;refine hN ts hk M q o _ _ pl λM' o' p' u=>?_;right;exact h M' o' p' u
theorem AF(σ:List T->T->List T)(t:T):eX σ t=mT (qn σ) t:=by
 induction t using T.casesOn with
 |leaf i=>unfold eX;rfl
 |one h a=>unfold eX;rfl
 |two v a b=>unfold eX;rfl
theorem Dc(tame:Tame σ)(hσ:k8 (aj fns (n+1)) rest σ B D){all:List Nat}:∀{us:List T},(∀t∈us,∀ts,oO t ts->fR (n+1) F [] (qn σ) ts)->dep us<=D->
  ∀{M:Mem}{acc:List T}{of as o:List Nat}{k:Nat}{x2 x3:Option V},M.list? b=some (all.map .obj)->all.drop k=as->LT M acc f of->bP M us as o->bN of o->b∉of->b∉o->mu acc+mu us<=B->
  (∀M' of' x y,LT M' (gV σ acc us) f of'->Upd (of++o) M of' M'->P .next [some (.lst b),some (.lst f),x,y] M')->
  ct (aj fns (n+1)) (.one 2) (Kx F rest) (.lst b) (us.length+1) k [some (.lst b),some (.lst f),x2,x3] M P:=by
 intro us;induction us with
 |nil=>
  intro _ _ M acc of as o k x2 x3 hb hk pf p d nb1 nb2 hB h;unfold bP at p
  (refine xA p λq0q q1q=>?_;obtain rfl:=q0q;obtain rfl:=q1q)
  refine cH ?_ (h M of _ _ (by unfold gV;exact pf) ((Upd.refl _ _).weaken (λc hc=>.inl hc) λc hc=>.inr (.inl (by simpa using hc))));rw[iO hb,Qp (by have:=congrArg Rl hk;simp at this;exact nA (nS (all.length) (k)) (nQ this))];rfl
 |cons t us ih=>
  intro hN hD M acc of as o k x2 x3 hb hk pf p d nb1 nb2 hB h;unfold bP at p
  (refine aQ p λa as' o1 o2 q4q p1 p2 d12 q8q=>?_;obtain rfl:=q4q;obtain rfl:=q8q)
  have ha:all[k]?=some a:=by rw[<- Q9,hk];rfl
  have hk':all.drop (k+1)=as':=by rw[<- QL,hk];rfl
  have hd1:=jE hD;rw[bY] at hB;refine dY (v:=.obj a) (l1:=[some (.lst b),some (.lst f),some (.obj a),x3]) (by rw[iO hb,ha];rfl) rfl ?_;show ae (sq F::rest) _ _ _ _ _;refine b0 ?_;refine xe p1 (hN t (.head _)) λM1 o1' x q1 u1=>bq ?_;rw[<- AF] at q1;have nb_o1:b∉o1:=λz=>nb2 (by simp[z]);refine xA (u1.apart (p:=o2) d12 p2.alloc) λda keepa=>?_;refine xA (u1.apart (p:=of) (λc h1 h2=>d c h2 (by simp[h1])) pf.alloc) λdb keepb=>?_;have hb1:=u1.hU hb nb_o1;have nb_o1':b∉o1':=u1.eI (by rw[aw hb];simp) nb_o1;have tm:=(gS tame).1 t;refine hσ M1 b f a _ acc (eX σ t) of o1' _ (pf.frame keepb) q1 db.symm (by exact nA hB (nA tm.1)) (by exact nA tm.2 (nA hd1.1)) λM2 of2 pf2 u2=>?_;have dofo2:bN (of++o1') o2:=λc h1 h2=>by
   rcases P1.mp h1 with h1 |h1
   ·exact d c h1 (by simp[h2])
   ·exact da c h1 h2
  refine xA (u2.apart dofo2 (p2.frame keepa).alloc) λd2 keep2=>?_;have nb_2:b∉of++o1':=λz=>by
   rcases P1.mp z with z |z
   ·exact nb1 z
   ·exact nb_o1' z
  have hb2:=u2.hU hb1 nb_2;have nb_of2:b∉of2:=u2.eI (by rw[aw hb1];simp) nb_2;refine ih (λt' ht=>hN t' (.tail _ ht)) hd1.2 hb2 hk' pf2 ((p2.frame keepa).frame keep2) d2 nb_of2 (λz=>nb2 (by simp[z])) ?_ λM3 of3 x' y' pf3 u3=>?_
  ·have:=(tame acc (eX σ t)).1
   exact nA this (nA hB (nA tm.1))
  ·refine h M3 of3 x' y' (by unfold gV;exact pf3) ?_
   have v1:Upd (of++(o1++o2)) M (of++o1'++o2) M1:=u1.weaken (λc hc=>.inl (by simp[hc])) λc hc=>by
    simp only[P1] at hc;rcases hc with(hc |hc) |hc
    ·exact .inr (.inl (by simp[hc]))
    ·exact .inl hc
    ·exact .inr (.inl (by simp[hc]))
   have v2:Upd (of++o1'++o2) M1 (of2++o2) M2:=u2.weaken (λc hc=>.inl (QW _ hc)) λc hc=>by
    rcases P1.mp hc with hc |hc
    ·exact .inl hc
    ·exact .inr (.inl (by simp[hc]))
   exact(v1.trans v2).trans u3
theorem Ab(xs ys:List V):cu xs ys none none=ys:=by
 unfold cu;simp
theorem r8(hf:fns F=some ⟨1,4,me F rest⟩)(tame:Tame σ)(hz:B<=400000)(hσ:k8 (aj fns (n+1)) rest σ B D)(hd:dep ts<=D)(hm:mu ts<=B)(hN:∀t∈ts,∀us,oO t us->fR (n+1) F [] (qn σ) us):fR (n+2) F [] (qn σ) ts:=λM b o Q X p h=>by
 (refine aX p λas o1 p1 p2 p3 q5q=>?_;obtain rfl:=q5q)
 refine aM (l:=[some (.lst b),none,none,none]) hf rfl rfl ?_;unfold me;have hb:=af p1;right;refine ay (by decide) λf hf=>?_;right;have ne:b≠f:=λe=>by rw[<- e,p1] at hf;exact b8 hf
 have s:=aH.new (o:=.list []) hf;have pf:LT (M.set f (.list [])) [] f [f]:=⟨[],[],ai,dh,by simp,rfl⟩;refine eH ?_;right;have nf:f∉o1:=λz=>p2.alloc f z hf;right;refine cZ (s.list hb) ⟨trivial,ts.length+1,Dc tame hσ (all:=as) hN hd (s.list hb) rfl pf (s.HA p2) (λc h1 h2=>?_) (by simp[ne]) p3 (by simp[mu];exact hm) λM1 of x y pf1 u=>?_⟩
 ·rw[PL.mp h1] at h2;exact nf h2
 ·right
  have nb:b∉[f]++o1:=by simp[ne];exact p3
  have hb1:=u.hU (s.list hb) nb;have nb1:b∉of:=u.eI (by rw[aw (s.list hb)];simp) nb
  (refine aX pf1 λas1 x1 q1 q2 q3 q5q=>?_;obtain rfl:=q5q)
  have hl1:as1.length<=B:=by
   have e1:=q2.length;have e2:=dk (gV σ [] ts);have e3:=((gS tame).2 ts []).1;simp[mu] at e3;exact nQ e1 (nA e2 (nA e3 (nA hm)))
  have hl0:as.length<=B:=by have e1:=p2.length;have e2:=dk ts;exact nQ e1 (nA e2 (nA hm))
  refine yz hb1 (af q1) ne (by simp;unfold bh;exact nA hl0 (nA hl1 (nK 2 hz))) ?_;right;rw[Ab];have nb2:b∉x1:=λz=>nb1 (by simp[z]);refine h (M1.set b (.list (as1.map .obj))) (b::x1) ⟨as1,x1,ai,q2.frame λc hc=>aA λe=>nb2 (e ▸ hc),nb2,rfl⟩ ?_;have v1:Upd (b::o1) M (b::f::o1) (M.set f (.list [])):=(Upd.new (o:=b::o1) hf).weaken (λc hc=>.inl hc) λc hc=>by
   simp only[PJ] at hc;rcases hc with hc |hc |hc
   ·exact .inr (.inl (by simp[hc]))
   ·exact .inl (by simp[hc])
   ·exact .inr (.inl (by simp[hc]))
  have v2:Upd (b::f::o1) (M.set f (.list [])) (b::f::x1) M1:=u.weaken (λc hc=>.inl (List.mem_cons_of_mem _ (PJ.mpr (by simpa using hc)))) λc hc=>by
   rcases PJ.mp hc with hc |hc
   ·exact .inr (.inl (by simp[hc]))
   ·exact .inl hc
  have v3:Upd (b::f::x1) M1 (b::x1) (M1.set b (.list (as1.map .obj))):=(Upd.put (o:=b::f::x1) (by simp)).weaken (λc hc=>.inl hc) λc hc=>.inl (by
   rcases PJ.mp hc with hc |hc
   ·simp[hc]
   ·simp[hc])
  exact(v1.trans v2).trans v3
theorem mh(hf:fns F=some ⟨1,4,me F rest⟩)(tame:Tame σ)(hz:B<=400000)(hσ:∀n,m<=n->k8 (aj fns (n+1)) rest σ B D):∀(d:Nat),d<=D->∀(ts:List T),dep ts<=d->mu ts<=B->∀n,m+d+2<=n->fR n F [] (qn σ) ts:=by
 have kid_mu:∀{t:T}{us ts:List T},t∈us->oO t ts->mu ts<=mu us:=λ{t us ts} ht hk=>by
  have:eh t<=mu us:=by
   clear hk;induction us with
   |nil=>cases ht
   |cons t' us ih=>
    rw[bY];rcases PJ.mp ht with rfl |ht
    ·exact nZ
    ·have:=ih ht;exact nA this
  rcases hk with⟨h',rfl⟩ |⟨v,ws,rfl⟩ |⟨v,ws,rfl⟩<;>unfold eh at this<;>exact nA this
 intro d;induction d with
 |zero=>
  intro _ ts hd hm n hn;obtain⟨k,rfl⟩:∃k,n=k+2:=⟨n - 2,by exact PN (nA (nS (n) (2))) (nA (nT (n) (2) (nA hn)))⟩;exact r8 hf tame hz (hσ k (by exact nA hn)) (by exact nA hd) hm λt ht us hk=>(iS hd ht hk).elim
 |succ d ih=>
  intro hD ts hd hm n hn;obtain⟨k,rfl⟩:∃k,n=k+2:=⟨n - 2,by exact PN (nA (nS (n) (2))) (nA (nT (n) (2) (nA hn)))⟩;exact r8 hf tame hz (hσ k (by exact nA hn)) (by exact nA hd (nA hD)) hm λt ht us hk=>ih (by exact nA hD) us (ko hd ht hk) (PH (kid_mu ht hk) hm) _ (by exact nA hn)
theorem NI(h:P .next l M):iP c l M P X:=h
theorem NY(h:mu xs<=B):xs.length<=B:=PH (dk xs) h
theorem zd(p:LT M xs f of)(q:PT M t a o)(d:bN of o)(hz:xs.length<=bh)(h:∀M',LT M' (xs++[t]) f (of++o)->Upd (of++o) M (of++o) M'->P .next [x0,some (.lst f),some (.obj a),x3] M'):bj (az (ab 1) (ab 2)) c [x0,some (.lst f),some (.obj a),x3] M P X:=by
 refine j8 (p.push q d) λas e hl p'=>?_;right
 try refine fv e (by rw[Qc,hl];exact hz) ?_
 exact h _ p' (Upd.put (QW _ p.head))
def ro(n k:Nat)(g:List T->Option (List T))(B:Nat):Prop:=∀(M:Mem)(f:Nat)(xs:List T)(of:List Nat)(Q:V->Mem->Prop)(X:Mem->Prop),LT M xs f of->mu xs<=B->
 (∀ys,g xs.reverse=some ys->∀M' of',LT M' ys.reverse f of'->Upd of M of' M'->Q (.bool true) M')->(g xs.reverse=none->∀M',aH M M'->Q (.bool false) M')->aj fns n k [.lst f] Q X M
theorem w9(hg:ro n k g B)(hl:∀{xs ys},g xs=some ys->ys.length < xs.length)(hm:∀{xs ys},g xs=some ys->mu ys<=mu xs):∀(m:Nat){M:Mem}{xs:List T}{of:List Nat},xs.length < m->LT M xs.reverse f of->mu xs<=B->
  (∀M' of',LT M' (fw g m xs).reverse f of'->Upd of M of' M'->P .next [x0,some (.lst f),x2,x3] M')->fj (aj fns n) (kq (ah k [(ab 1)])) (ae [iP]) m [x0,some (.lst f),x2,x3] M P:=by
 intro xs;induction xs with
 |zero=>
  intro M xs of hlt p hB h;exact(nF (nA hlt)).elim
 |succ m ih=>
  intro M xs of hlt p hB h;refine qE ?_;right;refine hg M f _ of _ _ p (by rw[d0];exact hB) (λys e M' of' p' u=>?_) λe M' s=>?_
  ·rw[Qx] at e
   right;right;refine(ih (by have:=hl e;exact nA this (nA hlt)) p' (PH (hm e) hB) λM2 of2 p2 u2=>?_);refine h M2 of2 ?_ (u.trans u2);unfold fw;rw[e];exact p2
  ·rw[Qx] at e
   right;refine h M' of ?_ (s.upd of);unfold fw;rw[e];exact s.lt p
theorem yd(hg:ro n k g B)(hz:B<=bh)(hl:∀{xs ys},g xs=some ys->ys.length < xs.length)(hm:∀{xs ys},g xs=some ys->mu ys<=mu xs):
  k8 (aj fns n) [bj (az (ab 1) (ab 2)),fq (kq (ah k [(ab 1)])) (ae [iP])] (iH g) B D:=λM b f a x3 xs t of o P pf p d hB hD h=>by
 refine b0 ?_;refine zd pf p d (by have:=dk xs;exact nA this (nA hB (nA hz))) λM1 p1 u1=>bq ?_;right;have e:xs++[t]=(t::xs.reverse).reverse:=by simp
 rw[e] at p1;refine⟨xs.length+2,w9 hg hl hm (xs.length+2) (by simp) p1 (by rw[bY,d0];exact nA hB) λM2 of2 p2 u2=>?_⟩;right;exact h M2 of2 p2 (u1.trans u2)
theorem zp{α:Type}{f:α->V}{xs:List α}{k:Nat}{x:α}(hk:xs[k]?=some x):(idx? (-1 - (k:Int)) (xs.reverse.map f).length).bind (λj=>(xs.reverse.map f)[j]?)=some (f x):=by
 have h:=(QJ.mp hk).1;have e:xs.length - 1 - (xs.length - 1 - k)=k/\xs.length - 1 - k < xs.length/\idx? (-1 - (k:Int)) xs.length=some (xs.length - 1 - k):=by
  clear hk;obtain⟨m,e⟩:=Nat.exists_eq_add_of_lt h;rw[e,SX,Nat.add_sub_cancel_left,SX];have e1:-1 - (k:Int)+((k+m+1:Nat):Int)=m:=by omega
  refine⟨rfl,Wa (QX ..),?_⟩;unfold idx?;rw[if_neg (by omega),if_pos (by omega),e1];rfl
 rw[Qc,Qv,e.2.2,QM,QE,List.getElem?_reverse e.2.1,e.1,hk];rfl
theorem qz{zs:List V}(hk:zs.length=k)(h0:0 < k)(hx:zs.head?=some x):(idx? (-(k:Int)) (ys++zs).length).bind (λj=>(ys++zs)[j]?)=some x:=by
 unfold idx?;rw[if_neg (by lia),if_pos (by rw[PS];lia),QM];have:(-(k:Int)+((ys++zs).length:Nat)).toNat=ys.length:=by rw[PS];lia
 rw[this,Rj (PK _),TP];induction zs using PI with
 |nil=>exact bf hx
 |cons z zs=>exact hx
theorem jv{ys:List V}:(idx? (-1) (ys++[x]).length).bind (λj=>(ys++[x])[j]?)=some x:=qz (k:=1) rfl (by decide) rfl
theorem yk{ys:List V}:(idx? (-2) (ys++[x,y]).length).bind (λj=>(ys++[x,y])[j]?)=some x:=qz (k:=2) rfl (by decide) rfl
theorem fp{ys:List V}:(idx? (-1) (ys++[x,y]).length).bind (λj=>(ys++[x,y])[j]?)=some y:=by
 have:=jv (ys:=ys++[x]) (x:=y)
 simpa using this
theorem Hi{ys:List V}:(idx? (-3) (ys++[x,y,z]).length).bind (λj=>(ys++[x,y,z])[j]?)=some x:=qz (k:=3) rfl (by decide) rfl
theorem qK{zs:List V}(hk:zs.length=k)(h0:0 < k):cu (ys++zs) ws (some (-(k:Int))) none=ys++ws:=by
 unfold cu;simp only;have e:bA (-(k:Int)) (ys++zs).length=ys.length:=by
  unfold bA;rw[if_pos (by lia),PS];lia
 rw[e,T4];rw[show max ys.length (ys++zs).length=(ys++zs).length by rw[PS];lia,UE,Qg]
theorem n7:bW (ys++[x]) none (some (-1))=ys:=by
 unfold bW;simp only;have e:bA (-1) (ys++[x]).length=ys.length:=by
  unfold bA;rw[if_pos (by decide),PS];simp only[QY,U1];lia
 rw[e,T4,Ss]
theorem pN(hk:zs.length=k)(h0:0 < k):bW (ys++zs) (some (-(k:Int))) none=zs:=by
 unfold bW;simp only;have e:bA (-(k:Int)) (ys++zs).length=ys.length:=by
  unfold bA;rw[if_pos (by lia),PS];lia
 rw[e,UG,Q6]
theorem uH(hk:zs.length<=k)(h0:0 < k):bW zs (some (-(k:Int))) none=zs:=by
 unfold bW;simp only;have e:bA (-(k:Int)) zs.length=0:=by
  unfold bA;rw[if_pos (by lia)];lia
 rw[e,UG,Ss]
structure View (M:Mem) (f:Nat) (of:List Nat) (ys zs:List T) (as an oy oz:List Nat):Prop where
 list:M.list? f=some (as.map .obj++an.map .obj)
 py:bP M ys as oy
 pz:bP M zs an oz
 dj:bN oy oz
 ny:f∉oy
 nz:f∉oz
 own:of=f::(oy++oz)
theorem LT.view(p:LT M (ys++zs) f of):∃as an oy oz,View M f of ys zs as an oy oz:=by
 (refine aX p λall o1 p1 p2 p3 q5q=>?_;obtain rfl:=q5q)
 (refine aQ p2.split λas an oy oz q4q q5q q1 q2 q3=>?_;obtain rfl:=q4q;obtain rfl:=q5q)
 exact⟨as,an,oy,oz,⟨by rw[af p1,Q8],q1,q2,q3,λz=>p3 (by simp[z]),λz=>p3 (by simp[z]),rfl⟩⟩
theorem bP.two(p:bP M [u,t] an oz):∃a1 a2 o1 o2,an=[a1,a2]/\PT M u a1 o1/\PT M t a2 o2/\bN o1 o2/\oz=o1++o2:=by
 unfold bP at p
 (refine aQ p λa as' o1 o2 q4q p1 p2 p3 q8q=>?_;obtain rfl:=q4q;obtain rfl:=q8q)
 unfold bP at p2
 (refine aQ p2 λb bs o3 o4 q4q q1 q2 q3 q8q=>?_;obtain rfl:=q4q;obtain rfl:=q8q)
 unfold bP at q2
 (refine xA q2 λq0q q1q=>?_;obtain rfl:=q0q;obtain rfl:=q1q)
 exact⟨a,b,o1,o3,rfl,p1,q1,λc h=>by have:=p3 c h;simpa using this,by simp⟩
theorem bP.three(p:bP M [w,u,t] an oz):∃a0 a1 a2 o0 o1 o2,an=[a0,a1,a2]/\PT M w a0 o0/\PT M u a1 o1/\PT M t a2 o2/\bN o0 o1/\bN o0 o2/\bN o1 o2/\oz=o0++(o1++o2):=by
 unfold bP at p
 (refine aQ p λa as' o1 o2 q4q p1 p2 p3 q8q=>?_;obtain rfl:=q4q;obtain rfl:=q8q)
 (refine aQ p2.two λa1 a2 x1 x2 q4q q1 q2 q3 q8q=>?_;obtain rfl:=q4q;obtain rfl:=q8q)
 exact⟨a,a1,a2,o1,x1,x2,rfl,p1,q1,q2,λc h=>by have:=p3 c h;simp at this;exact this.1,λc h=>by have:=p3 c h;simp at this;exact this.2,q3,rfl⟩
theorem View.tK(v:View M0 f of ys zs as an oy oz)(s:aH M0 M1)(pn:bP M1 ns am om)(hn:∀c∈om,c∈oz\/M0 c=none):
  LT (M1.set f (.list (as.map .obj++am.map .obj))) (ys++ns) f (f::(oy++om))/\Upd of M0 (f::(oy++om)) (M1.set f (.list (as.map .obj++am.map .obj))):=by
 have hf:M0 f≠none:=by rw[aw v.list];simp
 have nf:f∉om:=λz=>by
  rcases hn f z with z |z
  ·exact v.nz z
  ·exact hf z
 have dj:bN oy om:=λc h1 h2=>by
  rcases hn c h2 with z |z
  ·exact v.dj c h1 z
  ·exact v.py.alloc c h1 z
 refine⟨⟨as++am,oy++om,by rw[ai,Q8],?_,?_,rfl⟩,?_⟩
 ·exact bP.append ((s.HA v.py).frame λc hc=>aA λe=>v.ny (e ▸ hc)) (pn.frame λc hc=>aA λe=>nf (e ▸ hc)) dj
 ·intro z
  rcases P1.mp z with z |z
  ·exact v.ny z
  ·exact nf z
 ·have hof:=v.own
  refine⟨λc h1 h2=>?_,λc hc=>?_⟩
  ·exact(aA λe=>h2 (by rw[e,hof];simp)).trans (s c h1)
  ·rw[hof]
   rcases PJ.mp hc with rfl |hc
   ·exact .inl (by simp)
   ·rcases P1.mp hc with hc |hc
    ·exact .inl (by simp[hc])
    ·rcases hn c hc with z |z
     ·exact .inl (by simp[z])
     ·exact .inr z
theorem View.len(v:View M f of ys zs as an oy oz)(h:mu (ys++zs)<=B):as.length<=B/\as.length=ys.length:=by
 have:=v.py.length;have h2:=dk (ys++zs);rw[PS] at h2;exact⟨nQ this (nA h2 (nA h)),PN (nQ this) (nR this)⟩
theorem dC{M:Mem}{i:I}:PT (M.set r (.av (PV i.enc) .none .none)) (.leaf i) r [r]:=by
 unfold PT;exact⟨ai,rfl⟩
theorem ja{f r k:Nat}{of:List Nat}{zs:List T}{as an oy oz am om:List Nat}(v:View M0 f of ys zs as an oy oz)(s:aH M0 M)(hr:M.list? r=some (am.map .obj))(hr0:M0 r=none)(pn:bP M ns am om)(hn:∀c∈om,c∈oz\/M0 c=none)(hk:zs.length=k)(h0:0 < k){B:Nat}(hB:mu (ys++zs)<=B)(hz:B<=400000)(hm:am.length<=10){lo:Int}(hlo:lo = -(k:Int))(h:∀M' of',LT M' (ys++ns) f of'->Upd of M0 of' M'->P .next l M'):Ih f r (some lo) none l M P:=by
 have hl:=s.list v.list;have hlen:=v.len hB;have han:=v.pz.length;have ne:f≠r:=λe=>by
  have:=aw v.list;rw[e,hr0] at this;exact bf this
 subst hlo;refine yz hl hr ne (by simp;unfold bh;have:=hlen.1;have:=dk (ys++zs);rw[PS] at this;exact nQ han (nA hm (nQ hlen.2 (nA this (nA hB (nA hz)))))) ?_;rw[qK (by rw[Qc,han];exact hk) h0];refine xA (v.tK s pn hn) λq1 q2=>?_;exact h _ _ q1 q2
theorem g6{M:Mem}(h:M r=none)(h2:(M.set r x) r2=none):aH M ((M.set r x).set r2 y):=(aH.new h).trans (aH.new h2)
theorem ik{M:Mem}(h2:(M.set r x) r2=none):r2≠r:=λe=>by rw[e,ai] at h2;exact b8 h2
theorem cO{M:Mem}(h2:(M.set r x) r2=none):M r2=none:=by rwa [aA (ik h2)] at h2
theorem iT{f k r r2:Nat}{of:List Nat}{zs:List T}{as an oy oz:List Nat}{i:I}(v:View M f of ys zs as an oy oz)(hr:M r=none)(hr2:(M.set r (.av (PV i.enc) .none .none)) r2=none)(hk:zs.length=k)(h0:0 < k){B:Nat}(hB:mu (ys++zs)<=B)(hz:B<=400000){lo:Int}(hlo:lo = -(k:Int))(h:∀M' of',LT M' (ys++[.leaf i]) f of'->Upd of M of' M'->P .next l M'):Ih f r2 (some lo) none l ((M.set r (.av (PV i.enc) .none .none)).set r2 (.list [.obj r])) P:=by
 have n2:=ik hr2;refine ja v (g6 hr hr2) (am:=[r]) (om:=[r]) (af ai) (cO hr2) ?_ (λc hc=>?_) hk h0 hB hz (by simp) hlo h
 ·exact bZ (dC.frame λc hc=>by rw[PL.mp hc];exact aA (Qu n2))
 ·rw[PL.mp hc];exact .inr hr
theorem pS(t:T):([32,35,65,66,63,64528,208,210]:List Int).any (λy=>y == t.code)=lN t:=by
 induction t using T.casesOn with
 |leaf i=>induction i using I.casesOn<;>rfl
 |one h a=>induction h using H.casesOn<;>rfl
 |two v a b=>rfl
theorem o8{x:fX}(p:LT M (ys++[.leaf (.cst x),.leaf .sel]) f of)(hB:mu (ys++[.leaf (.cst x),.leaf .sel])<=B)(hz:B<=400000)(h1:x.i≠0->∀M' of',LT M' (ys++[.leaf .drop]) f of'->Upd of M of' M'->Q (.bool true) M')(h2:¬ x.i≠0->∀zs w,ys=zs++[w]->lN w=true->∀M' of',LT M' (zs++[.leaf .drop,w]) f of'->Upd of M of' M'->Q (.bool true) M')(h3:¬ x.i≠0->(∀zs w,ys=zs++[w]->lN w=false)->∀M',aH M M'->Q (.bool false) M'):aj fns (n+2) 29 [.lst f,.int x.i] Q X M:=by
 refine aM (l:=[some (.lst f),some (.int x.i)]) rfl rfl rfl ?_;right;refine aJ (λq=>?_) (λq=>?_)<;>right
 ·have q:x.i≠0:=by simpa using q
  refine f9 p.view λas an oy oz v=>?_;intro r hr;right;refine ay (by simp[bh]) λr2 hr2=>?_;right;refine iT (i:=.drop) v hr hr2 rfl (by simp) hB hz rfl λM' of' p' u=>?_;right;exact h1 q M' of' p' u
 ·have q:¬ x.i≠0:=by simpa using q
  refine aT p.at λeQ hl0 hlen0=>?_;right
  try refine jH hl0 ?_
  right;rcases QB ys with rfl |⟨zs,w,rfl⟩
  ·refine bB (by simp at hlen0;simp[hlen0]) ?_
   right;exact h3 q (λzs w e=>by simp at e) M (.refl M)
  ·refine cf (by simp at hlen0;simp[hlen0];exact iA (Qe (zs.length))) ?_
   have e3:zs.concat w++[.leaf (.cst x),.leaf .sel]=zs++[w,.leaf (.cst x),.leaf .sel]:=by simp
   rw[e3] at p hB;refine f9 p.view λas an oy oz v=>?_
   (refine iD v.pz.three λa0 a1 a2 o0 o1 o2 q6q p0 p1 p2 d01 d02 d12 q13q=>?_;obtain rfl:=q6q;obtain rfl:=q13q)
   have hl:M.list? f=some (as.map .obj++[.obj a0,.obj a1,.obj a2]):=v.list;right;refine aY hl Hi ?_;right;refine aO p0 ?_;right
   try refine bJ [32,35,65,66,63,64528,208,210] ?_
   rw[pS];right;refine aJ (λz=>?_) (λz=>?_)<;>right
   ·intro r hr
    have s:=aH.new (o:=.av (PV [26]) .none .none) hr;right;refine aY (s.list hl) Hi ?_;right;refine ay (by simp[bh]) λr2 hr2=>?_;right;have n2:=ik hr2;refine ja v (g6 hr hr2) (am:=[r,a0]) (om:=r::o0) (ns:=[.leaf .drop,w]) (af ai) (cO hr2) ?_ (λc hc=>?_) rfl (by simp) hB hz (by simp) rfl λM' of' p' u=>?_
    ·unfold bP
     refine⟨r,[a0],[r],o0,rfl,?_,bZ (((s.trans (aH.new hr2)).pt p0)),λc hc hc2=>?_,rfl⟩
     ·exact(dC (i:=.drop)).frame λc hc=>by rw[PL.mp hc];exact aA (Qu n2)
     ·rw[PL.mp hc] at hc2;exact p0.alloc r hc2 hr
    ·rcases PJ.mp hc with rfl |hc
     ·exact .inr hr
     ·exact .inl (by simp[hc])
    ·right
     exact h2 q zs w (by simp) z M' of' p' u
   ·refine h3 q (λzs' w' e=>?_) M (.refl M)
    have:zs=zs'/\w=w':=by simpa using e
    rw[<- this.2];exact z
theorem fG:[v].length<=bh:=QA rfl
theorem qx:([]:List V).length<=bh:=P4 _
theorem two_pos:0 < 2:=Vl
theorem jh{f k r r2 b:Nat}{of o1:List Nat}{zs:List T}{as an oy oz:List Nat}{v:Bool}(w:View M0 f of ys zs as an oy oz)(s:aH M0 M)(pl:LT M a b o1)(ho:∀c∈o1,c∈oz\/M0 c=none)(hr:M r=none)(hr2:(M.set r (.av (PV [2,jq v]) (.lst b) .none)) r2=none)(hk:zs.length=k)(h0:0 < k){B:Nat}(hB:mu (ys++zs)<=B)(hz:B<=400000){lo:Int}(hlo:lo = -(k:Int))(h:∀M' of',LT M' (ys++[.one (.dg v) a]) f of'->Upd of M0 of' M'->P .next l M'):Ih f r2 (some lo) none l ((M.set r (.av (PV [2,jq v]) (.lst b) .none)).set r2 (.list [.obj r])) P:=by
 have n2:=ik hr2;have s2:=g6 (y:=.list [.obj r]) hr hr2;have hr0:∀{q:Nat},M q=none->M0 q=none:=λ{q} h=>by
  induction e:M0 q using Option.casesOn with
  |none=>rfl
  |some x=>rw[s.at e] at h;exact b8 h
 have nr:r∉o1:=λz=>pl.alloc r z hr;refine ja w (s.trans s2) (am:=[r]) (om:=r::o1) (af ai) (hr0 (cO hr2)) (bZ ?_) (λc hc=>?_) hk h0 hB hz (by simp) hlo h
 ·exact PT.yT (h:=.dg v) ((aA (Qu n2)).trans ai) (s2.lt pl) nr
 ·rcases PJ.mp hc with rfl |hc
  ·exact .inr (hr0 hr)
  ·exact ho c hc
theorem tT{f k r:Nat}{of:List Nat}{zs:List T}{as an oy oz:List Nat}(v:View M f of ys zs as an oy oz)(hr:M r=none)(hk:zs.length=k)(h0:0 < k){B:Nat}(hB:mu (ys++zs)<=B)(hz:B<=400000){lo:Int}(hlo:lo = -(k:Int))(h:∀M' of',LT M' ys f of'->Upd of M of' M'->P .next l M'):Ih f r (some lo) none l (M.set r (.list [])) P:=by
 refine ja v (aH.new hr) (am:=[]) (om:=[]) (ns:=[]) (af ai) hr dh (λc hc=>by cases hc) hk h0 hB hz (by simp) hlo λM' of' p u=>?_
 rw[Qg] at p;exact h M' of' p u
noncomputable def Lv(i:I):Bool:=match i with
 |.sel=>true
 |.b7 _=>true
 |.hW _ _=>true
 |_=>false
noncomputable def fg(t:T):Bool:=match t with
 |.leaf i=>Lv i
 |.one h _=>match h with
  |.iff _=>true
  |_=>false
 |.two _ _ _=>true
theorem uE{P:T->Prop}(h1:P (.leaf .sel))(h2:∀k,P (.leaf (.b7 k)))(h3:∀j k,P (.leaf (.hW j k)))(h4:∀v a,P (.one (.iff v) a))(h5:∀v a b,P (.two v a b))(t:T)(h:fg t=true):P t:=by
 induction t using T.casesOn with
 |leaf i=>induction i using I.casesOn<;>first |exact h1 |exact h2 _ |exact h3 _ _ |exact cy h
 |one hh a=>induction hh using H.casesOn<;>first |exact h4 _ _ |exact cy h
 |two v a b=>exact h5 _ _ _
theorem vq(t:T):([27,28,4,13,14]:List Int).any (λy=>y == t.code)=fg t:=by
 induction t using T.casesOn with
 |leaf i=>induction i using I.casesOn<;>rfl
 |one h a=>induction h using H.casesOn<;>rfl
 |two v a b=>rfl
theorem not_zero{x:fX}(q:(!x.i == 0)=true):x.i≠0:=beq_eq_false_iff_ne.mp (ec q)
theorem rT{x:fX}(q:(!x.i == 0)=false):¬ x.i≠0:=λh=>by rw[beq_eq_false_iff_ne.mpr h] at q;exact jr q
theorem LZ:(ys++[u,t]).reverse=t::u::ys.reverse:=by simp
theorem yK(p:PT M (.leaf i) a o):M a=some (.av (PV i.enc) .none .none):=by unfold PT at p;exact p.1
theorem oJ{f:Nat}{of:List Nat}{ys:List T}{u t:T}(ht:fg t=true){B:Nat}(p:LT M (ys++[u,t]) f of)(hB:mu (ys++[u,t])<=B)(hz:B<=400000)(h1:∀zs,cg (t::u::ys.reverse)=some zs->∀M' of',LT M' zs.reverse f of'->Upd of M of' M'->Q (.bool true) M')(h0:cg (t::u::ys.reverse)=none->∀M',aH M M'->Q (.bool false) M'):aj fns (n+3) 30 [.lst f] Q X M:=by
 rcases dm u with hu |⟨x,rfl⟩
 ·refine aM (l:=[some (.lst f),none,none,none]) rfl rfl rfl ?_
  refine f9 p.view λas an oy oz w=>?_
  (refine aQ w.pz.two λa1 a2 o1 o2 q4q p1 p2 d12 q8q=>?_;obtain rfl:=q4q;obtain rfl:=q8q)
  have hl:M.list? f=some (as.map .obj++[.obj a1,.obj a2]):=w.list;right;refine aY hl fp ?_;right;refine aY hl yk ?_;right;refine fV p1 ?_;rw[hu];right;exact h0 (uF hu) M (.refl M)
 have key:∀zs,cg (t::.leaf (.cst x)::ys.reverse)=some (zs.reverse)->∀M' of',LT M' zs f of'->Upd of M of' M'->Q (.bool true) M':=λzs e M' of' p' u'=>h1 _ e M' of' (by rw[Qx];exact p') u';clear h1;have lf:∀i zs,ys.reverse=zs->(ys++[T.leaf i]).reverse = .leaf i::zs:=λi zs e=>by rw[QO,e];rfl
 refine f9 p.view λas an oy oz w=>?_
 (refine aQ w.pz.two λa1 a2 o1 o2 q4q p1 p2 d12 q8q=>?_;obtain rfl:=q4q;obtain rfl:=q8q)
 have hl:M.list? f=some (as.map .obj++[.obj a1,.obj a2]):=w.list;refine aM (l:=[some (.lst f),none,none,none]) rfl rfl rfl ?_;right;refine aY hl fp ?_;right;refine aY hl yk ?_;right;refine fV p1 ?_;right;clear p1 hl d12;revert p hB h0 key w p2;apply uE (t:=t) (h:=ht)
 ·intro p hB h0 key p2 w
  refine aO p2 ?_;right;right;refine o8 p hB hz (λq M' of' p' u=>?_) (λq zs w' e hw M' of' p' u=>?_) λq hw M' s=>?_
  ·right
   exact key _ ((if_pos q).trans (congrArg some (lf _ _ rfl).symm)) M' of' p' u
  ·right
   subst e;refine key _ ?_ M' of' p' u;rw[QO,QO];exact(if_neg q).trans (if_pos hw)
  ·right
   refine h0 ((if_neg q).trans ?_) M' s;rcases QB ys with rfl |⟨zs,w',rfl⟩
   ·rfl
   ·rw[Tr,QO]
    exact if_neg (by rw[hw zs w' Tr];decide)
 ·intro k p hB h0 key p2 w
  have e2:=yK p2;refine aO p2 ?_;right;right;refine aO p2 ?_;right;refine aO p2 ?_;right;refine aJ (λq=>?_) (λq=>?_)
  ·right
   intro r hr;right;refine ay fG λr2 hr2=>?_;right;refine iT (i:=.br k) w hr hr2 rfl two_pos hB hz rfl λM' of' p' u=>?_;right;exact key _ ((if_pos (not_zero q)).trans (congrArg some (lf _ _ rfl).symm)) M' of' p' u
  ·right
   refine ay qx λr hr=>?_;right;refine tT w hr rfl two_pos hB hz rfl λM' of' p' u=>?_;right;exact key _ (if_neg (rT q)) M' of' p' u
 ·intro j k p hB h0 key p2 w
  have e2:=yK p2;refine aO p2 ?_;right;right;refine aO p2 ?_;right;refine aO p2 ?_;right;refine jW p2 ?_;right;refine Dd ?_;right;intro r hr;right;refine ay fG λr2 hr2=>?_;right;refine iT (i:=.br (if x.i=0 then j else k)) w hr hr2 rfl two_pos hB hz rfl λM' of' p' u=>?_
  right;exact key _ (congrArg some (lf _ _ rfl).symm) M' of' p' u
 ·intro v a p hB h0 key p2 w
  (refine aX p2.lq λb ob e2 q1 n1 q5q=>?_;obtain rfl:=q5q)
  right;refine aO p2 ?_;right;right;refine aO p2 ?_;right;refine aJ (λq=>?_) (λq=>?_)
  ·right
   intro r hr;right;refine ay fG λr2 hr2=>?_;right;refine jh (v:=v) w (.refl M) q1 (λc hc=>.inl (Rp _ (.tail _ hc))) hr hr2 rfl two_pos hB hz rfl λM' of' p' u=>?_;right;refine key _ ?_ M' of' p' u;rw[QO];exact congrArg (λa=>some (T.one (.dg v) a::ys.reverse)) (if_pos (not_zero q))
  ·right
   refine ay qx λr0 hr0=>?_;right;intro r hr;right;refine ay fG λr2 hr2=>?_;right;have pl:LT (M.set r0 (.list [])) [] r0 [r0]:=⟨[],[],ai,dh,P6,rfl⟩;refine jh (v:=v) w (aH.new hr0) pl (λc hc=>by rw[PL.mp hc];exact .inr hr0) hr hr2 rfl two_pos hB hz rfl λM' of' p' u=>?_;right;refine key _ ?_ M' of' p' u;rw[QO];exact congrArg (λa=>some (T.one (.dg v) a::ys.reverse)) (if_neg (rT q))
 ·intro v a b' p hB h0 key p2 w
  refine cM p2.nv λb ob d od e2 q1 q2 n1 n2 n3 n4=>?_;right;refine aO p2 ?_;right;right;refine aO p2 ?_;right;refine aJ (λq=>?_) (λq=>?_)
  ·right
   intro r hr;right;refine ay fG λr2 hr2=>?_;right;refine jh (v:=v) w (.refl M) q1 (λc hc=>.inl (Rp _ ((n4 c).mpr (.inr (.inl hc))))) hr hr2 rfl two_pos hB hz rfl λM' of' p' u=>?_;right;refine key _ ?_ M' of' p' u;rw[QO];exact congrArg (λa=>some (T.one (.dg v) a::ys.reverse)) (if_pos (not_zero q))
  ·right
   intro r hr;right;refine ay fG λr2 hr2=>?_;right;refine jh (v:=v) w (.refl M) q2 (λc hc=>.inl (Rp _ ((n4 c).mpr (.inr (.inr hc))))) hr hr2 rfl two_pos hB hz rfl λM' of' p' u=>?_;right;refine key _ ?_ M' of' p' u;rw[QO];exact congrArg (λa=>some (T.one (.dg v) a::ys.reverse)) (if_neg (rT q))
theorem AO(hi:vB i=true):cg (.leaf i::.leaf (.cst b)::.leaf (.cst a)::r)=(D2 i (wr a.i) (wr b.i)).map λz=>.leaf (.cst (sg z))::r:=
 fO (P:=λi=>cg (.leaf i::.leaf (.cst b)::.leaf (.cst a)::r)=(D2 i (wr a.i) (wr b.i)).map λz=>.leaf (.cst (sg z))::r) rfl rfl rfl hi
theorem EK(hr:∀a r',r≠.leaf (.cst a)::r'):Bn r=none:=by
 induction e:Bn r using Option.casesOn with
 |none=>rfl
 |some a=>refine xE (yB e) λq h=>?_;exact absurd h (hr _ _)
theorem iX(hi:vB i=true)(hr:∀a r',r≠.leaf (.cst a)::r'):cg (.leaf i::.leaf (.cst b)::r)=if b.i=sy i then some r else none:=by
 have k:∀i,mI i b r=if b.i=sy i then some r else none:=λi=>by unfold mI;rw[EK hr]
 exact fO (P:=λi=>cg (.leaf i::.leaf (.cst b)::r)=if b.i=sy i then some r else none) (k _) (k _) (k _) hi
theorem kF(hi:vB i=true\/i = .ic)(hu:cX u = .none):cg (.leaf i::u::r)=none:=uF hu
theorem qd{ks:List Int}(hq:M.list? q=some (ks.map .int))(hz:ks.length<=10)(h:∀r,M r=none->R (.lst r) (M.set r (.list (ks.map λk=>.int (wr k).i)))):
  ∃m,dE (aj fns (n+1)) [x0,x1,some (.int 32),x3,x4,x5] (ah 0 [(ab 6),(ab 2)]) none (.lst q) (λ_=>False) m 0 [] M R:=by
 refine kx (vs:=ks.map .int) (f:=λv=>match v with |.int k=>.int (wr k).i |v=>v) (λk=>?_) (λv hv R' hR=>?_) (by simp;unfold bh;exact nA hz) ?_
 ·show(M.list? q).map _=_
  rw[hq];rfl
 ·(refine aT (SH.mp hv) λk hk q2q=>?_;obtain rfl:=q2q)
  show ah 0 _ _ [x0,x1,some (.int 32),x3,x4,x5,some (.int k)] _ _ _;right;exact gP hR
 ·have e2:(ks.map V.int).map (λv=>match v with |.int k=>V.int (wr k).i |v=>v)=ks.map λk=>.int (wr k).i:=by
   simp[V9,Ui]
  rw[e2];exact ay (by simp;unfold bh;exact nA hz) h
theorem tO{a:fX}(hq:M.list? q=some [.int a.i])(h:∀M' r,aH M M'->M r=none->PT M' (.leaf (.cst (sg (wr (if(wr a.i).i=0 then 1 else 0))))) r [r]->Q (.obj r) M'):aj fns (n+3) 26 [.int 69,.lst q] Q X M:=by
 refine aM (l:=[some (.int 69),some (.lst q),none,none,none,none]) rfl rfl rfl ?_;right;refine lJ (.inl rfl) ?_;right;refine fH ?_;right;refine cZ hq ⟨trivial,qd (ks:=[a.i]) hq (by simp) λr hr=>?_⟩;right;have hl:(M.set r (.list [.int (wr a.i).i])).list? r=some [.int (wr a.i).i]:=af ai;right
 try refine jH hl ?_
 right;refine aY hl rfl ?_;right;refine zM ?_;right;have e:(if(wr a.i).i=0 then(1:Int) else 0)=(wr (if(wr a.i).i=0 then 1 else 0)).i:=by split<;>rfl
 rw[e];refine mA λr2 hr2=>?_;right;exact h _ r2 (g6 hr hr2) (cO hr2) dC
theorem ud(h:vB i=true):(T.leaf i).code=106\/(T.leaf i).code=107\/(T.leaf i).code=110:=
 fO (P:=λi=>(T.leaf i).code=106\/(T.leaf i).code=107\/(T.leaf i).code=110) (.inl rfl) (.inr (.inl rfl)) (.inr (.inr rfl)) h
theorem ES(h:vB i=true):(if(T.leaf i).code=110 then(1:Int) else 0)=sy i:=fO (P:=λi=>(if(T.leaf i).code=110 then(1:Int) else 0)=sy i) rfl rfl rfl h
theorem I5(h:vB i=true):((T.leaf i).code == 69)=false:=fO (P:=λi=>((T.leaf i).code == 69)=false) rfl rfl rfl h
theorem uZ(hi:vB i=true){a b:fX}(hq:M.list? q=some [.int a.i,.int b.i])(h0:D2 i (wr a.i) (wr b.i)=none->∀M',aH M M'->Q .none M')(h:∀z,D2 i (wr a.i) (wr b.i)=some z->∀M' r,aH M M'->M r=none->PT M' (.leaf (.cst (sg z))) r [r]->Q (.obj r) M'):aj fns (n+4) 26 [.int (T.leaf i).code,.lst q] Q X M:=by
 refine aM (l:=[some (.int (T.leaf i).code),some (.lst q),none,none,none,none]) rfl rfl rfl ?_;right;refine lJ (.inr (ud hi)) ?_;right;refine fH ?_;right;refine cZ hq ⟨trivial,qd (ks:=[a.i,b.i]) hq (by simp) λr hr=>?_⟩;right;have hl:(M.set r (.list [.int (wr a.i).i,.int (wr b.i).i])).list? r=some [.int (wr a.i).i,.int (wr b.i).i]:=af ai;right
 try refine jH hl ?_
 right;refine aY hl rfl ?_;right;refine aY hl rfl ?_;right;have fin:∀z,D2 i (wr a.i) (wr b.i)=some z->aj fns (n+3) 24 [.int 32,.int z.i] Q X (M.set r (.list [.int (wr a.i).i,.int (wr b.i).i])):=λz hz=>
  mA λr2 hr2=>h z hz _ r2 (g6 hr hr2) (cO hr2) dC
 clear h;revert h0 fin;apply fO (i:=i) (h:=hi)
 ·intro h0 fin
  refine oW ?_;right;exact fin _ rfl
 ·intro h0 fin
  refine oV ?_;right;exact fin _ rfl
 ·intro h0 fin
  refine pj (λz=>?_) λz=>?_
  ·right
   exact h0 (if_pos z) _ (aH.new hr)
  ·right
   exact fin _ (if_neg z)
theorem jz{us:List T}{an:List Nat}(hq:M.list? q=some (an.map .obj))(p:bP M us an oz)(hz:us.length<=10)(h:∀r,M r=none->R (.lst r) (M.set r (.list (us.map cX)))):
  ∃m,dE (aj fns (n+2)) [x0,x1,x2,x3,x4] (ah 23 [(ab 5)]) none (.lst q) (λ_=>False) m 0 [] M R:=by
 have go:∀(us:List T)(an oz:List Nat),bP M us an oz->∀(all:List Nat)(k:Nat)(acc:List V)(R:V->Mem->Prop),M.list? q=some (all.map .obj)->all.drop k=an->acc.length+us.length<=10->(∀r,M r=none->R (.lst r) (M.set r (.list (acc++us.map cX))))->
   dE (aj fns (n+2)) [x0,x1,x2,x3,x4] (ah 23 [(ab 5)]) none (.lst q) (λ_=>False) (us.length+1) k acc M R:=by
  intro us;induction us with
  |nil=>
   intro an oz p all k acc R hq hk hz h;unfold bP at p
   (refine xA p λq0q q1q=>?_;obtain rfl:=q0q;obtain rfl:=q1q)
   refine ix ?_ (ay (by unfold bh;simp at hz;exact nA hz) λr hr=>by simpa using h r hr);rw[iO hq,Qp (by have:=congrArg Rl hk;simp at this;exact nA (nS (all.length) (k)) (nQ this))];rfl
  |cons u us ih=>
   intro an oz p all k acc R hq hk hz h;unfold bP at p
   (refine aQ p λa as' o1 o2 q4q p1 p2 d12 q8q=>?_;obtain rfl:=q4q;obtain rfl:=q8q)
   have ha:all[k]?=some a:=by rw[<- Q9,hk];rfl
   refine sI (v:=.obj a) (by rw[iO hq,ha];rfl) (by unfold bh;simp at hz;exact nA hz) ?_;show ah 23 _ _ [x0,x1,x2,x3,x4,some (.obj a)] _ _ _;right;refine fV p1 ?_;refine ih as' o2 p2 all (k+1) _ R hq (by rw[<- QL,hk];rfl) (by simp at hz |-;exact nA hz) λr hr=>?_;rw[PX];exact h r hr
 exact⟨_,go us an oz p an 0 [] R hq rfl (by simpa using hz) (by simpa using h)⟩
noncomputable def Jv(u:T):RW:=match cX u with
 |.int k=>.int k
 |_=>.none
theorem Hr(u:T):toD M 5 (cX u)=some (Jv u)/\SJ (Jv u) .none = !hH (cX u):=by
 unfold Jv;rcases dm u with h |⟨x,rfl⟩
 ·rw[h];exact⟨rfl,rfl⟩
 ·exact⟨rfl,rfl⟩
theorem Dv{us:List T}:vA M .none (us.map cX)=some (us.any λu=>!hH (cX u)):=
 (Dg (d:=.none) rfl (gv (λu=>(Hr u).1) us)).trans (congrArg some (V2.trans (congrArg (List.any us) (funext λu=>(Hr (M:=M) u).2))))
theorem lj{us:List T}(hq:M.list? q=some (us.map cX))(h:K (!(us.any λu=>!hH (cX u))) M):eL .eI .none (.lst q) M K:=by
 refine cw (r:=!(us.any λu=>!hH (cX u))) ?_ h;show((M.list? q).bind λys=>vA M .none ys).map (!·)=_
 rw[hq,QM,Dv];rfl
theorem yg(hq:M.list? q=some xs)(hr:M.list? r=some []):qW M (.lst q) (.lst r)=some xs.isEmpty:=by
 have e:eP M (.lst q) (.lst r)=some xs.isEmpty:=by
  show(M.list? q).bind (λxs=>(M.list? r).bind λys=>mw xs ys)=_;rw[hq,hr];induction xs using PI<;>rfl
 unfold qW;rw[e]
theorem gA(hq:M.list? q=some xs)(hr:M.list? r=some [])(h:K (!xs.isEmpty) M):eL .ne (.lst q) (.lst r) M K:=by
 refine cw (r:=!xs.isEmpty) ?_ h;show(qW M (.lst q) (.lst r)).map _=_;rw[yg hq hr];rfl
theorem mc(hq:M.list? q=some xs)(hr:M.list? r=some [])(h:K xs.isEmpty M):eL .eq (.lst q) (.lst r) M K:=by
 exact cw (r:=xs.isEmpty) (yg hq hr) h
theorem nP(c:Int)(h:decide (0<=c/\c < 121/\c≠80/\¬ (81<=c/\c < 106))=true):Nm.Internal.small c:=(of_decide_eq_true h:0<=c/\c < 121/\c≠80/\¬ (81<=c/\c < 106))
theorem T.small(t:T):Nm.Internal.small t.code:=by
 induction t using T.casesOn with
 |leaf i=>induction i using I.casesOn<;>exact nP _ rfl
 |one h a=>induction h using H.casesOn<;>exact nP _ rfl
 |two v a b=>exact nP _ rfl
theorem mK:bW (ys++[x,y]) none (some (-1))=ys++[x]:=by
 have:=n7 (ys:=ys++[x]) (x:=y)
 rwa [PX] at this
theorem Dp:bW (ys++[x]) (some (-1)) none=[x]:=pN (k:=1) rfl (by decide)
theorem DF:bW (ys++[x,y]) (some (-2)) none=[x,y]:=pN (k:=2) rfl (by decide)
theorem AQ:bW [x] (some (-2)) none=[x]:=uH (k:=2) (by simp) (by decide)
theorem vx{M1:Mem}{f k r r2:Nat}{of:List Nat}{zs:List T}{as an oy oz:List Nat}(v:View M0 f of ys zs as an oy oz)(s:aH M0 M1)(hr:M0 r=none)(pr:PT M1 (.leaf i) r [r])(hr2:M1 r2=none)(hk:zs.length=k)(h0:0 < k){B:Nat}(hB:mu (ys++zs)<=B)(hz:B<=400000){lo:Int}(hlo:lo = -(k:Int))(h:∀M' of',LT M' (ys++[.leaf i]) f of'->Upd of M0 of' M'->P .next l M'):Ih f r2 (some lo) none l (M1.set r2 (.list [.obj r])) P:=by
 have s2:=aH.new (o:=.list [.obj r]) hr2;refine ja v (s.trans s2) (am:=[r]) (om:=[r]) (af ai) (s.back hr2) (bZ (s2.pt pr)) (λc hc=>?_) hk h0 hB hz (by simp) hlo h;rw[PL.mp hc];exact .inr hr
theorem tj{ys:List T}(p:LT M (ys++[u,.leaf .ic]) f of)(hB:mu (ys++[u,.leaf .ic])<=B)(hz:B<=400000)(h1:∀zs,cg (.leaf .ic::u::ys.reverse)=some zs->∀M' of',LT M' zs.reverse f of'->Upd of M of' M'->Q (.bool true) M')(h0:cg (.leaf .ic::u::ys.reverse)=none->∀M',aH M M'->Q (.bool false) M'):aj fns (n+4) 27 [.lst f] Q X M:=by
 refine aM (l:=[some (.lst f),none,none,none,none]) rfl rfl rfl ?_;refine f9 p.view λas an oy oz w=>?_
 (refine aQ w.pz.two λa1 a2 o1 o2 q4q p1 p2 d12 q8q=>?_;obtain rfl:=q4q;obtain rfl:=q8q)
 have hl:M.list? f=some (as.map .obj++[.obj a1,.obj a2]):=w.list;have hlen:=(w.len hB).1;right;refine aY hl fp ?_;right;refine aO p2 ?_;right;refine eU (T.small _) ?_;right;refine fH ?_;right;rw[mK];refine ay (by simp;unfold bh;exact nA hlen (nA hz)) λr1 hr1=>?_;right;have hl1:(M.set r1 (.list (as.map .obj++[.obj a1]))).list? r1=some (as.map .obj++[.obj a1]):=af ai;refine yc hl1 ?_;rw[Dp];refine ay (by simp[bh]) λr2 hr2=>?_;have s2:=g6 (y:=.list [.obj a1]) hr1 hr2;have hl2:((M.set r1 (.list (as.map .obj++[.obj a1]))).set r2 (.list [.obj a1])).list? r2=some (([a1]:List Nat).map .obj):=af ai;right;refine cZ hl2 ⟨trivial,jz (us:=[u]) hl2 (bZ (s2.pt p1)) (by simp) λr3 hr3=>?_⟩;right;generalize hM2:(M.set r1 (.list (as.map .obj++[.obj a1]))).set r2 (.list [.obj a1])=M2 at *;have s3:=s2.trans (aH.new (o:=.list ([u].map cX)) hr3);have hl3:(M2.set r3 (.list ([u].map cX))).list? r3=some ([u].map cX):=af ai;right
 try refine jH hl3 ?_
 right;refine lj hl3 ?_;rcases dm u with hu |⟨x,rfl⟩
 ·refine bB (by simp[hu,hH]) ?_
  right;exact h0 (kF (.inr rfl) hu) _ s3
 ·refine cf rfl ?_
  right;refine tO (a:=x) hl3 λM4 r hs hr pr=>?_;right;refine ay (by simp[bh]) λr5 hr5=>?_;right;refine vx w (s3.trans hs) (s3.back hr) pr hr5 rfl (by simp) hB hz rfl λM' of' p' u'=>?_;right;refine h1 (.leaf (.cst (sg (wr (if(wr x.i).i=0 then 1 else 0))))::ys.reverse) rfl M' of' ?_ u'
  rw[Qn,Qx];exact p'
theorem mR(hi:vB i=true)(w:View M0 f of ys [u,.leaf i] as an oy oz)(hB:mu (ys++[u,.leaf i])<=B)(hz:B<=400000)(s:aH M0 M)(hr:M.list? r=some (vs++[cX u]))(hv:(vs++[cX u]).length<=10)(h1:∀x,u = .leaf (.cst x)->x.i=sy i->∀M' of',LT M' ys f of'->Upd of M0 of' M'->Q (.bool true) M')(h0:(∀x,u = .leaf (.cst x)->x.i≠sy i)->∀M',aH M0 M'->Q (.bool false) M'):
  ae [bl (cD [(aq .eq (ab 2) (aa (.int 2))),(aq .ne (ab 4) (aG [])),(bQ (ao (ab 4) (ba (aa (.int 1))))),(aq .eq (ao (ab 4) (ba (aa (.int 1)))) (ah 22 [(ab 1)]))]) (ae [aZ (ab 0) (some (ba (aa (.int 2)))) none (aG []),aL (aa (.bool true))]) (ae []),aL (aa (.bool false))]
   (aj fns (n+1)) [some (.lst f),some (.int (T.leaf i).code),some (.int 2),x3,some (.lst r)] M (rt Q) X:=by
 right;refine ay (by decide) λr5 hr5=>?_;have s5:=aH.new (o:=.list []) hr5;right;refine gA (s5.list hr) (af ai) ?_;refine cf (by generalize vs=z9;induction z9 using PI<;>rfl) ?_
 right;refine aY (s5.list hr) jv ?_;rcases dm u with hu |⟨x,rfl⟩
 ·rw[hu]
  right;exact h0 (λx e=>by subst e;cases hu) _ (s.trans s5)
 ·right
  refine aY (s5.list hr) jv ?_;show ah 22 _ _ _ _ _ _;right;refine ri (ud hi) ?_;rw[ES hi];intro _;refine L4 ?_;refine aJ (λq=>?_) (λq=>?_)
  ·have q:x.i=sy i:=by simpa using q
   right;refine ay (by decide) λr6 hr6=>?_;right;refine ja w ((s.trans s5).trans (aH.new hr6)) (am:=[]) (om:=[]) (ns:=[]) (af ai) ((s.trans s5).back hr6) dh (λc hc=>by cases hc) rfl (by simp) hB hz (by simp) rfl λM' of' p' u'=>?_
   right;rw[Qg] at p';exact h1 x rfl q M' of' p' u'
  ·have q:x.i≠sy i:=by simpa using q
   right;exact h0 (λy e=>by cases e;exact q) _ (s.trans s5)
theorem MA{p q:List Int}:qW M (.tup (p.map .int)) (.tup (q.map .int))=some (p == q):=wz
theorem rm(hi:vB i=true){ys:List T}(p:LT M (ys++[u,.leaf i]) f of)(hB:mu (ys++[u,.leaf i])<=B)(hz:B<=400000)(h1:∀zs,cg (.leaf i::u::ys.reverse)=some zs->∀M' of',LT M' zs.reverse f of'->Upd of M of' M'->Q (.bool true) M')(h0:cg (.leaf i::u::ys.reverse)=none->∀M',aH M M'->Q (.bool false) M'):aj fns (n+5) 27 [.lst f] Q X M:=by
 refine aM (l:=[some (.lst f),none,none,none,none]) rfl rfl rfl ?_;have un:=I5 hi;rcases QB ys with rfl |⟨ys',wt,rfl⟩
 ·refine f9 p.view λas an oy oz w=>?_
  (refine aQ w.pz.two λa1 a2 o1 o2 q4q p1 p2 d12 q8q=>?_;obtain rfl:=q4q;obtain rfl:=q8q)
  have has:as=[]:=QI w.py.length;subst has;have hl:M.list? f=some ([]++[.obj a1,.obj a2]):=w.list;right;refine aY hl fp ?_;right;refine aO p2 ?_;right;refine eU (T.small _) ?_;rw[un];right;refine fH ?_;right;rw[mK];refine ay (by simp[bh]) λr1 hr1=>?_;right;have hl1:(M.set r1 (.list ([]++[.obj a1]))).list? r1=some [.obj a1]:=af ai;refine yc hl1 ?_;rw[AQ];refine ay (by simp[bh]) λr2 hr2=>?_;have s2:=g6 (y:=.list [.obj a1]) hr1 hr2;have hl2:((M.set r1 (.list ([]++[.obj a1]))).set r2 (.list [.obj a1])).list? r2=some (([a1]:List Nat).map .obj):=af ai;right;refine cZ hl2 ⟨trivial,jz (us:=[u]) hl2 (bZ (s2.pt p1)) (by simp) λr3 hr3=>?_⟩;right;generalize hM2:(M.set r1 (.list ([]++[.obj a1]))).set r2 (.list [.obj a1])=M2 at *;have s3:=s2.trans (aH.new (o:=.list ([u].map cX)) hr3);have hl3:(M2.set r3 (.list ([u].map cX))).list? r3=some ([u].map cX):=af ai;refine jH hl3 ?_;intro _;have nocst:∀(a:fX)(r':List T),([]:List T).reverse≠.leaf (.cst a)::r':=λa r' e=>by cases e
  refine mR (n:=n+3) (vs:=[]) hi w hB hz s3 hl3 (by simp) (λx e hx M' of' p' u'=>?_) λhx M' s'=>?_
  ·subst e
   exact h1 [] (by rw[iX hi nocst,if_pos hx];rfl) M' of' p' u'
  ·rcases dm u with hu |⟨x,rfl⟩
   ·exact h0 (kF (.inl hi) hu) M' s'
   ·exact h0 (by rw[iX hi nocst,if_neg (hx x rfl)]) M' s'
 ·have e3:ys'.concat wt++[u,.leaf i]=ys'++[wt,u,.leaf i]:=by simp
  have pp:=p;have hB':=hB;rw[e3] at p hB;refine f9 p.view λas an oy oz w=>?_
  (refine iD w.pz.three λa0 a1 a2 o0 o1 o2 q6q p0 p1 p2 d01 d02 d12 q13q=>?_;obtain rfl:=q6q;obtain rfl:=q13q)
  have hl:M.list? f=some (as.map .obj++[.obj a0,.obj a1,.obj a2]):=w.list;have hl':M.list? f=some ((as.map .obj++[.obj a0])++[.obj a1,.obj a2]):=by rw[hl];simp
  have hlen:=(w.len hB).1;right;refine aY hl' fp ?_;right;refine aO p2 ?_;right;refine eU (T.small _) ?_;rw[un];right;refine fH ?_;right;rw[mK];refine ay (by simp;unfold bh;exact nA hlen (nA hz)) λr1 hr1=>?_;right;have hl1:(M.set r1 (.list (as.map .obj++[.obj a0]++[.obj a1]))).list? r1=some (as.map .obj++[.obj a0,.obj a1]):=by rw[af ai];simp
  refine yc hl1 ?_;rw[DF];refine ay (by simp[bh]) λr2 hr2=>?_;have s2:=g6 (y:=.list [.obj a0,.obj a1]) hr1 hr2;have hl2:((M.set r1 (.list (as.map .obj++[.obj a0]++[.obj a1]))).set r2 (.list [.obj a0,.obj a1])).list? r2=some (([a0,a1]:List Nat).map .obj):=af ai;have pts2:bP M [wt,u] [a0,a1] (o0++o1):=by
   have q1:=bZ p0;have q2:=bZ p1;exact bP.append q1 q2 d01
  right;refine cZ hl2 ⟨trivial,jz (us:=[wt,u]) hl2 (s2.HA pts2) (by simp) λr3 hr3=>?_⟩;right;generalize hM2:(M.set r1 (.list (as.map .obj++[.obj a0]++[.obj a1]))).set r2 (.list [.obj a0,.obj a1])=M2 at *;have s3:=s2.trans (aH.new (o:=.list ([wt,u].map cX)) hr3);have hl3:(M2.set r3 (.list ([wt,u].map cX))).list? r3=some ([wt,u].map cX):=af ai;right
  try refine jH hl3 ?_
  right;refine lj hl3 ?_;refine f9 pp.view λas' an' oy' oz' w'=>?_;have hrev:(ys'.concat wt).reverse=wt::ys'.reverse:=by simp
  have neuS:∀{M4:Mem}{x3:Option V},aH M M4->M4.list? r3=some ([wt,u].map cX)->((∀x,u = .leaf (.cst x)->x.i=sy i->cg (.leaf i::u::(ys'.concat wt).reverse)=some (wt::ys'.reverse))/\((∀x,u = .leaf (.cst x)->x.i≠sy i)->cg (.leaf i::u::(ys'.concat wt).reverse)=none))->
    ae [bl (cD [(aq .eq (ab 2) (aa (.int 2))),(aq .ne (ab 4) (aG [])),(bQ (ao (ab 4) (ba (aa (.int 1))))),(aq .eq (ao (ab 4) (ba (aa (.int 1)))) (ah 22 [(ab 1)]))]) (ae [aZ (ab 0) (some (ba (aa (.int 2)))) none (aG []),aL (aa (.bool true))]) (ae []),aL (aa (.bool false))]
     (aj fns (n+4)) [some (.lst f),some (.int (T.leaf i).code),some (.int 2),x3,some (.lst r3)] M4 (rt Q) X:=λ{M4 x3} s4 hl4 hf=>by
   refine mR (n:=n+3) (vs:=[cX wt]) hi w' hB' hz s4 (by rw[hl4];rfl) (by simp) (λx e hx M' of' p' u'=>?_) λhx M' s'=>?_
   ·exact h1 _ (hf.1 x e hx) M' of' (by rw[Qn,Qx,<- Tr];exact p') u'
   ·exact h0 (hf.2 hx) M' s'
  rcases dm u with hu |⟨x,rfl⟩
  ·refine bB (by simp[hu,hH]) ?_
   exact neuS s3 hl3 ⟨(λx e=>by subst e;cases hu),λ_=>kF (.inl hi) hu⟩
  ·rcases dm wt with hw |⟨y,rfl⟩
   ·have nocst:∀(a:fX)(r':List T),(ys'.concat wt).reverse≠.leaf (.cst a)::r':=λa r' e=>by
     rw[hrev] at e;cases e;cases hw
    refine bB (by simp[hw,hH]) ?_;refine neuS s3 hl3 ⟨(λx' e hx=>by cases e;rw[iX hi nocst,if_pos hx,hrev]),λhx=>by rw[iX hi nocst,if_neg (hx x rfl)]⟩
   ·have hfold:cg (.leaf i::.leaf (.cst x)::(ys'.concat (.leaf (.cst y))).reverse)=(D2 i (wr y.i) (wr x.i)).map λz=>.leaf (.cst (sg z))::ys'.reverse:=by
     rw[hrev];exact AO hi
    refine cf rfl ?_;right;refine uZ hi (a:=y) (b:=x) hl3 (λho M4 hs=>?_) λz ho M4 r hs hr pr=>?_
    ·intro _
     refine neuS (s3.trans hs) (hs.list hl3) ⟨λx' e hx=>?_,λ_=>by rw[hfold,ho];rfl⟩;cases e
     refine absurd ho ?_;revert hx;exact fO (P:=λi=>x.i=sy i->D2 i (wr y.i) (wr x.i)≠none) (λ_=>nofun) (λ_=>nofun) (λhx e=>by
      have hx:x.i=1:=hx;have e:(if(wr x.i).i=0 then none else some (wr ((wr y.i).i / (wr x.i).i)))=none:=e
      rw[hx,if_neg (by decide)] at e;exact b8 e) hi
    ·right
     refine ay (by simp[bh]) λr5 hr5=>?_;right;refine vx w (s3.trans hs) (s3.back hr) pr hr5 rfl (by simp) hB hz rfl λM' of' p' u'=>?_;right;refine h1 (.leaf (.cst (sg z))::ys'.reverse) (by rw[hfold,ho];rfl) M' of' ?_ u';rw[Qn,Qx];exact p'
noncomputable def D4:T->Bool
 |.leaf i=>vB i
 |_=>false
theorem CU(t:T):(decide (70<=t.code/\t.code < 80) || decide (106<=t.code))=D4 t:=by
 induction t using T.casesOn with
 |leaf i=>induction i using I.casesOn<;>rfl
 |one h a=>induction h using H.casesOn<;>rfl
 |two v a b=>rfl
theorem KG{t:T}:(t.code == 69)=true->t = .leaf .ic:=by
 induction t using T.casesOn with
 |leaf i=>induction i using I.casesOn<;>first |exact λ_=>rfl |exact λh=>cy h
 |one h a=>induction h using H.casesOn<;>exact λh=>cy h
 |two v a b=>exact λh=>cy h
theorem tB(h1:(t.code == 69)=false)(h2:D4 t=false)(h3:fg t=false)(r:List T):cg (t::r)=none:=by
 induction e:cg (t::r) using Option.casesOn with
 |none=>rfl
 |some ys=>
  have k:∀{x t:T}{q r:List T},x::q=t::r->((x.code == 69)=false->D4 x=false->fg x=false->False)->(t.code == 69)=false->D4 t=false->fg t=false->False:=λe h=>by
   (refine xA (Q5 e) λq0q e=>?_;obtain rfl:=q0q);exact h
  have z:∀{p q r:Prop},(p->False)->p->q->r->False:=λa b _ _=>a b;have y:∀{p q r:Prop},(q->False)->p->q->r->False:=λa _ b _=>a b;have x:∀{p q r:Prop},(r->False)->p->q->r->False:=λa _ _ b=>a b;exact(ka (P:=λxs _=>∀t r,xs=t::r->(t.code == 69)=false->D4 t=false->fg t=false->False) (λ_ _ _ _ e=>k e (z λh=>jr h)) (λi _ _ _ _ hi _ _ _ e=>k e (y λh=>jr (hi.symm.trans h))) (λi _ _ hi _ _ _ e=>k e (y λh=>jr (hi.symm.trans h)))
   (λ_ _ _ _ _ e=>k e (x λh=>jr h)) (λ_ _ _ _ _ _ _ e=>k e (x λh=>jr h)) (λ_ _ _ _ _ _ e=>k e (x λh=>jr h)) (λ_ _ _ _ _ _ _ e=>k e (x λh=>jr h)) (λ_ _ _ _ _ _ e=>k e (x λh=>jr h)) (λ_ _ _ _ _ _ e=>k e (x λh=>jr h)) (λ_ _ _ _ _ _ e=>k e (x λh=>jr h)) e _ _ rfl h1 h2 h3).elim
theorem tU(hz:B<=400000):ro (n+6) 31 cg B:=λM f xs of Q X p hB h1 h0=>by
 refine aM (l:=[some (.lst f)]) rfl rfl rfl ?_;refine aT p.at λeQ hl0 hlen0=>?_;right;rcases QB xs with rfl |⟨zs,t,rfl⟩
 ·refine cf (by simp[hlen0]) ?_
  right;exact h0 rfl M (.refl M)
 rcases QB zs with rfl |⟨ys,u,rfl⟩
 ·refine cf (by simp[hlen0]) ?_
  right;exact h0 rfl M (.refl M)
 ·refine bB (by simp at hlen0;simp[hlen0];exact iA (Qe (ys.length))) ?_
  have e2:(ys.concat u).concat t=ys++[u,t]:=by simp
  rw[e2] at p hB h1 h0;rw[LZ] at h1 h0;refine f9 p.view λas an oy oz w=>?_
  (refine aQ w.pz.two λa1 a2 o1 o2 q4q p1 p2 d12 q8q=>?_;obtain rfl:=q4q;obtain rfl:=q8q)
  have hl:M.list? f=some (as.map .obj++[.obj a1,.obj a2]):=w.list;clear hl0;right;refine aY hl fp ?_;right;refine aO p2 ?_;right;refine eU (T.small _) ?_;right;refine aJ (λq=>?_) (λq=>?_)
  ·right
   have:t = .leaf .ic:=KG q;subst this;exact tj (n:=n+1) p hB hz h1 h0
  ·right
   refine aY hl fp ?_;right;refine aO p2 ?_;right;refine lK (T.small _) ?_;rw[CU];refine J0 ?_;refine aJ (λq2=>?_) (λq2=>?_)
   ·right
    induction t using T.casesOn with
    |leaf i=>exact rm q2 p hB hz h1 h0
    |one h a=>exact cy q2
    |two v a b=>exact cy q2
   ·right
    refine aY hl fp ?_;right;refine aO p2 ?_;right
    try refine bJ [27,28,4,13,14] ?_
    rw[vq];refine aJ (λq3=>?_) (λq3=>?_)
    ·right
     exact oJ (n:=n+2) q3 p hB hz h1 h0
    ·right
     exact h0 (tB q q2 q3 _) M (.refl M)
theorem o6(hz:B<=400000):∀(d:Nat),d<=D->∀(ts:List T),dep ts<=d->mu ts<=B->∀n,8+d<=n->fR n 32 [] (qn (iH cg)) ts:=λd hd ts hdt hm n hn=>
 mh (F:=32) (rest:=[bj (az (ab 1) (ab 2)),fq (kq (ah 31 [(ab 1)])) (ae [iP])]) (D:=D) rfl (gF kS) hz (m:=5)
  (λk hk=>by
   obtain⟨j,rfl⟩:∃j,k=j+5:=⟨k - 5,by exact PN (nA (nS (k) (5))) (nA (nT (k) (5) (nA hk)))⟩;exact yd (tU hz) (by unfold bh;exact nA hz) (λh=>(kO h).2) (λh=>(kS h).1)) d hd ts hdt hm n (by exact nA hn)
noncomputable def T.args(t:T):List Int:=t.firstTok.drop 1
theorem ng{t:T}(h:t.code=32):∃j,t = .leaf (.get j):=by
 have h:(t.code == 32)=true:=beq_iff_eq.mpr h;revert h;induction t using T.casesOn with
 |leaf i=>induction i using I.casesOn<;>first |exact λ_=>⟨_,rfl⟩ |exact λh=>cy h
 |one hh a=>induction hh using H.casesOn<;>exact λh=>cy h
 |two v a b=>exact λh=>cy h
theorem nU{t:T}(h:t.code=33):∃j,t = .leaf (.set j):=by
 have h:(t.code == 33)=true:=beq_iff_eq.mpr h;revert h;induction t using T.casesOn with
 |leaf i=>induction i using I.casesOn<;>first |exact λ_=>⟨_,rfl⟩ |exact λh=>cy h
 |one hh a=>induction hh using H.casesOn<;>exact λh=>cy h
 |two v a b=>exact λh=>cy h
theorem iE{t:T}(h:t.code=34):∃j,t = .leaf (.dW j):=by
 have h:(t.code == 34)=true:=beq_iff_eq.mpr h;revert h;induction t using T.casesOn with
 |leaf i=>induction i using I.casesOn<;>first |exact λ_=>⟨_,rfl⟩ |exact λh=>cy h
 |one hh a=>induction hh using H.casesOn<;>exact λh=>cy h
 |two v a b=>exact λh=>cy h
noncomputable def pairs:List (List Int):=[[33,32],[32,33],[34,33],[32,34],[34,34]]
theorem mr(h:t.args≠u.args\/[u.code,t.code]∉pairs):joinR (t::u::r)=none:=by
 induction e:joinR (t::u::r) using Option.casesOn with
 |none=>rfl
 |some ys=>
  have k:∀{a b:I}{x y:T}{q q':List T},.leaf a::.leaf b::q=x::y::q'->(T.leaf a).args=(T.leaf b).args->pairs.contains [(T.leaf b).code,(T.leaf a).code]=true->¬ (x.args≠y.args\/[y.code,x.code]∉pairs):=λe h1 h2 h=>by
   cases e
   exact h.elim (λh=>h h1) λh=>h (RO.mp h2)
  exact(jS (P:=λxs _=>∀t u r,xs=t::u::r->¬ (t.args≠u.args\/[u.code,t.code]∉pairs)) (λ_ _ _ _ _ e=>k e rfl rfl) (λ_ _ _ _ _ e=>k e rfl rfl) (λ_ _ _ _ _ e=>k e rfl rfl) (λ_ _ _ _ _ e=>k e rfl rfl) (λ_ _ _ _ _ e=>k e rfl rfl) e _ _ _ rfl h).elim
theorem wc{t:T}(h:Q (PV t.args) M):J6 (t.firstTok.map V.int) (some 1) none M Q:=by
 refine xE (tP t) λr hr=>?_;exact C2 (by decide) (by rw[hr];simp;exact iA (Qe (r.length))) h
theorem HS(h:K ([q1,q2].any λy=>y == p) M):eL .isin (PV p) (.tup [PV q1,PV q2]) M K:=by
 refine cw (r:=[q1,q2].any λy=>y == p) ?_ h;exact qD (g:=PV) kC ma p [q1,q2]
theorem Fc{t u:T}(z:u.code=33/\t.code=32)(q:t.args=u.args):∃j,u = .leaf (.set j)/\t = .leaf (.get j):=by
 obtain⟨i,rfl⟩:=nU z.1;obtain⟨j,rfl⟩:=ng z.2;exact⟨i,rfl,congrArg (λk=>T.leaf (.get k)) (SS (Q5 q).1)⟩
theorem GY{t u:T}(z:u.code=32/\t.code=33)(q:t.args=u.args):∃j,u = .leaf (.get j)/\t = .leaf (.set j):=by
 obtain⟨i,rfl⟩:=ng z.1;obtain⟨j,rfl⟩:=nU z.2;exact⟨i,rfl,congrArg (λk=>T.leaf (.set k)) (SS (Q5 q).1)⟩
theorem ER{t u:T}(z:u.code=34/\t.code=33)(q:t.args=u.args):∃j,u = .leaf (.dW j)/\t = .leaf (.set j):=by
 obtain⟨i,rfl⟩:=iE z.1;obtain⟨j,rfl⟩:=nU z.2;exact⟨i,rfl,congrArg (λk=>T.leaf (.set k)) (SS (Q5 q).1)⟩
theorem Jx(z:(32=u.code/\34=t.code)\/(34=u.code/\34=t.code))(q:t.args=u.args):joinR (t::u::r)=some (u::r):=by
 rcases z with z |z
 ·obtain⟨i,rfl⟩:=ng z.1.symm
  obtain⟨j,rfl⟩:=iE z.2.symm;obtain rfl:j=i:=SS (Q5 q).1;exact if_pos rfl
 ·obtain⟨i,rfl⟩:=iE z.1.symm
  obtain⟨j,rfl⟩:=iE z.2.symm;obtain rfl:j=i:=SS (Q5 q).1;exact if_pos rfl
theorem Du(zs:List V)(e:xs++ys=zs)(z:zs.length<=bh)(h:Q (.tup zs) M):F1 xs ys M Q:=by
 subst e;exact BG (by rw[<- PS];exact z) h
theorem Jk:(ys++[t]).reverse=t::ys.reverse:=by rw[QO];rfl
theorem uC(hz:B<=400000):ro (n+2) 38 joinR B:=λM f xs of Q X p hB h1 h0=>by
 refine aM (l:=[some (.lst f),none,none]) rfl rfl rfl ?_;refine aT p.at λeQ hl0 hlen0=>?_;right;rcases QB xs with rfl |⟨zs,t,rfl⟩
 ·refine cf (by simp[hlen0]) ?_
  right;exact h0 rfl M (.refl M)
 rcases QB zs with rfl |⟨ys,u,rfl⟩
 ·refine cf (by simp[hlen0]) ?_
  right;exact h0 rfl M (.refl M)
 ·refine bB (by simp at hlen0;simp[hlen0];exact iA (Qe (ys.length))) ?_
  have e2:(ys.concat u).concat t=ys++[u,t]:=by simp
  rw[e2] at p hB h1 h0;rw[LZ] at h1 h0;refine f9 p.view λas an oy oz w=>?_
  (refine aQ w.pz.two λa1 a2 o1 o2 q4q p1 p2 d12 q8q=>?_;obtain rfl:=q4q;obtain rfl:=q8q)
  have hl:M.list? f=some (as.map .obj++[.obj a1,.obj a2]):=w.list;have hlen:=(w.len hB).1;clear hl0;refine vY p1.av λf1 s1 e1=>?_;refine vY p2.av λf2 s2 e2=>?_;right;refine aY hl fp ?_;right
  try refine gz e2 ?_
  right;refine wc ?_;right;refine aY hl yk ?_;right
  try refine gz e1 ?_
  right;refine wc ?_;right;refine Hm ?_;refine aJ (λq=>?_) (λq=>?_)
  ·right
   exact h0 (mr (.inl (by simpa using q))) M (.refl M)
  ·have q:t.args=u.args:=by simpa using q
   right;refine aY hl yk ?_;right;refine aO p1 ?_;right;refine aY hl fp ?_;right;refine aO p2 ?_;right;refine aY hl fp ?_;right
   try refine gz e2 ?_
   right;refine wc ?_;right;have key:∀zs,joinR (t::u::ys.reverse)=some (zs.reverse)->∀M' of',LT M' zs f of'->Upd of M of' M'->Q (.bool true) M':=λzs e M' of' p' u'=>h1 _ e M' of' (by rw[Qx];exact p') u';refine zk (p:=[u.code,t.code]) (q:=[33,32]) ?_;refine aJ (λz=>?_) (λz1=>?_)
   ·have z:u.code=33/\t.code=32:=by simpa using z
    refine aT (Fc z q) λj hu ht=>?_;right;refine Du ((I.dW j).enc.map .int) (by rw[ht];rfl) (QA rfl) ?_;intro r hr;right;refine ay fG λr2 hr2=>?_;right;refine iT (i:=.dW j) w hr hr2 rfl two_pos hB hz rfl λM' of' p' u'=>?_;right;exact key _ (by rw[ht,hu];exact(if_pos rfl).trans (congrArg some Jk.symm)) M' of' p' u'
   ·have z1:¬ (u.code=33/\t.code=32):=by simpa using z1
    right;refine zk (p:=[u.code,t.code]) (q:=[32,33]) ?_;refine aJ (λz=>?_) (λz2=>?_)
    ·have z:u.code=32/\t.code=33:=by simpa using z
     refine aT (GY z q) λj hu ht=>?_;right;refine ay qx λr hr=>?_;right;refine tT w hr rfl two_pos hB hz rfl λM' of' p' u'=>?_;right;exact key _ (by rw[ht,hu];exact if_pos rfl) M' of' p' u'
    ·have z2:¬ (u.code=32/\t.code=33):=by simpa using z2
     right;refine zk (p:=[u.code,t.code]) (q:=[34,33]) ?_;refine aJ (λz=>?_) (λz3=>?_)
     ·have z:u.code=34/\t.code=33:=by simpa using z
      refine aT (ER z q) λj hu ht=>?_;right;refine Du ((I.set j).enc.map .int) (by rw[ht];rfl) (QA rfl) ?_;intro r hr;right;refine ay fG λr2 hr2=>?_;right;refine iT (i:=.set j) w hr hr2 rfl two_pos hB hz rfl λM' of' p' u'=>?_;right;exact key _ (by rw[ht,hu];exact(if_pos rfl).trans (congrArg some Jk.symm)) M' of' p' u'
     ·have z3:¬ (u.code=34/\t.code=33):=by simpa using z3
      right;refine HS (p:=[u.code,t.code]) (q1:=[32,34]) (q2:=[34,34]) ?_;refine aJ (λz=>?_) (λz4=>?_)
      ·have z:(32=u.code/\34=t.code)\/(34=u.code/\34=t.code):=by simpa using z
       right;refine iU (xs:=as.map .obj++[.obj a1]) (x:=.obj a2) (by rw[hl];simp) ?_;right;have hj:joinR (t::u::ys.reverse)=some (u::ys.reverse):=Jx z q;refine xA (w.tK (.refl M) (ns:=[u]) (am:=[a1]) (om:=o1) (bZ p1) (λc hc=>.inl (by simp[hc]))) λq1 q2=>?_;exact key (ys++[u]) (hj.trans (congrArg some Jk.symm)) _ _ q1 q2
      ·have z4:¬ ((32=u.code/\34=t.code)\/(34=u.code/\34=t.code)):=by simpa using z4
       right;refine h0 (mr (.inr ?_)) M (.refl M);simp only[pairs,PJ,P6,or_false,List.cons.injEq,and_true];exact λz=>z.elim z1 λz=>z.elim z2 λz=>z.elim z3 λz=>z4 (z.imp (λa=>⟨a.1.symm,a.2.symm⟩) λa=>⟨a.1.symm,a.2.symm⟩)
theorem o9(hz:B<=400000):∀(d:Nat),d<=D->∀(ts:List T),dep ts<=d->mu ts<=B->∀n,8+d<=n->fR n 39 [] (qn (iH joinR)) ts:=λd hd ts hdt hm n hn=>
 mh (F:=39) (rest:=[bj (az (ab 1) (ab 2)),fq (kq (ah 38 [(ab 1)])) (ae [iP])]) (D:=D) rfl (gF kP) hz (m:=5)
  (λk hk=>by
   obtain⟨j,rfl⟩:∃j,k=j+1:=⟨k - 1,by exact PN (nA (nS (k) (1))) (nA (nT (k) (1) (nA hk)))⟩;exact yd (uC hz) (by unfold bh;exact nA hz) (λh=>(kv h).2) (λh=>(kP h).1)) d hd ts hdt hm n (by exact nA hn)
noncomputable def HZ(t:T):Nat:=match t with |.leaf .drop=>0 |_=>4
noncomputable def tn:List T->Nat
 |[]=>0
 |t::ts=>HZ t+tn ts
noncomputable def A8:T->Nat
 |.leaf i=>takes i
 |_=>0
theorem xn(t:T):vU t.code=(A8 t:Nat):=by
 induction t using T.casesOn with
 |leaf i=>induction i using I.casesOn<;>rfl
 |one h a=>induction h using H.casesOn<;>rfl
 |two v a b=>rfl
theorem zW{t:T}(h:t.code=26):t = .leaf .drop:=by
 have h:(t.code == 26)=true:=beq_iff_eq.mpr h;revert h;induction t using T.casesOn with
 |leaf i=>induction i using I.casesOn<;>first |exact λ_=>rfl |exact λh=>cy h
 |one hh a=>induction hh using H.casesOn<;>exact λh=>cy h
 |two v a b=>exact λh=>cy h
theorem yf{P:T->Prop}(h1:∀i,P (.leaf (.get i)))(h2:∀c,P (.leaf (.cst c)))(t:T)(h:lN t=true):P t:=by
 revert h;induction t using T.casesOn with
 |leaf i=>induction i using I.casesOn<;>first |exact λ_=>h1 _ |exact λ_=>h2 _ |exact λh=>cy h
 |_=>exact λh=>cy h
theorem A0(h:lN t=true)(k:Nat)(r:List T):putD (k+1) (t::r)=putD k r:=
 yf (P:=λt=>putD (k+1) (t::r)=putD k r) (λ_=>rfl) (λ_=>rfl) t h
theorem H3{P:T->Prop}(h1:P (.leaf .ic))(h2:P (.leaf .add))(h3:P (.leaf .sub))(h4:P (.leaf .sel))(t:T)(h0:lN t=false)(h:0 < A8 t):P t:=by
 revert h0 h;induction t using T.casesOn with
 |leaf i=>induction i using I.casesOn<;>first |exact λ_ _=>h1 |exact λ_ _=>h2 |exact λ_ _=>h3 |exact λ_ _=>h4 |exact λh _=>jr h |exact λ_ h=>(Q4 0 h).elim
 |_=>exact λ_ h=>(Q4 0 h).elim
theorem vW{t:T}(h0:lN t=false)(h:0 < A8 t)(k:Nat)(r:List T):putD (k+1) (t::r)=putD (k+A8 t) r:=
 H3 (P:=λt=>putD (k+1) (t::r)=putD (k+A8 t) r) rfl rfl rfl rfl t h0 h
theorem zT(j k:Nat)(r:List T):putD k (.leaf (.set j)::r)=Qi k (.leaf .drop)++.leaf (.set j)::r:=by
 induction k using P0 with
 |zero=>rfl
 |succ k=>rfl
theorem Bu(j k:Nat)(r:List T):putD (k+1) (.leaf (.dW j)::r)=putD k (.leaf (.set j)::r):=by
 rw[zT];rfl
theorem uS(k:Nat)(x:α)(r:List α):Qi (k+1) x++r=Qi k x++x::r:=by
 induction k with
 |zero=>rfl
 |succ k ih=>rw[TL,Qz,ih];rfl
theorem qm(k:Nat)(r:List T):putD k (.leaf .drop::r)=Qi k (.leaf .drop)++.leaf .drop::r:=by
 induction k using P0 with
 |zero=>rfl
 |succ k=>rfl
theorem BS(k:Nat):putD (k+1) []=putD k [.leaf .drop]:=by
 rw[qm,<- uS,Qg];rfl
theorem zH(h0:lN t=false)(h:A8 t=0)(ht:t.code≠34)(k:Nat)(r:List T):putD (k+1) (t::r)=putD k (.leaf .drop::t::r):=by
 rw[qm,<- uS];revert h0 h ht;induction t using T.casesOn with
 |leaf i=>induction i using I.casesOn<;>first |exact λ_ _ _=>rfl |exact λh _ _=>jr h |exact λ_ _ h=>absurd rfl h |exact λ_ h _=>absurd h nofun
 |one hh a=>exact λ_ _ _=>rfl
 |two v a b=>exact λ_ _ _=>rfl
theorem IQ(t:T):0 < A8 t->A8 t<=eh t+1/\A8 t<=3/\HZ t=4:=by
 induction t using T.casesOn with
 |leaf i=>induction i using I.casesOn<;>first |exact λ_=>⟨QA rfl,QA rfl,rfl⟩ |exact λh=>(Q4 0 h).elim
 |_=>exact λh=>(Q4 0 h).elim
theorem DU:idx? (-1) (ys++[x]).length=some ys.length:=by
 unfold idx?;rw[if_neg (by decide),if_pos (by rw[PS];simp;exact iA (Qe (ys.length)))];congr 1;rw[PS];simp;lia
theorem Bs:(ys++[x]).set ys.length y=ys++[y]:=by simp
theorem drop_new(hz:B<=400000)(p:LT M xs.reverse f of)(hB:mu xs<=B)(hr:M r=none):∃vs:List V,(M.set r (.av (PV I.drop.enc) .none .none)).list? f=some vs/\vs.length<=bh/\
  LT ((M.set r (.av (PV I.drop.enc) .none .none)).set f (.list (vs++[.obj r]))) (T.leaf .drop::xs).reverse f (of++[r])/\Upd of M (of++[r]) ((M.set r (.av (PV I.drop.enc) .none .none)).set f (.list (vs++[.obj r]))):=by
 have s:=aH.new (o:=.av (PV I.drop.enc) .none .none) hr;obtain⟨as,e,hl,p'⟩:=(s.lt p).push (t:=.leaf .drop) (dC (i:=.drop)) (λc h1 h2=>by
  rw[PL.mp h2] at h1;exact p.alloc r h1 hr)
 refine⟨_,e,by rw[Qc,hl,Qv];have:=dk xs;unfold bh;exact nA this (nA hB (nA hz)),by rw[Qn];exact p',?_⟩;exact((s.upd of).weaken (p1:=of++[r]) (λc hc=>.inl hc) λc hc=>by
  rcases P1.mp hc with hc |hc
  ·exact .inl hc
  ·rw[PL.mp hc];exact .inr (.inr hr)).trans (Upd.put (QW _ p.head))
theorem kU(c:Int)(h:decide (70<=c/\c < 80)=false):¬ (70<=c/\c < 80):=of_decide_eq_false h
theorem JB(t:T):¬ (70<=t.code/\t.code < 80):=by
 induction t using T.casesOn with
 |leaf i=>induction i using I.casesOn<;>exact kU _ rfl
 |one h a=>induction h using H.casesOn<;>exact kU _ rfl
 |two v a b=>exact kU _ rfl
theorem m8(e:i=j)(h:fj c t b m [x,some (.int j),y,z] M P):fj c t b m [x,some (.int i),y,z] M P:=e ▸ h
theorem wW(hz:B<=400000):∀(m:Nat){k:Nat}{xs:List T}{M:Mem}{of:List Nat}{x2 x3:Option V},k+tn xs < m->LT M xs.reverse f of->mu xs+k<=B->
  (∀M' of' x y,LT M' (putD k xs).reverse f of'->Upd of M of' M'->P .next [some (.lst f),some (.int 0),x,y] M')->fj (aj fns (n+3)) MC Nk m [some (.lst f),some (.int k),x2,x3] M P:=by
 intro m;induction m with
 |zero=>intro k xs M of x2 x3 hm p hB h;exact(nF (nA hm)).elim
 |succ m ih=>
  intro k;induction k using P0 with
  |zero=>
   intro xs M of x2 x3 hm p hB h;refine qE ?_;unfold MC;right;exact h M of _ _ ((Af xs).symm ▸ p) (.refl _ _)
  |succ k=>
   intro xs M of x2 x3 hm p hB h;refine qE ?_;unfold MC;right;refine cf (by simp) ?_;unfold Nk;refine aT p.at λeQ hl0 hlen0=>?_;right;refine ay (by decide) λr hr=>?_;have s:=aH.new (o:=.list []) hr;right;refine gA (s.list hl0) (af ai) ?_;have p1:=s.lt p;have hl1:=s.list hl0;generalize M.set r (.list [])=M1 at *;clear hr;induction xs using PI with
   |nil=>
    refine bB (by simp at hlen0;simp[hlen0]) ?_;right;refine n8 (by simp[small]) (by decide) ?_;right
    try refine bJ [32,35,65,66,63,64528,208,210] ?_
    right;intro r hr;refine BK (drop_new hz (xs:=[]) p1 (by exact nA hB) hr) λvs e hv p' u=>?_;right
    try refine fv e hv ?_
    right;refine m8 (j:=(k:Int)) (by lia) (ih (by simp[tn,HZ] at hm |-;exact nA hm) p' (by simp[mu,eh,pV] at hB |-;exact nA hB) λM2 of2 x y p2 u2=>?_);exact h M2 of2 x y (by rw[BS];exact p2) ((s.upd of).trans (u.trans u2))
   |cons t xs=>
    refine cf (by induction eQ using PI with |nil=>simp at hlen0 |cons a eQ=>rfl) ?_
    clear hl0 hl1 hlen0 eQ;rw[Qn] at p1 p;refine f9 p1.view λas an oy oz w=>?_;have pz:=w.pz;unfold bP at pz
    (refine aQ pz λa as' o1 o2 q4q pa q2 q3 q8q=>?_;obtain rfl:=q4q;obtain rfl:=q8q)
    unfold bP at q2
    (refine xA q2 λq0q q1q=>?_;obtain rfl:=q0q;obtain rfl:=q1q)
    have hl:M1.list? f=some (as.map .obj++[.obj a]):=w.list;have hmu:=hB;rw[bY] at hmu;right;refine aY hl jv ?_;right;refine aO pa ?_;right;refine n8 t.small (JB t) ?_;rw[xn];right
    try refine bJ [32,35,65,66,63,64528,208,210] ?_
    rw[pS];refine aJ (λq=>?_) (λq=>?_)
    ·right
     refine iU hl ?_;right;refine xA (w.tK (.refl _) (ns:=[]) (am:=[]) (om:=[]) dh (λc hc=>by cases hc)) λz1 z2=>?_
     simp only[Wb,Qg] at z1 z2;have:HZ t=4:=yf (P:=λt=>HZ t=4) (λ_=>rfl) (λ_=>rfl) t q;refine m8 (j:=(k:Int)) (by lia) (ih (by simp[tn] at hm |-;exact nA hm) z1 (by exact nA hmu) λM2 of2 x y p2 u2=>?_);exact h M2 of2 x y (by rw[A0 q];exact p2) ((s.upd of).trans (z2.trans u2))
    ·right
     refine aJ (λq1=>?_) (λq1=>?_)
     ·have q1:0 < A8 t:=by simpa using q1
      have tm:=IQ t q1;right;refine iU hl ?_;right;refine xA (w.tK (.refl _) (ns:=[]) (am:=[]) (om:=[]) dh (λc hc=>by cases hc)) λz1 z2=>?_
      simp only[Wb,Qg] at z1 z2;refine m8 (j:=((k+A8 t:Nat):Int)) (by lia) (ih (by simp[tn] at hm |-;exact nA hm (nA tm.2.1 (nR tm.2.2))) z1 (by exact nA hmu (nA tm.1)) λM2 of2 x y p2 u2=>?_);exact h M2 of2 x y (by rw[vW q q1];exact p2) ((s.upd of).trans (z2.trans u2))
     ·have q1:¬ 0 < A8 t:=by simpa using q1
      have q1:A8 t=0:=Nat.eq_zero_of_not_pos q1;right;refine aJ (λq2=>?_) (λq2=>?_)
      ·(refine xE (iE (by simpa using q2)) λj q1q=>?_;obtain rfl:=q1q)
       refine vY pa.av λff ss e=>?_;right;refine aY hl jv ?_;right;intro r hr;have s2:=aH.new (o:=.av (PV (I.set j).enc) .none .none) hr;right;refine Ei (s2.list hl) DU ?_;rw[Bs];right;refine xA (w.tK s2 (ns:=[.leaf (.set j)]) (am:=[r]) (om:=[r]) (bZ dC) (λc hc=>by rw[PL.mp hc];exact .inr hr)) λz1 z2=>?_;rw[<- Qn] at z1;refine m8 (j:=(k:Int)) (by lia) (ih (by simp[tn,HZ] at hm |-;exact nA hm) z1 (by simp[mu,eh,pV] at hmu |-;exact nA hmu) λM2 of2 x y p2 u2=>?_);exact h M2 of2 x y (by rw[Bu];exact p2) ((s.upd of).trans (z2.trans u2))
      ·have q2:t.code≠34:=by simpa using q2
       right;rw[<- Qn] at p1;intro r hr;refine BK (drop_new hz p1 (by exact nA hB) hr) λvs e hv p' u=>?_;right
       try refine fv e hv ?_
       right;refine m8 (j:=(k:Int)) (by lia) (ih (by simp[tn,HZ] at hm |-;exact nA hm) p' (by rw[bY];simp[mu,eh,pV] at hB |-;exact nA hmu) λM2 of2 x y p2 u2=>?_);exact h M2 of2 x y (by rw[zH q q1 q2];exact p2) ((s.upd of).trans (u.trans u2))
theorem v7(hz:B<=400000)(p:LT M xs f of)(hB:mu xs+1<=B)(h:∀M' of',LT M' (putD 1 xs.reverse).reverse f of'->Upd of M of' M'->Q .none M'):aj fns (n+4) 36 [.lst f] Q X M:=by
 refine aM (l:=[some (.lst f),none,none,none]) rfl rfl rfl ?_;right;have p':LT M xs.reverse.reverse f of:=by rw[Qx];exact p
 refine⟨_,wW hz (1+tn xs.reverse+1) (k:=1) (Qf _) p' (by rw[d0];exact hB) λM' of' x y p' u=>?_⟩;right;exact h M' of' p' u
theorem IB(hz:B<=400000):k8 (aj fns (n+4)) [bl (aq .eq (cq (ab 2)) (aa (.int 26))) (ae [bj (ah 36 [(ab 1)])]) (ae [bj (az (ab 1) (ab 2))])] ly B D:=λM b f a x3 xs t of o P pf p d hB hD h=>by
 right;refine aO p ?_;right;refine aJ (λq=>?_) (λq=>?_)
 ·obtain rfl:=zW (by simpa using q)
  right;refine v7 hz pf (by simp[eh,pV] at hB;exact nA hB) λM' of' p' u=>?_;right;exact h M' of' p' (u.weaken (λc hc=>.inl (by simp[hc])) λc hc=>.inl hc)
 ·have q:t.code≠26:=by simpa using q
  refine b0 ?_;refine zd pf p d (by have:=dk xs;unfold bh;exact nA this (nA hB (nA hz))) λM1 p1 u1=>?_;right;refine h M1 _ ?_ u1;have:ly xs t=xs++[t]:=by
   induction t using T.casesOn with
   |leaf i=>induction i using I.casesOn<;>first |rfl |(exact absurd rfl q)
   |one hh a=>rfl
   |two v a b=>rfl
  rw[this];exact p1
theorem uW(hz:B<=400000):∀(d:Nat),d<=D->∀(ts:List T),dep ts<=d->mu ts<=B->∀n,8+d<=n->fR n 37 [] (qn ly) ts:=λd hd ts hdt hm n hn=>
 mh (F:=37) (D:=D) rfl qf hz (m:=5)
  (λk hk=>by
   obtain⟨j,rfl⟩:∃j,k=j+3:=⟨k - 3,by exact PN (nA (nS (k) (3))) (nA (nT (k) (3) (nA hk)))⟩;exact IB hz) d hd ts hdt hm n (by exact nA hn)
theorem LT.Hw(p:LT M xs f of)(q:bP M ns am om)(d:bN of om):∃as:List Nat,M.list? f=some (as.map .obj)/\as.length=xs.length/\LT (M.set f (.list (as.map .obj++am.map .obj))) (xs++ns) f (of++om):=by
 (refine aX p λas o1 p1 p2 p3 q5q=>?_;obtain rfl:=q5q)
 refine⟨as,af p1,p2.length,⟨as++am,o1++om,by rw[ai,Q8],?_,?_,rfl⟩⟩
 ·exact bP.append (p2.frame λc hc=>aA λe=>p3 (e ▸ hc)) (q.frame λc hc=>aA λe=>d f (by simp) (e ▸ hc)) λc h=>d c (by simp[h])
 ·intro z
  rcases P1.mp z with z |z
  ·exact p3 z
  ·exact d f (by simp) z
theorem pP(hr:M.list? r=some []):qW M .none (.lst r)=some false:=
 (xJ (a:=.none) (b:=.list []) rfl (by show(M.list? r).bind _=_;rw[hr];rfl)).trans rfl
theorem pO(hr:M.list? r=some [])(h:K false M):eL .eq .none (.lst r) M K:=cw (r:=false) (pP hr) h
theorem AZ(hr:M.list? r=some [])(h:K true M):eL .ne .none (.lst r) M K:=cw (r:=true) (congrArg (WX (!·)) (pP hr)) h
theorem gc(pf:LT M xs f of)(p:PT M t a o)(d:bN of o)(hz:xs.length<=bh)(h:∀M',LT M' (xs++[t]) f (of++o)->Upd (of++o) M (of++o) M'->Q .none M'):nV f (.obj a) M Q:=by
 refine j8 (pf.push p d) λas e hl p'=>?_;right
 try refine fv e (by rw[Qc,hl];exact hz) ?_
 exact h _ p' (Upd.put (QW _ pf.head))
theorem zq(pf:LT M xs f of)(hr:M r=none)(hz:xs.length<=bh)(h:∀M' of',LT M' (xs++[.leaf i]) f of'->Upd of M of' M'->Q .none M'):nV f (.obj r) (M.set r (.av (PV i.enc) .none .none)) Q:=by
 have s:=aH.new (o:=.av (PV i.enc) .none .none) hr;refine gc (s.lt pf) (dC (i:=i)) (λc h1 h2=>by
  rw[PL.mp h2] at h1;exact pf.alloc r h1 hr) hz λM' p u=>h M' _ p ?_
 exact((s.upd of).weaken (p1:=of++[r]) (λc hc=>.inl hc) λc hc=>by
  rcases P1.mp hc with hc |hc
  ·exact .inl hc
  ·rw[PL.mp hc];exact .inr (.inr hr)).trans u
theorem Upd.wl(u:Upd of M o' M'):Upd (of++o) M o' M':=u.weaken (λc hc=>.inl (by simp[hc])) λc hc=>.inl hc
theorem uD:(!(T.leaf i).code == 1)=true->cV xs (.leaf i)=xs++[.leaf i]:=by
 induction i using I.casesOn<;>first |exact λ_=>rfl |exact λh=>cy h
theorem CF:(!(T.leaf i).code == 1)=false->i = .oM:=by
 induction i using I.casesOn<;>first |exact λ_=>rfl |exact λh=>jr h
theorem BX:((T.one hh ts).code == 4)=true->∃v,hh = .iff v:=by
 induction hh using H.casesOn<;>first |exact λ_=>⟨_,rfl⟩ |exact λh=>cy h
theorem Bg(pf:LT M xs f of)(p:PT M (.leaf i) a o)(d:bN of o)(hz:xs.length<=bh)(h:∀M' of',LT M' (cV xs (.leaf i)) f of'->Upd (of++o) M of' M'->P .next [x0,some (.lst f),some (.obj a),x3] M'):FN (aj fns (n+1)) [x0,some (.lst f),some (.obj a),x3] M P X:=by
 unfold FN;refine aT pf.at λeQ hl0 hlen0=>?_;have p':=p;unfold PT at p';refine xA p' λe ho=>?_;right;refine aO p ?_;right;refine bB (by generalize i=z9;induction z9 using I.casesOn<;>rfl) ?_
 right;refine aO p ?_;right;refine aJ (λq=>?_) (λq=>?_)
 ·right
  refine ay (by decide) λr hr=>?_;have s:=aH.new (o:=.list []) hr;right;refine AZ (af ai) ?_;have hl1:=s.list hl0;right;refine gc (s.lt pf) (s.pt p) d hz λM' p1 u1=>?_;right;refine h M' _ ?_ ((s.upd _).trans u1);rw[uD q];exact p1
 ·right
  refine h M of ?_ ((Upd.refl _ _).weaken (λc hc=>.inl hc) λc hc=>.inr (.inl (by simp[hc])));have:i = .oM:=CF q;subst this;exact pf
theorem yX(pf:LT M xs f of)(p:PT M (.one hh ts) a o)(d:bN of o)(hz:xs.length<=bh)(h:∀M' of',LT M' (cV xs (.one hh ts)) f of'->Upd (of++o) M of' M'->P .next [x0,some (.lst f),some (.obj a),x3] M'):FN (aj fns (n+1)) [x0,some (.lst f),some (.obj a),x3] M P X:=by
 unfold FN;refine aT pf.at λeQ hl0 hlen0=>?_;refine aX p.lq λb o1 e pb na ho=>?_;refine aT pb.at λbs hb hbl=>?_;have push:∀{M1:Mem}{Q:V->Mem->Prop},aH M M1->cV xs (.one hh ts)=xs++[.one hh ts]->(∀M',P .next [x0,some (.lst f),some (.obj a),x3] M'->Q .none M')->nV f (.obj a) M1 Q:=λs z hq=>
  gc (s.lt pf) (s.pt p) d hz λM' p1 u1=>hq M' (h M' _ (by rw[z];exact p1) ((s.upd _).trans u1))
 right;refine aO p ?_;right;refine aJ (λq=>?_) (λq=>?_)
 ·obtain⟨v,rfl⟩:=BX q
  right;refine ay (by decide) λr hr=>?_;have s:=aH.new (o:=.list []) hr;right;refine mc (s.list hb) (af ai) ?_;have hl1:=s.list hl0;have e1:=s.at e;have s1:=s;generalize M.set r (.list [])=M1 at *;induction ts using PI with
  |nil=>
   refine cf (by induction bs using PI with |nil=>rfl |cons _ _=>simp at hbl) ?_
   right;intro r2 hr2;right;refine zq (i:=.drop) (s.lt pf) hr2 hz λM' of' p1 u1=>?_;right;exact h M' of' p1 ((s.upd _).trans u1.wl)
  |cons t ts=>
   refine bB (by induction bs using PI with |nil=>simp at hbl |cons _ _=>rfl) ?_
   right;refine aO (s.pt p) ?_;right;refine ay (by decide) λr2 hr2=>?_;have s2:=aH.new (o:=.list []) hr2;have hl2:=s2.list hl1;right;refine gA (s2.list (s1.list hb)) (af ai) ?_;refine cf (by induction bs using PI with |nil=>simp at hbl |cons _ _=>rfl) ?_
   right;refine push (s1.trans s2) rfl λM' hM=>?_;right;exact hM
 ·have hv:∀v,hh≠.iff v:=λv z=>by subst z;exact jr q
  right;refine aO p ?_;right;refine cf (by generalize hh=z9;induction z9 using H.casesOn<;>rfl) ?_
  right;refine ay (by decide) λr2 hr2=>?_;have s2:=aH.new (o:=.list []) hr2;have hl2:=s2.list hl0;right;refine gA (s2.list hb) (af ai) ?_;induction ts using PI with
  |nil=>
   refine bB (by induction bs using PI with |nil=>rfl |cons _ _=>simp at hbl) ?_
   right;refine h _ of ?_ ((s2.upd _).weaken (λc hc=>.inl hc) λc hc=>.inr (.inl (by simp[hc])));have:cV xs (.one hh [])=xs:=by
    induction hh using H.casesOn<;>first |rfl |(exact absurd rfl (hv _))
   rw[this];exact s2.lt pf
  |cons t ts=>
   refine cf (by induction bs using PI with |nil=>simp at hbl |cons _ _=>rfl) ?_
   right;refine push s2 (by generalize hh=z9;induction z9 using H.casesOn<;>rfl) λM' hM=>?_
   right;exact hM
theorem E8:us≠[]->cV xs (.two v [] us)=xs++[.leaf .ic,.one (.iff v) us]:=by
 induction us using PI with
 |nil=>exact λh=>absurd rfl h
 |cons _ _=>exact λ_=>rfl
theorem Gl:us≠[]->cV xs (.two v (t::ts) us)=xs++[.two v (t::ts) us]:=by
 induction us using PI with
 |nil=>exact λh=>absurd rfl h
 |cons _ _=>exact λ_=>rfl
theorem E6(hu:us≠[])(pf:LT M xs f of)(p:PT M (.two v ts us) a o)(d:bN of o)(hz:xs.length+2<=bh)(h:∀M' of',LT M' (cV xs (.two v ts us)) f of'->Upd (of++o) M of' M'->P .next [x0,some (.lst f),some (.obj a),x3] M'):FN (aj fns (n+1)) [x0,some (.lst f),some (.obj a),x3] M P X:=by
 unfold FN;refine aT pf.at λeQ hl0 hlen0=>?_;refine cM p.nv λb o1 g o2 e pb pg n1 n2 n3 n4=>?_;refine aT pb.at λbs hb hbl=>?_;right;refine aO p ?_;right;refine ay (by decide) λr hr=>?_;have s:=aH.new (o:=.list []) hr;right;refine mc (s.list hb) (af ai) ?_;have hl1:=s.list hl0;have e1:=s.at e;have s1:=s;generalize M.set r (.list [])=M1 at *;induction ts using PI with
 |nil=>
  refine cf (by induction bs using PI with |nil=>rfl |cons _ _=>simp at hbl) ?_
  right;intro r2 hr2;have s2:=aH.new (o:=.av (PV I.ic.enc) .none .none) hr2;have e2:=s2.at e1;have hl2:=s2.list hl1;right;intro r3 hr3;have s3:=aH.new (o:=.av (PV (H.iff v).enc) (.lst g) .none) hr3;right;refine ay (by simp[bh]) λr4 hr4=>?_;have s4:=aH.new (o:=.list [.obj r2,.obj r3]) hr4;have s34:=s3.trans s4;have z2:PT ((((M1.set r2 (.av (PV I.ic.enc) .none .none)).set r3 (.av (PV (H.iff v).enc) (.lst g) .none)).set r4 (.list [.obj r2,.obj r3]))) (.leaf .ic) r2 [r2]:=s34.pt (dC (M:=M1) (r:=r2) (i:=.ic));have hg3:r3∉o2:=λz=>((s1.trans s2).lt pg).alloc r3 z hr3;have z3:=s4.pt (PT.yT (h:=.iff v) (a:=r3) (b:=g) ai ((s1.trans (s2.trans s3)).lt pg) hg3);have sall:aH M _:=s1.trans (s2.trans s34);have hr2':M r2=none:=s1.back hr2;have hr3':M r3=none:=(s1.trans s2).back hr3;have n23:r2≠r3:=λz=>by rw[<- z,ai] at hr3;exact b8 hr3
  have zz:=bP.append (bZ z2) (bZ z3) (bN.one λq=>(PJ.mp q).elim n23 λq=>pg.alloc r2 q hr2');have dj:bN of ([r2]++(r3::o2)):=bN.HK (λq=>pf.alloc _ q hr2') (bN.HK (λq=>pf.alloc _ q hr3') λc h1 h2=>d c h1 ((n4 c).mpr (.inr (.inr h2))));refine j8 ((sall.lt pf).Hw zz dj) λas ee hl pp=>?_;right;refine wq ee (af ai) (λz=>?_) (by simp[hl];exact nA hz) ?_
  ·have:=aw (((s1.trans s2).trans s3).list hl0)
   rw[z] at this;exact b8 (this.symm.trans hr4)
  right;refine h _ _ (by rw[E8 hu];exact pp) ?_;exact((sall.upd (of++o)).weaken (p1:=of++([r2]++(r3::o2))) (λc hc=>.inl hc) (EX (λc hc=>.inl (QW _ hc)) (all_cons (.inr (.inr hr2')) (all_cons (.inr (.inr hr3')) λc hc=>.inl (Rp _ ((n4 c).mpr (.inr (.inr hc)))))))).trans (Upd.put (QW _ pf.head))
 |cons t ts=>
  refine bB (by induction bs using PI with |nil=>simp at hbl |cons _ _=>rfl) ?_
  right;refine aO (s.pt p) ?_;right;refine ay (by decide) λr2 hr2=>?_;have s2:=aH.new (o:=.list []) hr2;have hl2:=s2.list hl1;right;refine gA (s2.list (s1.list hb)) (af ai) ?_;refine cf (by induction bs using PI with |nil=>simp at hbl |cons _ _=>rfl) ?_
  right;have s12:=s1.trans s2;refine gc (s12.lt pf) (s12.pt p) d (by exact nA hz) λM' p1 u1=>?_;right;refine h M' _ ?_ ((s12.upd _).trans u1);rw[Gl hu];exact p1
theorem Fb(hz:B<=400000):k8 (aj fns (n+1)) [MF,FN] cV B D:=λM b f a x3 xs t of o P pf p d hB hD h=>by
 have hlen:=dk xs;have hz':xs.length+2<=bh:=by unfold bh;exact nA hlen (nA hB (nA hz))
 refine b0 ?_;unfold MF;induction t using T.casesOn with
 |leaf i=>
  have p':=p;unfold PT at p';refine xA p' λe ho=>?_;right;refine ay (by decide) λr hr=>?_;have s:=aH.new (o:=.list []) hr;right;refine pO (af ai) ?_;refine Bg (s.lt pf) (s.pt p) d (by exact nA hz') λM' of' p1 u1=>?_;right;exact h M' of' p1 ((s.upd _).trans u1)
 |one hh ts=>
  refine aX p.lq λb1 o1 e pb na ho=>?_;right;refine ay (by decide) λr hr=>?_;have s:=aH.new (o:=.list []) hr;right;refine pO (af ai) ?_;refine yX (s.lt pf) (s.pt p) d (by exact nA hz') λM' of' p1 u1=>?_;right;exact h M' of' p1 ((s.upd _).trans u1)
 |two v ts us=>
  refine cM p.nv λb1 o1 g o2 e pb pg n1 n2 n3 n4=>?_;refine aT pg.at λgs hg hgl=>?_;right;refine ay (by decide) λr hr=>?_;have s:=aH.new (o:=.list []) hr;right;refine mc (s.list hg) (af ai) ?_;induction us using PI with
  |nil=>
   refine cf (by induction gs using PI with |nil=>rfl |cons _ _=>simp at hgl) ?_
   right;refine mC (s.at e) ?_;have ha:a∈o:=(n4 a).mpr (.inl rfl);have u0:Upd (of++o) M (of++(a::o1)) ((M.set r (.list [])).set a (.av (PV [4,jq v]) (.lst b1) .none)):=((s.upd (of++o)).trans (Upd.put (Rp _ ha))).weaken (λc hc=>.inl hc) λc hc=>.inl (by
    simp only[P1,PJ] at hc |-;rcases hc with hc |rfl |hc
    ·exact .inl hc
    ·exact .inr ha
    ·exact .inr ((n4 c).mpr (.inr (.inl hc))))
   have pa:PT ((M.set r (.list [])).set a (.av (PV [4,jq v]) (.lst b1) .none)) (.one (.iff v) ts) a (a::o1):=PT.yT (h:=.iff v) ai ((s.lt pb).frame λc hc=>aA λz=>n1 (z ▸ hc)) n1;have dj:bN of (a::o1):=λc h1 h2=>d c h1 (by
    rcases PJ.mp h2 with rfl |h2
    ·exact ha
    ·exact(n4 c).mpr (.inr (.inl h2)))
   refine yX ((s.lt pf).frame λc hc=>aA λz=>d c hc (z ▸ ha)) pa dj (by exact nA hz') λM' of' p1 u1=>?_;right;refine h M' of' ?_ (u0.trans u1);have:cV xs (.two v ts [])=cV xs (.one (.iff v) ts):=by generalize ts=z9;induction z9 using PI<;>rfl
   rw[this];exact p1
  |cons u us=>
   refine bB (by induction gs using PI with |nil=>simp at hgl |cons _ _=>rfl) ?_
   refine E6 (by simp) (s.lt pf) (s.pt p) d hz' λM' of' p1 u1=>?_;right;exact h M' of' p1 ((s.upd _).trans u1)
theorem tR(hz:B<=400000):∀(d:Nat),d<=D->∀(ts:List T),dep ts<=d->mu ts<=B->∀n,8+d<=n->fR n 40 [] (qn cV) ts:=λd hd ts hdt hm n hn=>
 mh (F:=40) (rest:=[MF,FN]) (D:=D) rfl my hz (m:=5) (λk hk=>Fb hz) d hd ts hdt hm n (by exact nA hn)
theorem D9(hf:fns F=some ⟨1,4,me F rest⟩)(tame:Tame σ)(hz:B<=400000)(hσ:∀D n,m+D<=n->k8 (aj fns (n+1)) rest σ B D):∀(d:Nat)(ts:List T),dep ts<=d->mu ts<=B->∀n,m+d+2<=n->fR n F [] (qn σ) ts:=by
 have kid_mu:∀{t:T}{us ts:List T},t∈us->oO t ts->mu ts<=mu us:=λ{t us ts} ht hk=>by
  have:eh t<=mu us:=by
   clear hk;induction us with
   |nil=>cases ht
   |cons t' us ih=>
    rw[bY];rcases PJ.mp ht with rfl |ht
    ·exact nZ
    ·have:=ih ht;exact nA this
  rcases hk with⟨h',rfl⟩ |⟨v,ws,rfl⟩ |⟨v,ws,rfl⟩<;>unfold eh at this<;>exact nA this
 intro d;induction d with
 |zero=>
  intro ts hd hm n hn;obtain⟨k,rfl⟩:∃k,n=k+2:=⟨n - 2,by exact PN (nA (nS (n) (2))) (nA (nT (n) (2) (nA hn)))⟩;exact r8 hf tame hz (hσ 0 k (by exact nA hn)) (by exact nA hd) hm λt ht us hk=>(iS hd ht hk).elim
 |succ d ih=>
  intro ts hd hm n hn;obtain⟨k,rfl⟩:∃k,n=k+2:=⟨n - 2,by exact PN (nA (nS (n) (2))) (nA (nT (n) (2) (nA hn)))⟩;exact r8 hf tame hz (hσ (d+1) k (by exact nA hn)) hd hm λt ht us hk=>ih us (ko hd ht hk) (PH (kid_mu ht hk) hm) _ (by exact nA hn)
theorem vv(hv:∀v,hh≠.iff v)(hz:B<=400000)(hn:D+2<=n+1)(pf:LT M xs f of)(p:PT M (.one hh ts) a o)(d:bN of o)(hB:mu xs+eh (.one hh ts)<=B)(hD:bO (.one hh ts)<=D)(h:∀M' of',LT M' (if ey ts 0 then xs++[.one hh ts] else xs++low ts 0) f of'->Upd (of++o) M of' M'->P .next [x0,some (.lst f),some (.obj a),x3] M'):Jj (aj fns (n+1)) [x0,some (.lst f),some (.obj a),x3] M P X:=by
 unfold Jj;refine aT pf.at λeQ hl0 hlen0=>?_;refine aX p.lq λb o1 e pb na ho=>?_;have hdep:dep ts+1<=D:=by unfold bO at hD;exact hD
 have hxs:=dk xs;right;refine aO p ?_;right
 try refine bJ [2,3] ?_
 refine cf (by induction hh using H.casesOn<;>first |rfl |(exact absurd rfl (hv _))) ?_
 right;show aj fns (n+1) 19 [.lst b,.int ((0:Nat):Int)] _ _ _;refine nO (dep ts) ts (PK _) (n+1) (by exact nA hdep (nA hn)) M b o1 0 _ _ pb λM1 s1=>?_;right;refine aJ (λq=>?_) (λq=>?_)
 ·have q:ey ts 0=false:=by simpa using q
  right;have e1:=s1.at e;right;show aj fns (n+1) 20 [.lst b,.int ((0:Nat):Int)] _ _ _;refine w_lower (dep ts) ts (PK _) (n+1) (by exact nA hdep (nA hn)) 0 M1 b o1 _ _ (s1.lt pb) λM2 o1' p2 u=>?_;have e2:M2 a=_:=(u.ext a (by rw[e1];simp) na).trans e1;have df:bN o1 of:=λc h1 h2=>d c h2 (by rw[ho];exact .tail _ h1);refine xA (u.apart df (s1.lt pf).alloc) λdj keep=>?_;have pf2:=(s1.lt pf).frame keep;refine aT pf2.at λas2 hl2 hlen2=>?_
  (refine aX p2 λbs o2 p2l p2s nb q5q=>?_;obtain rfl:=q5q)
  have dj2:bN of o2:=λc h1 h2=>dj c (.tail _ h2) h1;refine j8 (pf2.Hw p2s dj2) λas3 e3 hlen3 p3=>?_;right;refine wq e3 (af p2l) (λz=>dj b (.head _) (z ▸ pf.head)) ?_ ?_
  ·have l1:bs.length=(low ts 0).length:=p2s.length
   have l2:=dk (low ts 0);have l3:=(gU.2 ts 0).1;unfold eh at hB;simp only[Qc];unfold bh;exact nQ hlen3 (nQ l1 (nA l2 (nQ l3 (nA hB (nA hz (nA hxs))))))
  right;rw[q] at h;refine h _ _ p3 ?_;exact(((s1.upd o1).trans u).weaken (p0:=of++o) (p1:=of++o2) (λc hc=>.inl (Rp _ (by rw[ho];exact .tail _ hc))) λc hc=>by
   rcases P1.mp hc with hc |hc
   ·exact .inr (.inl (QW _ hc))
   ·exact .inl (.tail _ hc)).trans (Upd.put (QW _ pf.head))
 ·have q:ey ts 0=true:=by simpa using q
  have hl1:=s1.list hl0;right;refine gc (s1.lt pf) (s1.pt p) d (by unfold bh;exact nA hxs (nA hB (nA hz))) λM' p1 u1=>?_;right;rw[q] at h;exact h M' _ p1 ((s1.upd _).trans u1)
theorem IC(hz:B<=400000)(hn:D+1<=n):k8 (aj fns (n+1)) [Jj] m9 B D:=λM b f a x3 xs t of o P pf p d hB hD h=>by
 refine b0 ?_;have other:t.code≠2->t.code≠3->m9 xs t=xs++[t]->Jj (aj fns (n+1)) [some (.lst b),some (.lst f),some (.obj a),x3] M (j7 (aj fns (n+1)) (ae []) P λ_=>False) λ_=>False:=λz2 z3 hz'=>by
  unfold Jj;refine aT pf.at λeQ hl0 hlen0=>?_;right;refine aO p ?_;right
  try refine bJ [2,3] ?_
  refine bB (by simp;lia) ?_;right;refine gc pf p d (by have:=dk xs;unfold bh;exact nA this (nA hB (nA hz))) λM' p1 u1=>?_;right;exact h M' _ (by rw[hz'];exact p1) u1
 induction t using T.casesOn with
 |leaf i=>exact other (by generalize i=z9;induction z9 using I.casesOn<;>simp[T.code,cd,T.firstTok,I.enc]) (by generalize i=z9;induction z9 using I.casesOn<;>simp[T.code,cd,T.firstTok,I.enc]) rfl
 |two v ts us=>exact other (by simp[T.code,cd,T.firstTok]) (by simp[T.code,cd,T.firstTok]) rfl
 |one hh ts=>
  induction hh using H.casesOn with
  |iff v=>exact other (by simp[T.code,cd,T.firstTok,H.enc]) (by simp[T.code,cd,T.firstTok,H.enc]) rfl
  |dg v=>exact vv (by simp) hz (by exact nA hn) pf p d hB hD λM' of' p1 u1=>bq (cJ (h M' of' p1 u1))
  |ku=>exact vv (by simp) hz (by exact nA hn) pf p d hB hD λM' of' p1 u1=>bq (cJ (h M' of' p1 u1))
theorem oI(hz:B<=400000):∀(d:Nat)(ts:List T),dep ts<=d->mu ts<=B->∀n,8+d<=n->fR n 41 [] (qn m9) ts:=λd ts hdt hm n hn=>
 D9 (F:=41) (rest:=[Jj]) rfl qt hz (m:=5) (λD k hk=>IC hz (by exact nA hk)) d ts hdt hm n (by exact nA hn)
theorem pY(t:T):([0,12,14,15,18,19]:List Int).any (λy=>y == t.code)=dU t:=by
 induction t using T.casesOn with
 |leaf i=>induction i using I.casesOn<;>rfl
 |one h a=>induction h using H.casesOn<;>rfl
 |two v a b=>rfl
def CG(n:Nat)(ts:List T):Prop:=∀(M:Mem)(b:Nat)(o:List Nat)(Q:V->Mem->Prop)(X:Mem->Prop),LT M ts b o->(∀M',aH M M'->Q (.bool (yw ts)) M')->aj fns n 33 [.lst b] Q X M
def n5(n:Nat)(t:T):Prop:=∀(M:Mem)(a:Nat)(o:List Nat)(Q:V->Mem->Prop)(X:Mem->Prop),PT M t a o->(∀M',aH M M'->Q (.bool (Ep t)) M')->aj fns n 34 [.obj a] Q X M
theorem OE{b:Bool}{v:V}{a:ME}(h1:b=true->Q (.bool true) M)(h0:b=false->a c l M Q X):(if b=true then Q (.bool b) M else a c l M Q X):=by
 induction b using PU with
 |true=>exact h1 rfl
 |false=>exact h0 rfl
theorem IZ(hN:∀t∈ts,n5 (n+1) t):CG (n+2) ts:=λM b o Q X p h=>by
 refine aM (l:=[some (.lst b),none]) rfl rfl rfl ?_;refine aT p.at λeQ hl0 hlen0=>?_;right;refine ay (by decide) λr hr=>?_;have s:=aH.new (o:=.list []) hr;right;refine mc (s.list hl0) (af ai) ?_;rcases QB ts with rfl |⟨ys,t,rfl⟩
 ·refine cf (by simp at hlen0;simp[hlen0]) ?_
  right;have:=h _ s;unfold yw at this;exact this
 ·refine bB (by induction eQ using PI with |nil=>simp at hlen0 |cons _ _=>rfl) ?_
  have e2:ys.concat t=ys++[t]:=by simp
  rw[e2] at p h hN;refine f9 p.view λas an oy oz w=>?_;have pz:=w.pz;unfold bP at pz
  (refine aQ pz λa as' o1 o2 q4q pa q2 q3 q8q=>?_;obtain rfl:=q4q;obtain rfl:=q8q)
  unfold bP at q2
  (refine xA q2 λq0q q1q=>?_;obtain rfl:=q0q;obtain rfl:=q1q)
  have hl:M.list? b=some (as.map .obj++[.obj a]):=w.list;right;refine aY (s.list hl) jv ?_;right;refine aO (s.pt pa) ?_;right
  try refine bJ [0,12,14,15,18,19] ?_
  rw[pY];have hnev:yw (ys++[t])=(dU t || Ep t):=by
   clear hN p h w e2 hl hl0 hlen0;induction ys with
   |nil=>simp[yw]
   |cons y ys ih=>
    rw[Qz];induction hy:ys++[t] using PI with
    |nil=>simp at hy
    |cons z zs=>
     rw[hy] at ih;rw[yw]
     ·exact ih
     ·simp
  rw[hnev] at h;right;induction hlast:dU t using PU with
  |true=>
   rw[hlast] at h;right;exact h _ s
  |false=>
   rw[hlast] at h;right;refine hN t (by simp) _ a o1 _ _ (s.pt pa) λM' s'=>?_;right;exact h _ (s.trans s')
theorem CP(hN:∀ts,oO t ts->CG (n+1) ts/\gW (n+1) ts):n5 (n+2) t:=λM a o Q X p h=>by
 refine aM (l:=[some (.obj a)]) rfl rfl rfl ?_;induction t using T.casesOn with
 |leaf i=>
  have p':=p;unfold PT at p';refine xA p' λe ho=>?_;right;have:=h M (.refl M);unfold Ep at this;exact this
 |one hh ts=>
  refine aX p.lq λb o1 e pb na ho=>?_;have hk:=hN ts (.inl ⟨hh,rfl⟩);right;refine hk.1 M b o1 _ _ pb λM1 s1=>?_;unfold Ep at h;induction hnev:yw ts using PU with
  |false=>
   rw[hnev] at h;right;exact h M1 s1
  |true=>
   rw[hnev] at h;right;refine aO (s1.pt p) ?_;have e1:=s1.at e;induction hh using H.casesOn with
   |ku=>
    right;exact h M1 s1
   |iff v=>
    right;refine aO (s1.pt p) ?_;right;exact h M1 s1
   |dg v=>
    right;refine aO (s1.pt p) ?_;right;refine fH ?_;right;refine eK e1 (fB e1 λr hr=>?_);right;have s2:=aH.new (o:=.list (bV (.lst b) .none)) hr;have hlr:(M1.set r (.list (bV (.lst b) .none))).list? r=some [.lst b]:=af ai;right;refine cZ hlr ⟨trivial,2,?_⟩;refine sI (v:=.lst b) (by show(Mem.list? _ _).map _=_;rw[hlr];rfl) (by decide) ?_;show ah 19 _ _ [some (.obj a),some (.lst b)] _ _ _;right;show aj fns (n+1) 19 [.lst b,.int ((0:Nat):Int)] _ _ _;refine hk.2 _ b o1 0 _ _ ((s1.trans s2).lt pb) λM3 s3=>?_;have hlr3:=s3.list hlr;refine ix (by show(Mem.list? _ _).map _=_;rw[hlr3];rfl) ?_;refine ay (by simp[bh]) λr4 hr4=>?_;right;refine C9 (bs:=[ey ts 0]) (af ai) ?_;right;have hz:Q (.bool (true && !ey ts 0)) _:=h _ (((s1.trans s2).trans s3).trans (aH.new (o:=.list [.bool (ey ts 0)]) hr4));have ez:(!([ey ts 0].any id))=(true && !ey ts 0):=by simp
    rw[<- ez] at hz;exact hz
 |two v ts us=>
  refine cM p.nv λb o1 g o2 e pb pg n1 n2 n3 n4=>?_;have hk1:=hN ts (.inr (.inl ⟨v,us,rfl⟩));have hk2:=hN us (.inr (.inr ⟨v,ts,rfl⟩));right;refine hk1.1 M b o1 _ _ pb λM1 s1=>?_;unfold Ep at h;induction hnev:yw ts using PU with
  |false=>
   rw[hnev] at h;right;exact h M1 s1
  |true=>
   rw[hnev] at h;right;refine aO (s1.pt p) ?_;have e1:=s1.at e;right;refine aO (s1.pt p) ?_;right;refine hk2.1 M1 g o2 _ _ (s1.lt pg) λM2 s2'=>?_;have s2:=s1.trans s2';have e2:=s2.at e;induction hnev2:yw us using PU with
   |false=>
    rw[hnev2] at h;right;exact h M2 s2
   |true=>
    rw[hnev2] at h;right;refine fH ?_;right;refine eK e2 (fB e2 λr hr=>?_);right;have s3:=s2.trans (aH.new (o:=.list (bV (.lst b) (.lst g))) hr);have hlr:(M2.set r (.list (bV (.lst b) (.lst g)))).list? r=some [.lst b,.lst g]:=af ai;right;refine cZ hlr ⟨trivial,3,?_⟩;refine sI (v:=.lst b) (by show(Mem.list? _ _).map _=_;rw[hlr];rfl) (by decide) ?_;show ah 19 _ _ [some (.obj a),some (.lst b)] _ _ _;right;show aj fns (n+1) 19 [.lst b,.int ((0:Nat):Int)] _ _ _;refine hk1.2 _ b o1 0 _ _ (s3.lt pb) λM3 s4=>?_;have hlr3:=s4.list hlr;refine sI (v:=.lst g) (by show(Mem.list? _ _).map _=_;rw[hlr3];rfl) (by simp[bh]) ?_;show ah 19 _ _ [some (.obj a),some (.lst g)] _ _ _;right;show aj fns (n+1) 19 [.lst g,.int ((0:Nat):Int)] _ _ _;refine hk2.2 _ g o2 0 _ _ ((s3.trans s4).lt pg) λM4 s5=>?_;have hlr4:=s5.list hlr3;refine ix (by show(Mem.list? _ _).map _=_;rw[hlr4];rfl) ?_;refine ay (by simp[bh]) λr4 hr4=>?_;right;refine C9 (bs:=[ey ts 0,ey us 0]) (af ai) ?_;right;have hz:Q (.bool (true && true && !(ey ts 0 || ey us 0))) _:=h _ (((s3.trans s4).trans s5).trans (aH.new (o:=.list [.bool (ey ts 0),.bool (ey us 0)]) hr4))
    have ez:(!([ey ts 0,ey us 0].any id))=(true && true && !(ey ts 0 || ey us 0)):=by simp
    rw[<- ez] at hz;exact hz
theorem uJ(hd:bO t<=d+1)(hk:oO t ts):dep ts<=d:=nC hd hk
theorem GN:∀(d:Nat),(∀t,bO t<=d->∀n,2 * d+3<=n->n5 n t):=by
 have nev_of:∀{d:Nat},(∀t,bO t<=d->∀n,2 * d+3<=n->n5 n t)->∀ts,dep ts<=d->∀n,2 * d+4<=n->CG n ts:=λ{d} ih ts hd n hn=>by
  obtain⟨k,rfl⟩:∃k,n=k+2:=⟨n - 2,by exact PN (nA (nS (n) (2))) (nA (nT (n) (2) (nA hn)))⟩;refine IZ λt ht=>ih t ?_ _ (by exact nA hn);clear hn ih;induction ts with
  |nil=>cases ht
  |cons u us ihs=>
   have:=jE hd;rcases PJ.mp ht with rfl |ht
   ·exact this.1
   ·exact ihs this.2 ht
 intro d;induction d with
 |zero=>
  intro t hd n hn;obtain⟨k,rfl⟩:∃k,n=k+2:=⟨n - 2,by exact PN (nA (nS (n) (2))) (nA (nT (n) (2) (nA hn)))⟩;refine CP λts hk=>?_;rcases hk with⟨h',rfl⟩ |⟨v,ws,rfl⟩ |⟨v,ws,rfl⟩<;>(unfold bO at hd;exact⟨(nF (nA hd)).elim,(nF (nA hd)).elim⟩)
 |succ d ih=>
  intro t hd n hn;obtain⟨k,rfl⟩:∃k,n=k+2:=⟨n - 2,by exact PN (nA (nS (n) (2))) (nA (nT (n) (2) (nA hn)))⟩;exact CP λts hk=>⟨nev_of ih ts (uJ hd hk) _ (by exact nA hn),nO d ts (uJ hd hk) _ (by exact nA hn)⟩
theorem js{xs:List V}(h:k<=xs.length):cu xs ys (some (k:Int)) none=xs.take k++ys:=by
 unfold cu;simp only;have e:bA (k:Int) xs.length=k:=by
  unfold bA;rw[if_neg (by exact λz=>iF (iA z (iA (Qe (k)))))];lia
 rw[e,show max k xs.length=xs.length by lia,UE,Qg]
theorem Am(t:T):bx t=mT dead t:=by
 induction t using T.casesOn with
 |leaf i=>unfold bx;rfl
 |one h a=>unfold bx;rfl
 |two v a b=>unfold bx;rfl
theorem vm(p:PT M t a o)(hN:∀ts,oO t ts->fR (n+1) F [] φ ts)(h:∀M' o' x,PT M' (mT φ t) a o'->Upd o M o' M'->P .next [x0,x1,some (.obj a),x] M'):bX (.one 3) (g5 (dw 14 (ab 2))) (ae [bj (ah F [(ab 3)])]) (aj fns (n+1)) [x0,x1,some (.obj a),x3] M P X:=by
 refine jF p (λts hk M q o P pl h=>?_) h;right;refine hN ts hk M q o _ _ pl λM' o' p' u=>?_;right;exact h M' o' p' u
theorem Aj(hz:B<=400000):∀{us:List T},(∀t∈us,∀ts,oO t ts->fR (n+1) 35 [] dead ts)->(∀t∈us,n5 (n+1) (bx t))->
  ∀{M:Mem}{pre:List T}{ap op au ou:List Nat}{k:Nat}{x1 x2 x3:Option V},M.list? b=some ((ap++au).map .obj)->ap.length=k->bP M pre ap op->bP M us au ou->bN op ou->b∉op->b∉ou->mu pre+mu us<=B->
  (∀M' o' x y z,LT M' (pre++dead us) b o'->Upd (b::(op++ou)) M o' M'->P .next [some (.lst b),x,y,z] M'/\P (.ret .none) [some (.lst b),x,y,z] M')->
  ct (aj fns (n+1)) (.two 1 2) MJ (.kG b) (us.length+1) k [some (.lst b),x1,x2,x3] M P:=by
 intro us;induction us with
 |nil=>
  intro _ _ M pre ap op au ou k x1 x2 x3 hb hk pp p d nb1 nb2 hB h;unfold bP at p
  (refine xA p λq0q q1q=>?_;obtain rfl:=q0q;obtain rfl:=q1q)
  rw[Qg] at hb;refine cH ?_ (h M (b::op) _ _ _ ⟨ap,op,aw hb,by unfold dead;simpa using pp,nb1,rfl⟩ ((Upd.refl _ _).weaken (λc hc=>.inl hc) λc hc=>.inl (by simpa using hc))).1;show(M.list? b).map _=_;rw[hb,Qj,Qp (by simp;exact nQ hk)];rfl
 |cons t us ih=>
  intro hN hG M pre ap op au ou k x1 x2 x3 hb hk pp p d nb1 nb2 hB h;unfold bP at p
  (refine aQ p λa as' o1 o2 q4q p1 p2 d12 q8q=>?_;obtain rfl:=q4q;obtain rfl:=q8q)
  have ha:((ap++a::as').map V.obj)[k]?=some (.obj a):=by
   rw[QE,Rj (by exact nQ hk),hk,TP];rfl
  rw[bY] at hB;refine dY (v:=.tup [.int k,.obj a]) (l1:=[some (.lst b),some (.int k),some (.obj a),x3]) (by show(M.list? b).map _=_;rw[hb,Qj,ha];rfl) rfl ?_;unfold MJ;refine b0 ?_;refine vm p1 (hN t (.head _)) λM1 o1' x q1 u1=>bq ?_;rw[<- Am] at q1;have nb_o1:b∉o1:=λz=>nb2 (by simp[z]);refine xA (u1.apart (p:=o2) d12 p2.alloc) λda keepa=>?_;refine xA (u1.apart (p:=op) (λc h1 h2=>d c h2 (by simp[h1])) pp.alloc) λdb keepb=>?_;have hb1:=u1.hU hb nb_o1;have nb_o1':b∉o1':=u1.eI (by rw[aw hb];simp) nb_o1;have pp1:=pp.frame keepb;have p21:=p2.frame keepa;have tm:=fQ.1 t;have pz:bP M1 (pre++[bx t]) (ap++[a]) (op++o1'):=bP.append pp1 (bZ q1) db.symm;have v1:Upd (b::(op++(o1++o2))) M (b::(op++(o1'++o2))) M1:=u1.weaken (λc hc=>.inl (by simp[hc])) λc hc=>by
   simp only[P1,PJ] at hc;rcases hc with rfl |hc |hc |hc
   ·exact .inr (.inl (by simp))
   ·exact .inr (.inl (by simp[hc]))
   ·exact .inl hc
   ·exact .inr (.inl (by simp[hc]))
  have lens:ap.length=pre.length/\as'.length=us.length:=⟨pp.length,p2.length⟩;have hlen:((ap++a::as').map V.obj).length=k+1+us.length:=by simp;exact PN (nQ hk (nQ lens.2)) (nR hk (nR lens.2))
  have htk:((ap++a::as').map V.obj).take (k+1)=(ap++[a]).map V.obj:=by
   rw[<- VD];congr 1;rw[<- hk,show ap++a::as'=(ap++[a])++as' by simp,show ap.length+1=(ap++[a]).length by simp,T4]
  have hlz:k+1+us.length<=400000:=by
   have l1:=dk pre;have l2:=dk us;have l3:=qY t;exact nR hk (nQ lens.1 (nA l1 (nA hB (nA hz (nA l2 (nA l3))))))
  right;refine aO q1 ?_;right
  try refine bJ [0,12,14,15,18,19] ?_
  rw[pY];refine aJ (λq=>?_) (λq=>?_)
  ·right
   refine ay (by decide) λr hr=>?_;have s:=aH.new (o:=.list []) hr;right;rw[show((k:Int)+1)=((k+1:Nat):Int) by rfl];have ne:b≠r:=λz=>by rw[<- z,aw hb1] at hr;exact b8 hr
   refine yz (s.list hb1) (af ai) ne (by rw[hlen];simp;unfold bh;exact nA hlz) ?_;rw[js (by rw[hlen];exact nZ),htk,Qg];right;refine(h _ (b::(op++o1')) _ _ _ ⟨ap++[a],op++o1',ai,?_,?_,rfl⟩ ?_).2
   ·have:pre++dead (t::us)=pre++[bx t]:=by unfold dead;rw[if_pos q]
    rw[this];exact(s.HA pz).frame λc hc=>aA λz=>by
     subst z;rcases P1.mp hc with hc |hc
     ·exact nb1 hc
     ·exact nb_o1' hc
   ·intro hc
    rcases P1.mp hc with hc |hc
    ·exact nb1 hc
    ·exact nb_o1' hc
   ·exact(v1.trans ((s.upd _).trans (Upd.put (by simp)))).weaken (λc hc=>.inl hc) λc hc=>.inl (by
     simp only[P1,PJ] at hc |-;rcases hc with hc |hc |hc<;>simp[hc])
  ·right
   have step:∀M2,aH M1 M2->dead (t::us)=bx t::dead us->ct (aj fns (n+1)) (.two 1 2) MJ (.kG b) (us.length+1) (k+1) [some (.lst b),some (.int k),some (.obj a),x] M2 P:=λM2 s hd=>by
    have e1:(ap++[a])++as'=ap++a::as':=by simp
    refine ih (λt' ht=>hN t' (.tail _ ht)) (λt' ht=>hG t' (.tail _ ht)) (pre:=pre++[bx t]) (ap:=ap++[a]) (op:=op++o1') (by rw[e1];exact s.list hb1) (by simp;exact PN (nQ hk) (nR hk)) (s.HA pz) (s.HA p21) (λc h1 h2=>?_) (λhc=>?_) (λz=>nb2 (by simp[z])) ?_ λM' o' x' y' z' p' u'=>?_
    ·rcases P1.mp h1 with h1 |h1
     ·exact d c h1 (by simp[h2])
     ·exact da c h1 h2
    ·rcases P1.mp hc with hc |hc
     ·exact nb1 hc
     ·exact nb_o1' hc
    ·rw[aK];simp only[bY,mu];exact nA hB (nA tm.1)
    ·refine h M' o' x' y' z' ?_ (v1.trans ((s.upd _).trans (u'.weaken (λc hc=>.inl ?_) λc hc=>.inl hc)))
     ·rw[hd,show pre++bx t::dead us=(pre++[bx t])++dead us by simp];exact p'
     ·simp only[P1,PJ] at hc |-
      rcases hc with hc |(hc |hc) |hc<;>simp[hc]
   induction us using PI with
   |nil=>
    refine bB (by rw[decide_eq_false_iff_not,hlen];simp) ?_;right;exact(step M1 (.refl M1) (by unfold dead;rw[if_neg (by rw[q];decide)];rfl))
   |cons u us=>
    refine cf (by rw[decide_eq_true_eq,hlen];simp;exact iA (Qe (us.length))) ?_;right;refine hG t (.head _) M1 a o1' _ _ q1 λM2 s2=>?_;right;refine aJ (λg=>?_) (λg=>?_)
    ·right
     intro r hr;have s3:=aH.new (o:=.av (PV I.pQ.enc) .none .none) hr;right;refine ay (by simp[bh]) λr2 hr2=>?_;have s4:=aH.new (o:=.list [.obj r]) hr2;have s:=s2.trans (s3.trans s4);right;rw[show((k:Int)+1)=((k+1:Nat):Int) by rfl];have ne:b≠r2:=λz=>by
      have:=aw ((s2.trans s3).list hb1);rw[z] at this;exact b8 (this.symm.trans hr2)
     have nbr:b≠r:=λz=>by
      have:=aw (s2.list hb1);rw[z] at this;exact b8 (this.symm.trans hr)
     have hr0:M1 r=none:=s2.back hr;refine yz (s.list hb1) (af ai) ne (by rw[hlen];simp;unfold bh;simp at hlz;exact nA hlz) ?_;rw[js (by rw[hlen];exact nZ),htk];right;have zr:PT ((M2.set r (.av (PV I.pQ.enc) .none .none)).set r2 (.list [.obj r])) (.leaf .pQ) r [r]:=s4.pt (dC (M:=M2) (r:=r) (i:=.pQ));have dr:bN (op++o1') [r]:=λc h1 h2=>by
      rw[PL.mp h2] at h1;exact pz.alloc r h1 hr0
     have nb3:b∉op++o1'++[r]:=λhc=>by
      simp only[P1,PJ,P6,or_false] at hc;rcases hc with(hc |hc) |hc
      ·exact nb1 hc
      ·exact nb_o1' hc
      ·exact nbr hc
     refine(h _ (b::(op++o1'++[r])) _ _ _ ⟨ap++[a]++[r],op++o1'++[r],by rw[ai,Q8 (l₂:=[r])];rfl,?_,nb3,rfl⟩ ?_).2
     ·have:pre++dead (t::u::us)=pre++[bx t]++[.leaf .pQ]:=by
       unfold dead;rw[if_neg (by rw[q];decide),if_pos (by rw[g];rfl)];simp
      rw[this];exact(bP.append (s.HA pz) (bZ zr) dr).frame λc hc=>aA λz=>nb3 (z ▸ hc)
     ·exact(v1.trans ((s.upd _).trans (Upd.put (by simp)))).weaken (λc hc=>.inl hc) λc hc=>by
       simp only[P1,PJ,P6,or_false] at hc |-;rcases hc with hc |(hc |hc) |rfl
       ·simp[hc]
       ·simp[hc]
       ·simp[hc]
       ·by_cases hc1:c∈o1
        ·exact .inr (.inl (by simp[hc1]))
        ·refine .inr (.inr ?_)
         induction e:M c using Option.casesOn with
         |none=>rfl
         |some ob=>rw[u1.ext c (by rw[e];simp) hc1,e] at hr0;exact b8 hr0
    ·right
     exact(step M2 s2 (by rw[dead,if_neg (by rw[q];decide),if_neg (by rw[g];simp)]))
theorem yD(hz:B<=400000)(hm:mu ts<=B)(hN:∀t∈ts,∀us,oO t us->fR (n+1) 35 [] dead us)(hG:∀t∈ts,n5 (n+1) (bx t)):fR (n+2) 35 [] dead ts:=λM b o Q X p h=>by
 (refine aX p λas o1 p1 p2 p3 q5q=>?_;obtain rfl:=q5q)
 refine aM (l:=[some (.lst b),none,none,none]) rfl rfl rfl ?_;have hb:M.list? b=some (([]++as).map .obj):=af p1;refine b0 ?_;refine eH ?_;right;refine Hu hb ⟨trivial,ts.length+1,Aj hz hN hG (pre:=[]) hb rfl dh p2 (λc hc=>by cases hc) (by simp) p3 (by simpa [mu] using hm) λM' o' x y z p' u=>?_⟩
 have u':Upd (b::o1) M o' M':=by simpa using u
 exact⟨bq (cJ (kH (h M' o' p' u'))),sj (mn (h M' o' p' u'))⟩
theorem xQ(hz:B<=400000):∀(d:Nat)(ts:List T),dep ts<=d->mu ts<=B->∀n,2 * d+8<=n->fR n 35 [] dead ts:=by
 have kid_mu:∀{t:T}{us ts:List T},t∈us->oO t ts->mu ts<=mu us:=λ{t us ts} ht hk=>by
  have:eh t<=mu us:=by
   clear hk;induction us with
   |nil=>cases ht
   |cons t' us ih=>
    rw[bY];rcases PJ.mp ht with rfl |ht
    ·exact nZ
    ·have:=ih ht;exact nA this
  rcases hk with⟨h',rfl⟩ |⟨v,ws,rfl⟩ |⟨v,ws,rfl⟩<;>unfold eh at this<;>exact nA this
 have hdep:∀{t:T}{us:List T}{d:Nat},dep us<=d->t∈us->bO t<=d:=λ{t us d} hd ht=>by
  induction us with
  |nil=>cases ht
  |cons u us ihs=>
   have:=jE hd;rcases PJ.mp ht with rfl |ht
   ·exact this.1
   ·exact ihs this.2 ht
 have hG:∀{ts:List T}{d n:Nat},dep ts<=d->2 * d+3<=n->∀t∈ts,n5 n (bx t):=λ{ts d n} hd hn t ht=>
  GN d (bx t) (PH (fQ.1 t).2 (hdep hd ht)) n hn
 intro d;induction d with
 |zero=>
  intro ts hd hm n hn;obtain⟨k,rfl⟩:∃k,n=k+2:=⟨n - 2,by exact PN (nA (nS (n) (2))) (nA (nT (n) (2) (nA hn)))⟩;exact yD hz hm (λt ht us hk=>(iS hd ht hk).elim) (hG hd (by exact nA hn))
 |succ d ih=>
  intro ts hd hm n hn;obtain⟨k,rfl⟩:∃k,n=k+2:=⟨n - 2,by exact PN (nA (nS (n) (2))) (nA (nT (n) (2) (nA hn)))⟩;exact yD hz hm (λt ht us hk=>ih us (ko hd ht hk) (PH (kid_mu ht hk) hm) _ (by exact nA hn)) (hG hd (by exact nA hn))
theorem NM:∀k,k < 6->k=0\/k=1\/k=2\/k=3\/k=4\/k=5:=by decide
theorem xD(hz:B<=400000)(hi:i < 6)(hd:dep ts<=d)(hm:mu ts<=B)(hn:2 * d+9<=n)(p:LT M ts b o)(h:∀M' o',LT M' (dQ i ts) b o'->Upd o M o' M'->Q .none M'):aj fns n 53 [.int (i:Int),.lst b] Q X M:=by
 obtain⟨k,rfl⟩:∃k,n=k+1:=⟨n - 1,by exact PN (nA (nS (n) (1))) (nA (nT (n) (1) (nA hn)))⟩;refine aM (l:=[some (.int (i:Int)),some (.lst b)]) rfl rfl rfl ?_;rcases NM i hi with rfl |rfl |rfl |rfl |rfl |rfl
 ·right
  refine xQ hz d ts hd hm k (by exact nA hn) M b o _ _ p λM' o' p' u=>?_;right;exact h M' o' p' u
 ·right
  refine uW hz d (PK _) ts hd hm k (by exact nA hn) M b o _ _ p λM' o' p' u=>?_;right;exact h M' o' p' u
 ·right
  refine o9 hz d (PK _) ts hd hm k (by exact nA hn) M b o _ _ p λM' o' p' u=>?_;right;exact h M' o' p' u
 ·right
  refine tR hz d (PK _) ts hd hm k (by exact nA hn) M b o _ _ p λM' o' p' u=>?_;right;exact h M' o' p' u
 ·right
  refine oI hz d ts hd hm k (by exact nA hn) M b o _ _ p λM' o' p' u=>?_;right;exact h M' o' p' u
 ·right
  refine o6 hz d (PK _) ts hd hm k (by exact nA hn) M b o _ _ p λM' o' p' u=>?_;right;exact h M' o' p' u
theorem L9(ts:List T):ts.length<=(flat ts).length:=by
 induction ts with
 |nil=>exact P4 _
 |cons t ts ih=>
  unfold flat;have:1<=(eT t).length:=by generalize t=z9;induction z9 using T.casesOn<;>unfold eT<;>simp
  simp;exact nA ih (nA this)
def Seg(c:Call)(seg:List (List Int))(ts:List T):Prop:=ts.length<=seg.length/\∀(M:Mem)(q hr op k m:Nat)(all rest:List (List Int))(x0 x3 x4:Option V)(ak:List V)(pre:List T)(oh:List Nat)(P:Fl->Loc->Mem->Prop),
 M.list? q=some (all.map PV)->all.drop k=seg++rest->LT M pre hr oh->M.list? op=some ak->op∉oh->q∉oh->q≠op->pre.length+(seg++rest).length<=5000->ak.length+(seg++rest).length<=5000->
 (∀M' oh' y3 y4,LT M' (pre++ts) hr oh'->M'.list? op=some ak->op∉oh'->Upd (op::oh) M (op::oh') M'->ct c (.one 3) xX (.lst q) m (k+seg.length) [x0,some (.lst hr),some (.lst op),y3,y4] M' P)->
 ct c (.one 3) xX (.lst q) (seg.length+m) k [x0,some (.lst hr),some (.lst op),x3,x4] M P
theorem vJ{s1 s2:List (List Int)}(h1:Seg c s1 t1)(h2:Seg c s2 t2):Seg c (s1++s2) (t1++t2):=by
 refine⟨by have:=h1.1;have:=h2.1;simp;lia,λM q hr op k m all rest x0 x3 x4 ak pre oh P hq hk pf ho no nq nqo z1 z2 h=>?_⟩;have e:(s1++s2).length+m=s1.length+(s2.length+m):=by simp;exact PN (nZ) (nZ)
 rw[e];have l1:=h1.1;refine h1.2 M q hr op k (s2.length+m) all (s2++rest) x0 x3 x4 ak pre oh P hq (by rw[hk,PX]) pf ho no nq nqo (by simp at z1 |-;exact nA z1) (by simp at z2 |-;exact nA z2) λM' oh' y3 y4 pf' ho' no' u=>?_;have nq':q∉oh':=λz=>by
  rcases u.sub q (.tail _ z) with z |z
  ·rcases PJ.mp z with z |z
   ·exact nqo z
   ·exact nq z
  ·rw[aw hq] at z;exact b8 z
 have hq':=u.hU hq (λz=>by
  rcases PJ.mp z with z |z
  ·exact nqo z
  ·exact nq z)
 refine h2.2 M' q hr op (k+s1.length) m all rest x0 y3 y4 ak (pre++t1) oh' P hq' ?_ pf' ho' no' nq' nqo (by simp at z1 |-;exact nA z1 (nA l1)) (by simp at z2 |-;exact nA z2) λM2 oh2 w3 w4 pf2 ho2 no2 u2=>?_
 ·rw[<- Rv,hk,PX,Q6]
 ·have:=h M2 oh2 w3 w4 (by rw[<- PX];exact pf2) ho2 no2 (u.trans u2)
  rw[show k+s1.length+s2.length=k+(s1++s2).length by simp;exact PN (nZ) (nZ)];exact this
theorem gq{all:List (List Int)}(hq:M.list? q=some (all.map PV))(hk:all.drop k=tok::rest)(h:xX c [x0,x1,x2,some (PV tok),x4] M (Ba c (.one 3) xX (.lst q) m k P) (λ_=>False)):ct c (.one 3) xX (.lst q) (m+1) k [x0,x1,x2,x3,x4] M P:=by
 refine dY (v:=PV tok) (l1:=[x0,x1,x2,some (PV tok),x4]) ?_ rfl h;show(M.list? q).map _=_;have:all[k]?=some tok:=by rw[<- Q9,hk];rfl
 rw[hq,Qj,QE,this];rfl
structure PQ (c:Int):Prop where
 a:Ja c [.int 2,.int 3,.int 4]=some false
 b:(c == 5)=false
 d:(c == 11)=false
theorem nc(i:I):PQ (cd i.enc):=by
 induction i using I.casesOn<;>exact⟨rfl,rfl,rfl⟩
theorem kE{i:I}(h:Q (.int (cd i.enc)) M):Bh (i.enc.map .int) 0 M Q:=
 qL (by induction i using I.casesOn<;>rfl) h
theorem Bv(pf:LT M pre hr oh)(hz:pre.length<=bh)(h:∀M' oh',LT M' (pre++[.leaf i]) hr oh'->Upd oh M oh' M'->P .next [x0,some (.lst hr),x2,some (PV i.enc),x4] M'):
  xX c [x0,some (.lst hr),x2,some (PV i.enc),x4] M P X:=by
 unfold xX;refine aT pf.at λeQ hl0 hlen0=>?_;have⟨c1,c2,c3⟩:=nc i;right;refine kE ?_;right;refine sX c1 ?_;right;refine kE ?_;right;refine kE ?_;right;intro r hr;right;refine zq pf hr hz λM' oh' p u=>?_;right;exact h M' oh' p u
theorem seg_leaf(i:I):Seg c [i.enc] [.leaf i]:=by
 refine⟨PK _,λM q hr op k m all rest x0 x3 x4 ak pre oh P hq hk pf ho no nq nqo z1 z2 h=>?_⟩;show ct c _ _ _ (1+m) _ _ _ _;rw[Rr];refine gq hq hk (Bv pf (by unfold bh;exact nA z1) λM' oh' p u=>?_);have hop:=u.hU ho no;have oM:op∉oh':=u.eI (by rw[aw ho];simp) no;exact h M' oh' _ _ p hop oM (u.weaken (λc hc=>.inl (.tail _ hc)) λc hc=>by
  rcases PJ.mp hc with rfl |hc
  ·exact .inr (.inl (.head _))
  ·exact .inl hc)
structure Opened (M:Mem) (hr op r r1:Nat) (p:List Int) (ak:List V) (pre:List T) (oh:List Nat) (M4:Mem):Prop where
 here:∃as o1,M4 hr=some (.list ((as++[r]).map .obj))/\bP M pre as o1/\hr∉o1/\oh=hr::o1
 B4:M4.list? op=some (ak++[.tup [.obj r,.lst hr]])
 av:M4 r=some (.av (PV p) (.lst r1) .none)
 inner:M4 r1=some (.list [])
 fr:M r=none
 Eo:M r1=none
 ne:r≠r1
 ext:∀c,M c≠none->c≠hr->c≠op->M4 c=M c
 Po:∀c,M4 c≠none->M c≠none\/c=r\/c=r1
theorem tX(hp:p.head?=some k0)(hk0:k0=2\/k0=3\/k0=4)(pf:LT M pre hr oh)(ho:M.list? op=some ak)(no:op∉oh)(hz:pre.length<=bh)(hz2:ak.length<=bh)(h:∀M4 r r1,Opened M hr op r r1 p ak pre oh M4->P .next [x0,some (.lst r1),some (.lst op),some (PV p),some (.obj r)] M4):
  xX c [x0,some (.lst hr),some (.lst op),some (PV p),x4] M P X:=by
 unfold xX
 (refine aX pf λas o1 q1 q2 q3 q5q=>?_;obtain rfl:=q5q)
 have hl0:=af q1;have e0:(idx? (0:Int) p.length).bind (λj=>p[j]?)=some k0:=by
  induction p using PI with
  |nil=>exact bf hp
  |cons a p=>
   obtain rfl:=PG hp;show(if(0:Int)<=0 then(if(0:Int) < ((p.length+1:Nat):Int) then some (0:Int).toNat else none) else _).bind _=_
   rw[if_pos (by decide),if_pos (by exact Se.mpr (UY _))];rfl
 right;refine fJ e0 ?_;right
 try refine bJ [2,3,4] ?_
 refine cf (by rcases hk0 with rfl |rfl |rfl<;>rfl) ?_
 right;refine ay (by decide) λr1 hr1=>?_;intro r hr';have nr:r≠r1:=ik hr';have hr0:M r=none:=cO hr';have s:=(aH.new (o:=.list []) hr1).trans (aH.new (o:=.av (PV p) (.lst r1) .none) hr');have e1:=s.list hl0;have hnhr:hr≠r:=λz=>by rw[z,hr0] at q1;exact bf q1
 have hnhr1:hr≠r1:=λz=>by rw[z,hr1] at q1;exact bf q1
 have hop:=aw ho;have oM:op≠hr:=λz=>no (by simp[z]);have nopr:op≠r:=λz=>by rw[z,hr0] at hop;exact bf hop
 have nopr1:op≠r1:=λz=>by rw[z,hr1] at hop;exact bf hop
 right
 try refine fv e1 (by rw[Qc,q2.length];exact hz) ?_
 have e2:((((M.set r1 (.list [])).set r (.av (PV p) (.lst r1) .none))).set hr (.list (as.map .obj++[.obj r]))).list? op=some ak:=af ((aA oM).trans (s.at hop));right;have e3:((((((M.set r1 (.list [])).set r (.av (PV p) (.lst r1) .none))).set hr (.list (as.map .obj++[.obj r])))).set op (.list (ak++[.tup [.obj r,.lst hr]]))) r=some (.av (PV p) (.lst r1) .none):=(aA (Qu nopr)).trans ((aA (Qu hnhr)).trans ai);right;refine h _ r r1 ⟨⟨as,o1,?_,q2,q3,rfl⟩,af ai,e3,?_,hr0,hr1,nr,λc hc h1 h2=>?_,λc hc=>?_⟩
 ·rw[aA (Qu oM),ai];simp
 ·rw[aA (Qu nopr1),aA (Qu hnhr1),aA (Qu nr),ai]
 ·rw[aA h2,aA h1];exact s c hc
 ·by_cases h1:c=r
  ·exact .inr (.inl h1)
  ·by_cases h2:c=r1
   ·exact .inr (.inr h2)
   ·left
    by_cases h3:c=op
    ·rw[h3,hop];simp
    ·by_cases h4:c=hr
     ·rw[h4,q1];simp
     ·rwa [aA h3,aA h4,aA h1,aA h2] at hc
theorem qe(ho:M.list? op=some (ak++[.tup [.obj r,.lst hr]]))(h:P .next [x0,some (.lst hr),some (.lst op),some (PV [11]),some (.obj r)] (M.set op (.list ak))):
  xX c [x0,x1,some (.lst op),some (PV [11]),x4] M P X:=by
 unfold xX;right
 try refine bJ [2,3,4] ?_
 right;refine iU ho ?_;right;exact h
theorem D8(ho:M.list? op=some (ak++[.tup [.obj r,.lst hr]]))(e:M r=some (.av (PV p) (.lst r1) .none))(h:∀r2,M r2=none->P .next [x0,some (.lst r2),some (.lst op),some (PV [5]),some (.obj r)] ((M.set r2 (.list [])).set r (.av (PV p) (.lst r1) (.lst r2)))):
  xX c [x0,x1,some (.lst op),some (PV [5]),x4] M P X:=by
 unfold xX;right
 try refine bJ [2,3,4] ?_
 right;refine aY ho jv ?_;right;refine ay (by decide) λr2 hr2=>?_;right;have e1:=(aH.new (o:=.list []) hr2).at e;refine mC e1 ?_;have e2:(((M.set r2 (.list [])).set r (.av (PV p) (.lst r1) (.lst r2)))) r=some (.av (PV p) (.lst r1) (.lst r2)):=ai;right;exact h r2 hr2
theorem Opened.keep(O:Opened M hr op r r1 p ak pre oh M4)(h:M a≠none):M4 a≠none:=by
 by_cases h1:a=hr
 ·refine sd O.here λas o1 e _=>?_
  rw[h1,e];simp
 ·by_cases h2:a=op
  ·rw[h2,aw O.B4];simp
  ·rw[O.ext a h h1 h2];exact h
theorem Opened.back(O:Opened M hr op r r1 p ak pre oh M4)(h:M4 a=none):M a=none:=by
 induction e:M a using Option.casesOn with
 |none=>rfl
 |some x=>exact absurd h (O.keep (by rw[e];simp))
theorem Opened.close(O:Opened M hr op r r1 p ak pre oh M4)(ho:M.list? op=some ak)(no:op∉oh)(u:∀a,M4 a≠none->a≠r->a≠r1->a≠op->M5 a=M4 a)(pt:PT M5 t r ot)(sub:∀a∈ot,M a=none)(oM:op∉ot):
  LT (M5.set op (.list ak)) (pre++[t]) hr (oh++ot)/\(M5.set op (.list ak)).list? op=some ak/\op∉(oh++ot)/\Upd (op::oh) M (op::(oh++ot)) (M5.set op (.list ak)):=by
 (refine aX O.here λas o1 e pp nh q5q=>?_;obtain rfl:=q5q)
 have nr:∀{a:Nat},M a≠none->a≠r/\a≠r1:=λh=>⟨λz=>h (z ▸ O.fr),λz=>h (z ▸ O.Eo)⟩;have same:∀a,M a≠none->a≠hr->a≠op->(M5.set op (.list ak)) a=M a:=λa h h1 h2=>by
  rw[aA h2,u a (O.keep h) (nr h).1 (nr h).2 h2];exact O.ext a h h1 h2
 have hop:M op≠none:=by rw[aw ho];simp
 have nho:hr≠op:=λz=>no (by simp[z]);have hr4:M4 hr≠none:=by rw[e];simp
 have hrr:hr≠r/\hr≠r1:=by
  constructor
  ·intro z
   rw[z,O.av] at e;cases e
  ·intro z
   rw[z,O.inner] at e;induction as using PI<;>first |(cases e;done) |simp at e
 refine⟨⟨as++[r],o1++ot,?_,?_,?_,by simp⟩,af ai,?_,⟨λa h h0=>?_,λa ha=>?_⟩⟩
 ·rw[aA nho,u hr hr4 hrr.1 hrr.2 nho];exact e
 ·refine bP.append (pp.frame λa ha=>same a (pp.alloc a ha) (λz=>nh (z ▸ ha)) λz=>no (by simp[<- z,ha])) (bZ (pt.frame λa ha=>aA λz=>oM (z ▸ ha))) λa h1 h2=>pp.alloc a h1 (sub a h2)
 ·intro z
  rcases P1.mp z with z |z
  ·exact nh z
  ·have h1:=sub hr z
   have h2:M hr=none\/M hr≠none:=Classical.em _;exact absurd rfl (λ(_:hr=hr)=>by
    rcases O.Po hr hr4 with q |q |q
    ·exact q h1
    ·exact hrr.1 q
    ·exact hrr.2 q)
 ·intro z
  rcases P1.mp z with z |z
  ·exact no z
  ·exact oM z
 ·exact same a h (λz=>h0 (by simp[z])) λz=>h0 (by simp[z])
 ·simp only[PJ,P1] at ha |-
  rcases ha with ha |(ha |ha) |ha
  ·exact .inl (.inl ha)
  ·exact .inl (.inr (.inl ha))
  ·exact .inl (.inr (.inr ha))
  ·exact .inr (sub a ha)
theorem FX{h:H}(ih:Seg c (flat a) a):Seg c (h.enc::(flat a++[[11]])) [.one h a]:=by
 refine⟨by simp,λM q hr op k m all rest x0 x3 x4 ak pre oh P hq hk pf ho no nq nqo z1 z2 hh=>?_⟩;have ef:(h.enc::(flat a++[[11]])).length+m=((flat a).length+(m+1))+1:=by simp;exact PN (nZ) (nZ)
 rw[ef];obtain⟨k0,hp,hk0⟩:∃k0,h.enc.head?=some k0/\(k0=2\/k0=3\/k0=4):=by
  induction h using H.casesOn with
  |dg v=>exact⟨2,rfl,.inl rfl⟩
  |ku=>exact⟨3,rfl,.inr (.inl rfl)⟩
  |iff v=>exact⟨4,rfl,.inr (.inr rfl)⟩
 have hop:M op≠none:=by rw[aw ho];simp
 have hqa:M q≠none:=by rw[aw hq];simp
 have hhr:hr∈oh:=pf.head;refine gq hq hk (tX hp hk0 pf ho no (by unfold bh;exact nA z1) (by unfold bh;exact nA z2) λM4 r r1 O=>?_);have hq4:M4.list? q=some (all.map PV):=af ((O.ext q hqa (λz=>nq (z ▸ hhr)) nqo).trans (aw hq));have hkd:all.drop (k+1)=flat a++([11]::rest):=by
  rw[<- QL,hk];simp
 refine ih.2 M4 q r1 op (k+1) (m+1) all ([11]::rest) _ _ _ _ [] [r1] P hq4 hkd ⟨[],[],O.inner,dh,by simp,rfl⟩ O.B4 (λz=>?_) (λz=>?_) nqo (by simp at z1 |-;exact nA z1) (by simp at z2 |-;exact nA z2) λM5 oh' y3 y4 pf5 ho5 no5 u5=>?_
 ·rw[PL.mp z] at hop;exact hop O.Eo
 ·rw[PL.mp z] at hqa;exact hqa O.Eo
 have nq5:q∉op::[r1]:=λz=>by
  rcases PJ.mp z with z |z
  ·exact nqo z
  ·rw[PL.mp z] at hqa;exact hqa O.Eo
 have hq5:=u5.hU hq4 nq5;have nrop:r≠op:=λz=>hop (z ▸ O.fr);have hr4:M4 r≠none:=by rw[O.av];simp
 have hr5:M5 r=some (.av (PV h.enc) (.lst r1) .none):=(u5.ext r hr4 (by simp[nrop,O.ne])).trans O.av;refine gq hq5 (rest:=rest) (tok:=[11]) (by rw[<- Rv,hkd,Q6]) (qe ho5 ?_);have nr':r∉oh':=λz=>by
  rcases u5.sub r (.tail _ z) with w |w
  ·revert w;simp[nrop,O.ne]
  ·exact hr4 w
 have pt:PT M5 (.one h a) r (r::oh'):=PT.yT hr5 pf5 nr';have cl:=O.close ho no (λb hb h1 h2 h3=>u5.ext b hb (by simp[h2,h3])) pt (λb hb=>by
   rcases PJ.mp hb with rfl |hb
   ·exact O.fr
   ·rcases u5.sub b (.tail _ hb) with w |w
    ·rcases PJ.mp w with rfl |w
     ·exact absurd hb no5
     ·rw[PL.mp w];exact O.Eo
    ·exact O.back w) (λz=>by
   rcases PJ.mp z with z |z
   ·exact nrop z.symm
   ·exact no5 z)
 refine q7 cl λw1 w2 w3 w4=>?_;have:=hh _ _ (some (PV [11])) (some (.obj r)) w1 w2 w3 w4;show ct c _ _ _ _ _ _ _ _;rw[show k+1+(flat a).length+1=k+(h.enc::(flat a++[[11]])).length by simp;exact PN (nZ) (nZ)];exact this
theorem Et(iha:Seg c (flat a) a)(ihb:Seg c (flat b) b):Seg c ([4,jq v]::(flat a++([5]::(flat b++[[11]])))) [.two v a b]:=by
 refine⟨by simp,λM q hr op k m all rest x0 x3 x4 ak pre oh P hq hk pf ho no nq nqo z1 z2 hh=>?_⟩;have ef:([4,jq v]::(flat a++([5]::(flat b++[[11]])))).length+m=((flat a).length+(((flat b).length+(m+1))+1))+1:=by simp;exact PN (nZ) (nZ)
 rw[ef];have hop:M op≠none:=by rw[aw ho];simp
 have hqa:M q≠none:=by rw[aw hq];simp
 have hhr:hr∈oh:=pf.head;refine gq hq hk (tX (k0:=4) rfl (.inr (.inr rfl)) pf ho no (by unfold bh;exact nA z1) (by unfold bh;exact nA z2) λM4 r r1 O=>?_);have hq4:M4.list? q=some (all.map PV):=af ((O.ext q hqa (λz=>nq (z ▸ hhr)) nqo).trans (aw hq));have hkd:all.drop (k+1)=flat a++([5]::(flat b++([11]::rest))):=by
  rw[<- QL,hk];simp
 refine iha.2 M4 q r1 op (k+1) (((flat b).length+(m+1))+1) all ([5]::(flat b++([11]::rest))) _ _ _ _ [] [r1] P hq4 hkd ⟨[],[],O.inner,dh,by simp,rfl⟩ O.B4 (λz=>?_) (λz=>?_) nqo (by simp at z1 |-;exact nA z1) (by simp at z2 |-;exact nA z2) λM5 oa y3 y4 pf5 ho5 no5 u5=>?_
 ·rw[PL.mp z] at hop;exact hop O.Eo
 ·rw[PL.mp z] at hqa;exact hqa O.Eo
 have nq5:q∉op::[r1]:=λz=>by
  rcases PJ.mp z with z |z
  ·exact nqo z
  ·rw[PL.mp z] at hqa;exact hqa O.Eo
 have hq5:=u5.hU hq4 nq5;have nrop:r≠op:=λz=>hop (z ▸ O.fr);have hr4:M4 r≠none:=by rw[O.av];simp
 have hr5:M5 r=some (.av (PV [4,jq v]) (.lst r1) .none):=(u5.ext r hr4 (by simp[nrop,O.ne])).trans O.av;have nra:r∉oa:=λz=>by
  rcases u5.sub r (.tail _ z) with w |w
  ·revert w;simp[nrop,O.ne]
  ·exact hr4 w
 have suba:∀x∈oa,M x=none:=λx hx=>by
  rcases u5.sub x (.tail _ hx) with w |w
  ·rcases PJ.mp w with rfl |w
   ·exact absurd hx no5
   ·rw[PL.mp w];exact O.Eo
  ·exact O.back w
 have back5:∀{x:Nat},M5 x=none->M x=none:=λ{x} hx=>by
  induction e:M x using Option.casesOn with
  |none=>rfl
  |some ob=>
   exfalso
   have hx4:M4 x≠none:=O.keep (by rw[e];simp);by_cases h1:x=op
   ·rw[h1,aw ho5] at hx;exact b8 hx
   ·by_cases h2:x=r1
    ·rw[h2,O.Eo] at e;exact bf e
    ·rw[u5.ext x hx4 (by simp[h1,h2])] at hx;exact hx4 hx
 have hkd5:all.drop (k+1+(flat a).length)=[5]::(flat b++([11]::rest)):=by rw[<- Rv,hkd,Q6]
 refine gq hq5 hkd5 (D8 ho5 hr5 λr2 hr2=>?_);have n2:∀{x:Nat},M5 x≠none->x≠r2:=λhx z=>hx (z ▸ hr2);have hr5n:M5 r≠none:=by rw[hr5];simp
 have m6:∀x,M5 x≠none->x≠r->((M5.set r2 (.list [])).set r (.av (PV [4,jq v]) (.lst r1) (.lst r2))) x=M5 x:=λx hx h1=>by rw[aA h1,aA (n2 hx)]
 have e6r:((M5.set r2 (.list [])).set r (.av (PV [4,jq v]) (.lst r1) (.lst r2))) r=some (.av (PV [4,jq v]) (.lst r1) (.lst r2)):=ai;have e6r2:((M5.set r2 (.list [])).set r (.av (PV [4,jq v]) (.lst r1) (.lst r2))) r2=some (.list []):=by rw[aA (Qu (n2 hr5n)),ai]
 generalize hM6:(M5.set r2 (.list [])).set r (.av (PV [4,jq v]) (.lst r1) (.lst r2))=M6 at *;have hq5n:M5 q≠none:=by rw[aw hq5];simp
 have nqr:q≠r:=λz=>hqa (z ▸ O.fr);have hq6:M6.list? q=some (all.map PV):=af ((m6 q hq5n nqr).trans (aw hq5));have hop5:M5 op≠none:=by rw[aw ho5];simp
 have ho6:=af ((m6 op hop5 (Qu nrop)).trans (aw ho5));have hkd6:all.drop (k+1+(flat a).length+1)=flat b++([11]::rest):=by rw[<- QL,hkd5];rfl
 refine ihb.2 M6 q r2 op _ (m+1) all ([11]::rest) _ _ _ _ [] [r2] P hq6 hkd6 ⟨[],[],e6r2,dh,by simp,rfl⟩ ho6 (λz=>n2 hop5 (PL.mp z)) (λz=>n2 hq5n (PL.mp z)) nqo (by simp at z1 |-;exact nA z1) (by simp at z2 |-;exact nA z2) λM7 ob w3 w4 pf7 ho7 no7 u7=>?_;have hq7:=u7.hU hq6 (by simp[nqo,n2 hq5n]);refine gq hq7 (rest:=rest) (tok:=[11]) (by rw[<- Rv,hkd6,Q6]) (qe ho7 ?_);have e7r:M7 r=some (.av (PV [4,jq v]) (.lst r1) (.lst r2)):=(u7.ext r (by rw[e6r];simp) (by simp[nrop,n2 hr5n])).trans e6r;have nrb:r∉ob:=λz=>by
  rcases u7.sub r (.tail _ z) with w |w
  ·revert w;simp[nrop,n2 hr5n]
  ·rw[e6r] at w;exact b8 w
 have keepA:∀x∈oa,M7 x=M5 x:=λx hx=>by
  have h5:=pf5.alloc x hx;have h6:=m6 x h5 (λz=>nra (z ▸ hx));rw[u7.ext x (by rw[h6];exact h5) (by
   simp only[PJ,P6,or_false,not_or];exact⟨λz=>no5 (z ▸ hx),n2 h5⟩),h6]
 have dab:bN oa ob:=λx h1 h2=>by
  have h5:=pf5.alloc x h1;rcases u7.sub x (.tail _ h2) with w |w
  ·rcases PJ.mp w with rfl |w
   ·exact no5 h1
   ·exact n2 h5 (PL.mp w)
  ·rw[m6 x h5 (λz=>nra (z ▸ h1))] at w;exact h5 w
 refine aT (PT.OI (v:=v) e7r (pf5.frame keepA) pf7 nra nrb dab) λot pt hot=>?_;have subb:∀x∈ob,M x=none:=λx hx=>by
  rcases u7.sub x (.tail _ hx) with w |w
  ·rcases PJ.mp w with rfl |w
   ·exact absurd hx no7
   ·rw[PL.mp w];exact back5 hr2
  ·refine back5 ?_
   induction e:M5 x using Option.casesOn with
   |none=>rfl
   |some y=>
    by_cases h1:x=r
    ·rw[h1,e6r] at w;exact b8 w
    ·rw[m6 x (by rw[e];simp) h1,e] at w;exact b8 w
 have cl:=O.close (M5:=M7) ho no (λx hx h1 h2 h3=>by
   have e5:M5 x=M4 x:=u5.ext x hx (by simp[h2,h3]);have h5:M5 x≠none:=by rw[e5];exact hx
   have e6:=m6 x h5 h1;rw[u7.ext x (by rw[e6];exact h5) (by simp[h3,n2 h5]),e6,e5]) pt (λx hx=>by
   rcases(hot x).mp hx with rfl |hx |hx
   ·exact O.fr
   ·exact suba x hx
   ·exact subb x hx) (λz=>by
   rcases(hot op).mp z with z |z |z
   ·exact nrop z.symm
   ·exact no5 z
   ·exact no7 z)
 refine q7 cl λw1 w2 w3' w4'=>?_;have:=hh _ _ (some (PV [11])) (some (.obj r)) w1 w2 w3' w4';show ct c _ _ _ _ _ _ _ _;rw[show k+1+(flat a).length+1+(flat b).length+1=k+([4,jq v]::(flat a++([5]::(flat b++[[11]])))).length by simp;exact PN (nZ) (nZ)];exact this
theorem Eu:Seg c [] []:=by
 refine⟨PK _,λM q hr op k m all rest x0 x3 x4 ak pre oh P hq hk pf ho no nq nqo z1 z2 h=>?_⟩;show ct c _ _ _ (0+m) _ _ _ _;rw[TQ];exact h M oh x3 x4 (by rw[Qg];exact pf) ho no (.refl _ _)
theorem GC:(∀t,Seg c (eT t) [t])/\(∀ts,Seg c (flat ts) ts):=by
 refine T.dO (λi=>?_) (λh a ih=>?_) (λv a b iha ihb=>?_) ?_ (λt ts iht ihs=>?_)
 ·unfold eT;exact seg_leaf i
 ·unfold eT;exact FX ih
 ·unfold eT
  have:=Et (v:=v) iha ihb
  simpa using this
 ·unfold flat;exact Eu
 ·unfold flat;exact vJ iht ihs
theorem sP(hy:M.list? y=some ((flat ts++[[11]]).map PV))(hz:(flat ts).length<=2000)(h:∀M' b o,LT M' ts b o->aH M M'->(∀a∈o,M a=none)->Q (.lst b) M'):aj fns (n+1) 16 [.lst y] Q X M:=by
 refine aM (l:=[some (.lst y),none,none,none,none]) rfl rfl rfl ?_;refine b0 ?_;right;refine ay (by decide) λr1 hr1=>?_;right;refine ay (by decide) λr2 hr2=>?_;have s2:=g6 (y:=.list []) hr1 hr2;have n2:=ik hr2;right;refine eH ?_;have hy2:=s2.list hy;right;have esl:bW ((flat ts++[[11]]).map PV) none (some (((((flat ts++[[11]]).map PV).length:Nat):Int) - 1))=(flat ts).map PV:=by
  unfold bW;simp only;have e:bA (((((flat ts++[[11]]).map PV).length:Nat):Int) - 1) ((flat ts++[[11]]).map PV).length=((flat ts).map PV).length:=by
   unfold bA;rw[if_neg (by simp)];simp
  rw[e,Ss,Q8,T4]
 rw[esl];refine ay (by simp;unfold bh;exact nA hz) λq hq=>?_;have s3:=s2.trans (aH.new (o:=.list ((flat ts).map PV)) hq);have e1:(((M.set r1 (.list [])).set r2 (.list [])).set q (.list ((flat ts).map PV))) r1=some (.list []):=(aH.new hq).at ((aA (Qu n2)).trans ai);have e2:(((M.set r1 (.list [])).set r2 (.list [])).set q (.list ((flat ts).map PV))) r2=some (.list []):=(aH.new hq).at ai;have hlq:(((M.set r1 (.list [])).set r2 (.list [])).set q (.list ((flat ts).map PV))).list? q=some ((flat ts).map PV):=af ai;have nq1:q≠r1:=λz=>by rw[z,aA (Qu n2),ai] at hq;exact b8 hq
 have nq2:q≠r2:=λz=>by rw[z,ai] at hq;exact b8 hq
 right;refine cZ hlq ⟨trivial,(flat ts).length+1,?_⟩;refine(GC (c:=aj fns n)).2 ts |>.2 _ q r1 r2 0 1 (flat ts) [] _ _ _ [] [] [r1] _ hlq (by simp) ⟨[],[],e1,dh,by simp,rfl⟩ (af e2) (λz=>n2 (PL.mp z)) (λz=>nq1 (PL.mp z)) nq2 (by simp<;>exact nA hz) (by simp<;>exact nA hz) λM' oh' y3 y4 pf' ho' no' u=>?_
 have hq':=u.hU hlq (by simp[nq1,nq2]);refine cH ?_ ?_
 ·show(M'.list? q).map _=_
  rw[hq',Qj,Qp (by simp)]
 right;have old:∀{x:Nat},M x≠none->x≠r1/\x≠r2:=λ{x} hx=>⟨λz=>hx (z ▸ hr1),λz=>hx (by rw[z];exact cO hr2)⟩;refine h M' r1 oh' pf' (λx hx=>?_) λx hx=>?_
 ·rw[u.ext x (by rw[s3 x hx];exact hx) (by simp[(old hx).1,(old hx).2]),s3 x hx]
 ·induction e:M x using Option.casesOn with
  |none=>rfl
  |some ob=>
   exfalso
   have hx0:M x≠none:=by rw[e];simp
   rcases u.sub x (.tail _ hx) with w |w
   ·revert w;simp[(old hx0).1,(old hx0).2]
   ·rw[s3 x hx0] at w;exact hx0 w
def iB(tp out:Nat)(M M':Mem):Prop:=∀a,M a≠none->a≠tp->a≠out->M' a=M a
theorem iB.refl:iB tp out M M:=λ_ _ _ _=>rfl
theorem iB.trans(x:iB tp out M M')(y:iB tp out M' M''):iB tp out M M'':=λa h h1 h2=>by
 have e:=x a h h1 h2;exact(y a (by rw[e];exact h) h1 h2).trans e
theorem aH.ext2(s:aH M M'):iB tp out M M':=λa h _ _=>s a h
theorem iB.list(x:iB tp out M M')(h:M.list? lb=some vs)(h1:lb≠tp)(h2:lb≠out):M'.list? lb=some vs:=
 af ((x lb (by rw[aw h];simp) h1 h2).trans (aw h))
structure G2 (M:Mem) (tp out:Nat) (tape:List Int) (ps:List (List Int)):Prop where
 ft:M.list? tp=some (tape.map .int)
 fo:M.list? out=some (ps.map PV)
 ne:tp≠out
theorem aH.g2(s:aH M M')(g:G2 M tp out tape ps):G2 M' tp out tape ps:=⟨s.list g.ft,s.list g.fo,g.ne⟩
theorem zo(p:List Int)(g:G2 M tp out tape ps)(hv:v=PV p)(hz:ps.length<=bh)(h:∀M',G2 M' tp out tape (ps++[p])->iB tp out M M'->Q .none M'):nV out v M Q:=by
 subst hv;right
 try refine fv g.fo (by rw[Qc];exact hz) ?_
 refine h _ ⟨af ((aA g.ne).trans (aw g.ft)),by rw[Q8];exact af ai,g.ne⟩ λa _ _ h2=>aA h2
theorem GL(qs:List (List Int))(g:G2 M tp out tape ps)(hr:M r=none)(hv:vs=qs.map PV)(hz:ps.length+qs.length<=bh)(h:∀M',G2 M' tp out tape (ps++qs)->iB tp out M M'->Q .none M'):zI out r (M.set r (.list vs)) Q:=by
 subst hv;have s:=aH.new (o:=.list (qs.map PV)) hr;have g1:=s.g2 g;right;refine wq g1.fo (af ai) (λz=>?_) (by simpa using hz) ?_
 ·have:=aw g.fo
  rw[z,hr] at this;exact bf this
 refine h _ ⟨af ((aA g.ne).trans (aw g1.ft)),by rw[Q8];exact af ai,g.ne⟩ λa ha _ h2=>(aA h2).trans (s a ha)
theorem je(rs:List (List Int))(g:G2 M tp out tape ps)(hv:vs=rs.map PV)(hr:rs.length<=10)(hz:ps.length+rs.length<=Nm.Internal.bh)(h:∀M',G2 M' tp out tape (ps++rs)->iB tp out M M'->Q .none M'):bw M vs λvb M2=>lstK vb λr'=>True->zI out r' M2 Q:=
 ay (by subst hv;rw[Qc];exact PH hr (by decide)) λr hr' _=>GL rs g hr' hv hz h
theorem w_next{tape:List Int}(ht:M.list? tp=some (tape.map .int))(h:∀(M':Mem) (tape':List Int) (v:Int),M'.list? tp=some (tape'.map .int)->(∀a,M a≠none->a≠tp->M' a=M a)->tape'.length<=tape.length - 1->(v≠0->tape'.length < tape.length)->Q (.int v) M'):aj fns (n+1) 42 [.lst tp] Q X M:=by
 refine aM (l:=[some (.lst tp)]) rfl rfl rfl ?_;right;refine ay (by decide) λr hr=>?_;have s:=aH.new (o:=.list []) hr;right;refine gA (s.list ht) (af ai) ?_;rcases QB tape with rfl |⟨tape',v,rfl⟩
 ·right
  exact h _ [] 0 (s.list ht) (λa ha _=>s a ha) (by simp) (λz=>absurd rfl z)
 ·refine cf (by simp) ?_
  have e:M.list? tp=some (tape'.map .int++[.int v]):=by rw[ht];simp
  right;refine iU (s.list e) ?_;right;exact h _ tape' v (af ai) (λa ha h1=>(aA h1).trans (s a ha)) (by simp) (λ_=>by simp)
theorem ED(g:G2 M tp out tape ps)(h:∀(M':Mem) (tape':List Int) (v:Int),G2 M' tp out tape' ps->iB tp out M M'->tape'.length<=tape.length - 1->(v≠0->tape'.length < tape.length)->Q (.int v) M'):aj fns (n+1) 42 [.lst tp] Q X M:=
 w_next g.ft λM' tape' v h1 h2 h3 h4=>h M' tape' v ⟨h1,af ((h2 out (by rw[aw g.fo];simp) (Qu g.ne)).trans (aw g.fo)),g.ne⟩ (λa ha h5 _=>h2 a ha h5) h3 h4
theorem fm(k:Int)(hk:0 < k):0<=Rh v k/\Rh v k < k/\(Rh v k≠0->v≠0):=by
 refine⟨Int.fmod_nonneg_of_pos v hk,Int.fmod_lt_of_pos v hk,λh z=>h ?_⟩;rw[z];exact Int.zero_fmod k
noncomputable def fc(L:List Int):List V:=L.reverse.map .int
noncomputable def CC(L:List Int):Nat:=if 2∈L then 5 else 23
noncomputable def ee(L:List Int):Nat:=if 2∈L then 0 else 1
theorem MZ:CC (1::L)=CC L:=by unfold CC;simp
theorem Ni:CC (0::L)=CC L:=by unfold CC;simp
theorem NG:ee (1::L)=ee L:=by unfold ee;simp
theorem NT:ee (0::L)=ee L:=by unfold ee;simp
theorem BV:5<=CC L:=by unfold CC;split<;>decide
structure Sz (G:Nat->List T->Prop) (k C e c:Nat) (ts:List T):Prop where
 good:G (k+C * c) ts
 mu:mu ts<=k+12 * c
 dep:dep ts<=c+e
structure Res (G:Nat->List T->Prop) (k C e:Nat) (M:Mem) (tp out:Nat) (tape:List Int) (ps:List (List Int)) (M':Mem) (tape':List Int) (ts:List T) (c:Nat):Prop where
 g:G2 M' tp out tape' (ps++flat ts)
 ext:iB tp out M M'
 len:tape.length=tape'.length+c/\tape'.length<=tape.length - k / 2
 sz:Sz G k C e c ts
structure In (N:Nat) (M:Mem) (tp out lb:Nat) (tape:List Int) (ps:List (List Int)) (L:List Int) (z:Nat):Prop where
 len:tape.length<=N
 ne:L≠[]
 small:L.length+2 * tape.length<=5000
 room:ps.length+100 * tape.length+z<=20000
 g:G2 M tp out tape ps
 lab:M.list? lb=some (fc L)
 n1:lb≠tp
 n2:lb≠out
def sJ(n k:Nat)(G:List Int->Nat->List T->Prop)(N a z:Nat):Prop:=∀(M:Mem)(tp out lb:Nat)(tape:List Int)(ps:List (List Int))(L:List Int)(dp:Int)(Q:V->Mem->Prop)(X:Mem->Prop),In N M tp out lb tape ps L z->
 (∀M' tape' ts c,Res (G L) a (CC L) (ee L) M tp out tape ps M' tape' ts c->Q .none M')->aj fns n k [.lst tp,.lst out,.int dp,.lst lb] Q X M
abbrev mY(n N:Nat):Prop:=sJ n 43 aN N 1 5
abbrev ym(n N:Nat):Prop:=sJ n 44 aC N 0 0
abbrev I1(n N:Nat):Prop:=sJ n 47 aC N 2 10
structure GS where
 n:Nat
 N:Nat
 M0:Mem
 tp:Nat
 out:Nat
 lb:Nat
 eY:List Int
 ps:List (List Int)
 L:List Int
structure Pr (S:GS) (M:Mem) (tape:List Int) (qs:List (List Int)) (c a:Nat):Prop where
 i0:In S.N S.M0 S.tp S.out S.lb S.eY S.ps S.L 0
 g:G2 M S.tp S.out tape (S.ps++qs)
 x:iB S.tp S.out S.M0 M
 len:S.eY.length=tape.length+c
 q:qs.length<=a+12 * c
section
variable{S:GS}{tape:List Int}{qs:List (List Int)}{a d:Nat}
theorem Pr.fo(p:Pr S M tape qs d a):M.list? S.out=some ((S.ps++qs).map PV):=p.g.fo
theorem Pr.lab(p:Pr S M tape qs d a):M.list? S.lb=some (fc S.L):=p.x.list p.i0.lab p.i0.n1 p.i0.n2
theorem Pr.bh(p:Pr S M tape qs d a)(h:a+k<=12000):(S.ps++qs).length+k<=bh:=by
 rw[PS];unfold Nm.Internal.bh;have:=p.q;have:=p.i0.room;have:=p.len;omega
theorem Pr.app(r:List Int)(p:Pr S M tape qs d a)(hv:v=PV r)(ha:a<=9999)(h:∀M',Pr S M' tape (qs++[r]) d (a+1)->Q .none M'):nV S.out v M Q:=
 zo r p.g hv (p.bh (k:=0) (PH ha (by decide))) λM' g x=>h M' ⟨p.i0,by rw[<- PX];exact g,p.x.trans x,p.len,by have:=p.q;rw[PS];simp only[List.length_singleton];omega⟩
theorem Pr.ext(rs:List (List Int))(p:Pr S M tape qs d a)(hv:vs=rs.map PV)(ha:a<=9999)(hr:rs.length<=10)(h:∀M',Pr S M' tape (qs++rs) d (a+rs.length)->Q .none M'):bw M vs λvb M2=>lstK vb λr'=>True->zI S.out r' M2 Q:=
 je rs p.g hv hr (p.bh (PH (Sw ha hr) (by decide))) λM' g x=>h M' ⟨p.i0,by rw[<- PX];exact g,p.x.trans x,p.len,by rw[PS];exact nA p.q⟩
theorem Pr.same(p:Pr S M tape qs d a)(s:aH M M'):Pr S M' tape qs d a:=⟨p.i0,s.g2 p.g,p.x.trans s.ext2,p.len,p.q⟩
theorem Pr.next(p:Pr S M tape qs d a)(h:∀M' tape' v e,iB S.tp S.out M M'->(v≠0->1<=e)->tape'.length<=tape.length - 1->Pr S M' tape' qs (d+e) a->Q (.int v) M'):aj fns (n+1) 42 [.lst S.tp] Q X M:=
 ED p.g λM' tape' v g x h1 h2=>by
  have hle:tape'.length<=tape.length:=PH h1 (Sr _ _);exact h M' tape' v (tape.length - tape'.length) x (λz=>Nat.sub_pos_of_lt (h2 z)) h1 ⟨p.i0,g,p.x.trans x,by rw[p.len,Rr d,<- Tz,Vu hle],by rw[Sy];exact nA p.q⟩
theorem Pr.lt(p:Pr S M tape qs d a)(h:1<=d):tape.length < S.N:=by have:=p.i0.len;have:=p.len;omega
theorem Pr.gen{dp:Int}(p:Pr S M tape qs d a)(h1:1<=d)(hz:a+z<=80)(ok:sJ m k G tape.length b z)(hl:M.list? r=some (fc L'))(hL:L'≠[]/\L'.length<=S.L.length+2)(n1:r≠S.tp)(n2:r≠S.out)(h:∀M' tape' t c',Sz (G L') b (CC L') (ee L') c' t->Pr S M' tape' (qs++flat t) (d+c') (a+b)->Q .none M'):aj fns m k [.lst S.tp,.lst S.out,.int dp,.lst r] Q X M:=by
 refine ok M S.tp S.out r tape (S.ps++qs) L' dp Q X ⟨PK _,hL.1,by have:=p.i0.small;have:=p.len;have:=hL.2;omega,?_,p.g,hl,n1,n2⟩ λM' tape' t c' r=>h M' tape' t c' r.sz ⟨p.i0,by rw[<- PX];exact r.g,p.x.trans r.ext,by rw[p.len,r.len.1,Tz,Rr c'],?_⟩
 ·have:=p.q;have:=p.i0.room;have:=p.len;rw[PS];omega
 ·rw[PS,Sy];exact nA p.q (nA (cG.2 t) (nA r.sz.mu))
theorem Pr.own{dp:Int}(p:Pr S M tape qs d a)(h1:1<=d)(hz:a+z<=80)(ok:sJ m k G tape.length b z)(h:∀M' tape' t c',Sz (G S.L) b (CC S.L) (ee S.L) c' t->Pr S M' tape' (qs++flat t) (d+c') (a+b)->Q .none M'):aj fns m k [.lst S.tp,.lst S.out,.int dp,.lst S.lb] Q X M:=
 p.gen h1 hz ok p.lab ⟨p.i0.ne,P8 _ _⟩ p.i0.n1 p.i0.n2 h
theorem Pr.res(p:Pr S M tape qs d a)(hq:flat ts=qs)(hk:tape.length<=S.eY.length - k / 2)(s:Sz G k C e d ts):Res G k C e S.M0 S.tp S.out S.eY S.ps M tape ts d:=⟨hq ▸ p.g,p.x,⟨p.len,hk⟩,s⟩
theorem Pr.le(p:Pr S M tape qs d a):tape.length<=S.eY.length:=PH (P8 _ _) (QQ p.len.symm)
theorem Pr.Ht(p:Pr S M tape qs d a)(h:1<=d):tape.length<=S.eY.length - 1:=Nat.le_sub_one_of_lt (by have:=p.len;omega)
end
theorem Res.good{G:Nat->List T->Prop}{k C e:Nat}{tp out:Nat}{tape:List Int}{ps:List (List Int)}{tape':List Int}{c:Nat}(r:Res G k C e M tp out tape ps M' tape' ts c):G (k+C * c) ts:=r.sz.good
theorem Res.mu{G:Nat->List T->Prop}{k C e:Nat}{tp out:Nat}{tape:List Int}{ps:List (List Int)}{tape':List Int}{c:Nat}(r:Res G k C e M tp out tape ps M' tape' ts c):Nm.Internal.mu ts<=k+12 * c:=r.sz.mu
theorem Res.dep{G:Nat->List T->Prop}{k C e:Nat}{tp out:Nat}{tape:List Int}{ps:List (List Int)}{tape':List Int}{c:Nat}(r:Res G k C e M tp out tape ps M' tape' ts c):Nm.Internal.dep ts<=c+e:=r.sz.dep
theorem Res.room{G:Nat->List T->Prop}{k C e:Nat}{tp out:Nat}{tape:List Int}{ps:List (List Int)}{tape':List Int}{c:Nat}(r:Res G k C e M tp out tape ps M' tape' ts c):(ps++flat ts).length<=ps.length+k+12 * c:=by
 rw[PS];exact nA (cG.2 ts) (nA r.sz.mu)
theorem C0{C c d:Nat}(hC:5<=C)(h:d+1<=c):C * d+5<=C * c:=by
 have h1:C * (d+1)<=C * c:=SK C h;rw[Sy,Nat.mul_one] at h1;exact nA h1 (nA hC)
theorem Hx{C c d:Nat}(h:d<=c):C * d<=C * c:=SK C h
theorem GD(hl:M.list? lb=some (fc L))(hz:L.length<=6000)(h:∀M2 r2,aH M M2->M2.list? r2=some (fc (k::L))->M r2=none->Q (.lst r2) M2):bw M [.int k] (λvb M2=>binop .add (.lst lb) vb M2 Q):=by
 refine ay (by simp[bh]) λr hr=>?_;have s:=aH.new (o:=.list [.int k]) hr;right;refine vT (s.list hl) (af ai) ?_;right;refine ay (by simp[fc,bh];exact nA hz) λr2 hr2=>?_;refine h _ r2 (g6 hr hr2) ?_ (cO hr2);have:fc L++[.int k]=fc (k::L):=by simp[fc]
 rw[this];exact af ai
theorem CO(hl:M.list? lb=some (fc L))(hz:L.length<=6000)(h:∀M2 r2,aH M M2->M2.list? r2=some (fc (j::k::L))->M r2=none->Q (.lst r2) M2):bw M [.int k,.int j] (λvb M2=>binop .add (.lst lb) vb M2 Q):=by
 refine ay (by simp[bh]) λr hr=>?_;have s:=aH.new (o:=.list [.int k,.int j]) hr;right;refine vT (s.list hl) (af ai) ?_;right;refine ay (by simp[fc,bh];exact nA hz) λr2 hr2=>?_;refine h _ r2 (g6 hr hr2) ?_ (cO hr2);have:fc L++[.int k,.int j]=fc (j::k::L):=by simp[fc]
 rw[this];exact af ai
theorem G2.apart(g:G2 M tp out tape ps)(hr:M r=none):r≠tp/\r≠out:=
 ⟨(λz=>by
  have:=aw g.ft;rw[<- z,hr] at this;exact bf this),(λz=>by
  have:=aw g.fo;rw[<- z,hr] at this;exact bf this)⟩
variable{S:GS}{tape:List Int}{qs:List (List Int)}{a d:Nat}
theorem Pr.add(p:Pr S M tape qs d a)(h:∀M2 r,Pr S M2 tape qs d a->M2.list? r=some (fc (k::S.L))->r≠S.tp->r≠S.out->Q (.lst r) M2):bw M [.int k] (λvb M2=>binop .add (.lst S.lb) vb M2 Q):=
 GD p.lab (PH (P8 _ _) (PH p.i0.small (by decide))) λM2 r s hl hr=>h M2 r (p.same s) hl (p.g.apart hr).1 (p.g.apart hr).2
theorem Pr.Nn(p:Pr S M tape qs d a)(h:∀M2 r,Pr S M2 tape qs d a->M2.list? r=some (fc (j::k::S.L))->r≠S.tp->r≠S.out->Q (.lst r) M2):bw M [.int k,.int j] (λvb M2=>binop .add (.lst S.lb) vb M2 Q):=
 CO p.lab (PH (P8 _ _) (PH p.i0.small (by decide))) λM2 r s hl hr=>h M2 r (p.same s) hl (p.g.apart hr).1 (p.g.apart hr).2
theorem jD:k::L≠[]/\(k::L).length<=L.length+2:=⟨SI _ _,P5 _⟩
theorem Fg:k::j::L≠[]/\(k::j::L).length<=L.length+2:=⟨SI _ _,PK _⟩
end
section
variable{L:List Int}{e d c1 c2 c3:Nat}{a b t:List T}
theorem Pf(h:1<=d):CC L * c1+5<=CC L * (d+c1):=C0 BV (nA h)
theorem OS(h:1<=d):CC L * c1+CC L * c2+5<=CC L * (d+c1+c2):=by rw[<- Sy];exact C0 BV (nA h)
theorem ND(h:1<=d):CC L * c1+CC L * c2+CC L * c3+5<=CC L * (d+c1+c2+c3):=by rw[<- Sy,<- Sy];exact C0 BV (nA h)
theorem Sz.MM(s:Sz G k (CC (1::L)) (ee (1::L)) c1 a):Sz G k (CC L) (ee L) c1 a:=by rw[MZ,NG] at s;exact s
theorem Sz.of0(s:Sz G k (CC (0::L)) (ee (0::L)) c1 a):Sz G k (CC L) (ee L) c1 a:=by rw[Ni,NT] at s;exact s
theorem Oc(h:x<=c1+e)(k:c1+y<=c):x+y<=c+e:=nA h (nA k)
theorem j6:mu [.leaf i]=pV i:=rfl
theorem JY:mu [.leaf .sel]=2:=rfl
theorem Sz.HF(g:aN L 1 [.leaf i])(hi:pV i=1):Sz (aN L) 1 (CC L) e d [.leaf i]:=⟨g.mono (P8 _ _),by rw[j6,hi];exact P8 _ _,P4 _⟩
theorem Sz.Ho(g:aC L 1 [.leaf i])(hi:pV i=1):Sz (aC L) 2 (CC L) e d [.leaf i]:=⟨g.mono (PH (P5 1) (P8 _ _)),by rw[j6,hi];exact PH (P5 1) (P8 _ _),P4 _⟩
theorem Sz.un(h:1<=d)(hm:pV i=1)(hi:i = .ic\/i = .call\/∃j,j < 4/\i = .dW j)(x:Sz (aN L) 1 (CC L) e c1 a):Sz (aN L) 1 (CC L) e (d+c1) (a++[.leaf i]):=
 ⟨(x.good.un i hi).mono (nA (Pf h)),by rw[aK,j6,hm];exact nA x.mu (nK 12 h),by rw[aI];exact Qb.mpr ⟨nA x.dep,P4 _⟩⟩
theorem Sz.bin(h:1<=d)(hm:pV i=1)(hi:i = .add\/i = .sub\/i = .div)(x:Sz (aN L) 1 (CC L) e c1 a)(y:Sz (aN L) 1 (CC L) e c2 b):Sz (aN L) 1 (CC L) e (d+c1+c2) (a++b++[.leaf i]):=
 ⟨(x.good.bin y.good i hi).mono (nA (OS h)),by rw[aK,aK,j6,hm];exact nA x.mu (nA y.mu (nK 12 h)),by rw[aI,aI];exact Qb.mpr ⟨Qb.mpr ⟨nA x.dep,nA y.dep⟩,P4 _⟩⟩
theorem Sz.sel(h:1<=d)(x:Sz (aN L) 1 (CC L) e c1 a)(y:Sz (aN L) 1 (CC L) e c2 b)(z:Sz (aN L) 1 (CC L) e c3 t):Sz (aN L) 1 (CC L) e (d+c1+c2+c3) (a++b++t++[.leaf .sel]):=
 ⟨(x.good.sel y.good z.good).mono (nA (ND h)),by rw[aK,aK,aK,JY];exact nA x.mu (nA y.mu (nA z.mu (nK 12 h))),by rw[aI,aI,aI];exact Qb.mpr ⟨Qb.mpr ⟨Qb.mpr ⟨nA x.dep,nA y.dep⟩,nA z.dep⟩,P4 _⟩⟩
theorem Sz.Nh(h:1<=d)(x:Sz (aC (1::L)) 0 (CC L) e c1 a)(y:Sz (aN (1::L)) 1 (CC L) e c2 b):Sz (aN L) 1 (CC L) e (d+c1+c2) [.one (.dg true) (a++b)]:=
 ⟨(x.good.Ml y.good).dg.mono (nA (OS h)),by simp only[Nm.Internal.mu,eh];rw[aK];exact nA x.mu (nA y.mu (nK 12 h)),by simp only[Nm.Internal.dep,bO];rw[aI];exact Qb.mpr ⟨Oc (Qb.mpr ⟨nA x.dep,nA y.dep⟩:_<=c1+c2+e) (nA h),P4 _⟩⟩
theorem Sz.O7(h:1<=d)(x:Sz (aN L) 1 (CC L) e c1 a)(y:Sz (aN (1::L)) 1 (CC L) e c2 b)(z:Sz (aN (1::L)) 1 (CC L) e c3 t):Sz (aN L) 1 (CC L) e (d+c1+c2+c3) (a++[.two true b t]):=
 ⟨(x.good.if2 y.good z.good).mono (nA (ND h)),by rw[aK];simp only[Nm.Internal.mu,eh];exact nA x.mu (nA y.mu (nA z.mu (nK 12 h))),by rw[aI];simp only[Nm.Internal.dep,bO];exact Qb.mpr ⟨nA x.dep,Qb.mpr ⟨Oc (Qb.mpr ⟨nA y.dep,nA z.dep⟩:_<=c1+c2+c3+e) (nA h),P4 _⟩⟩⟩
end
section
variable{n:Nat}{c:Call}{l:Loc}{Q:V->Mem->Prop}{X:Mem->Prop}{M:Mem}{P:Fl->Loc->Mem->Prop}{K:Bool->Mem->Prop}
theorem H6(h0:0<=j)(h1:j < 6):∃s:fX,(idx? j ([.int 0,.int 1,.int 5,.int (-1),.int (2 ^ 31 - 1),.int (-(2 ^ 31))]:List V).length).bind (λk=>([.int 0,.int 1,.int 5,.int (-1),.int (2 ^ 31 - 1),.int (-(2 ^ 31))]:List V)[k]?)=some (.int s.i):=by
 have:j=0\/j=1\/j=2\/j=3\/j=4\/j=5:=by lia
 rcases this with rfl |rfl |rfl |rfl |rfl |rfl
 ·exact⟨⟨0,by decide,by decide⟩,rfl⟩
 ·exact⟨⟨1,by decide,by decide⟩,rfl⟩
 ·exact⟨⟨5,by decide,by decide⟩,rfl⟩
 ·exact⟨⟨-1,by decide,by decide⟩,rfl⟩
 ·exact⟨⟨2147483647,by decide,by decide⟩,rfl⟩
 ·exact⟨⟨-2147483648,by decide,by decide⟩,rfl⟩
def IH(n N:Nat):Prop:=∀N',N' < N->mY (n+1) N'/\ym (n+1) N'
variable{S:GS}{tape:List Int}{d:Nat}{dp:Int}{x5:Option V}
def vp(S:GS)(P:Fl->Loc->Mem->Prop):Prop:=∀M' tape' ts c l',Res (aN S.L) 1 (CC S.L) (ee S.L) S.M0 S.tp S.out S.eY S.ps M' tape' ts c->P .next l' M'
noncomputable def dA(S:GS)(dp pick:Int)(x5:Option V):Loc:=[some (.lst S.tp),some (.lst S.out),some (.int dp),some (.lst S.lb),some (.int pick),x5]
theorem i4(hk:0 < k):∃j:Nat,Rh w k=j/\(j:Int) < k:=by
 have:=fm (v:=w) k hk;exact⟨(Rh w k).toNat,(SO this.1).symm,(SO this.1).symm ▸ this.2.1⟩
theorem KL(p:Pr S M tape [] d 0)(h:vp S P):ie (aj fns (n+1)) (dA S dp 0 x5) M P X:=by
 unfold ie dA;have ho:=p.fo;right;refine yx ?_;right;refine yx ?_;right;refine ju (by simp[bh]) λM1 r hr s hl=>?_;right;refine(p.same s).next λM2 tape2 w e x _ _ p2=>?_;have ap:=p.g.apart hr;have hf:=fm (v:=w) 6 (by decide);refine xE (H6 hf.1 hf.2.1) λk hk=>?_;right;refine aY (x.list hl ap.1 ap.2) hk ?_;right;refine p2.app (I.cst k).enc rfl (by decide) λM3 p3=>?_;right;exact h _ _ [.leaf (.cst k)] _ _ (p3.res rfl p3.le (.HF (dF _ k) rfl))
theorem LN(p:Pr S M tape [] d 0)(h:vp S P):ie (aj fns (n+1)) (dA S dp 1 x5) M P X:=by
 unfold ie dA;have ho:=p.fo;right;refine p.next λM1 tape1 w e _ _ _ p1=>?_;right;refine aT (i4 (w:=w) (k:=4) (by decide)) λk hk h4=>?_;right;refine p1.app (I.get k).enc (by rw[hk];rfl) (by decide) λM2 p2=>?_;right;exact h _ _ [.leaf (.get k)] _ _ (p2.res rfl p2.le (.HF (dH _ k (RF.mp (Int.lt_trans h4 (by decide)))) rfl))
theorem Ck{i:I}{pick:Int}(hi:pick=2/\i = .add\/pick=3/\i = .div)(p:Pr S M tape [] d 0)(h1:1<=d)(ih:IH n S.N)(h:vp S P):ie (aj fns (n+1)) (dA S dp pick x5) M P X:=by
 unfold ie dA;rcases hi with⟨rfl,rfl⟩ |⟨rfl,rfl⟩
 ·right
  refine p.own h1 (by decide) (ih _ (p.lt h1)).1 λM1 tape1 t1 c1 s1 p1=>?_;right;refine p1.own (PZ h1) (by decide) (ih _ (p1.lt (PZ h1))).1 λM2 tape2 t2 c2 s2 p2=>?_;have ho2:=p2.fo;right;refine p2.app I.add.enc rfl (by decide) λM3 p3=>?_;right;exact h _ _ (t1++t2++[.leaf .add]) _ _ (p3.res (by simp[flat,eT,aP]) p3.le (.bin h1 rfl (.inl rfl) s1 s2))
 ·right
  refine p.own h1 (by decide) (ih _ (p.lt h1)).1 λM1 tape1 t1 c1 s1 p1=>?_;right;refine p1.own (PZ h1) (by decide) (ih _ (p1.lt (PZ h1))).1 λM2 tape2 t2 c2 s2 p2=>?_;have ho2:=p2.fo;right;refine p2.app I.div.enc rfl (by decide) λM3 p3=>?_;right;exact h _ _ (t1++t2++[.leaf .div]) _ _ (p3.res (by simp[flat,eT,aP]) p3.le (.bin h1 rfl (.inr (.inr rfl)) s1 s2))
end
section
variable{n:Nat}{c:Call}{l:Loc}{Q:V->Mem->Prop}{X:Mem->Prop}{M:Mem}{P:Fl->Loc->Mem->Prop}{K:Bool->Mem->Prop}
variable{S:GS}{tape:List Int}{d:Nat}{dp:Int}{x5:Option V}
theorem LH(p:Pr S M tape [] d 0)(h1:1<=d)(ih:IH n S.N)(h:vp S P):ie (aj fns (n+1)) (dA S dp 7 x5) M P X:=by
 unfold ie dA;have ho:=p.fo;right;refine eH ?_;right;refine vt (by decide) ⟨trivial,4,?_⟩;refine p.own h1 (by decide) (ih _ (p.lt h1)).1 λM1 tape1 t1 c1 s1 p1=>?_;right;have k1:1<=d+c1:=PZ h1;refine p1.own k1 (by decide) (ih _ (p1.lt k1)).1 λM2 tape2 t2 c2 s2 p2=>?_;right;have k2:1<=d+c1+c2:=PZ k1;refine p2.own k2 (by decide) (ih _ (p2.lt k2)).1 λM3 tape3 t3 c3 s3 p3=>?_;right;have ho3:=p3.fo;right;refine p3.app I.sel.enc rfl (by decide) λM4 p4=>?_;right;exact h _ _ (t1++t2++t3++[.leaf .sel]) _ _ (p4.res (by simp[flat,eT,aP]) p4.le (.sel h1 s1 s2 s3))
theorem L5(p:Pr S M tape [] d 0)(h1:1<=d)(ih:IH n S.N)(h:vp S P):ie (aj fns (n+1)) (dA S dp 8 x5) M P X:=by
 unfold ie dA;have ho:=p.fo;right;refine p.app (H.dg true).enc rfl (by decide) λM1 p1=>?_;right;refine p1.add λM2 r2 p2 hl2 n1 n2=>?_;right;refine p2.gen h1 (by decide) (ih _ (p2.lt h1)).2 hl2 jD n1 n2 λM3 tape3 t3 c3 s3 p3=>?_;right;refine p3.add λM4 r4 p4 hl4 n3 n4=>?_;right;have k1:1<=d+c3:=PZ h1;refine p4.gen k1 (by decide) (ih _ (p4.lt k1)).1 hl4 jD n3 n4 λM5 tape5 t5 c5 s5 p5=>?_;have ho5:=p5.fo;right;refine p5.app [11] rfl (by decide) λM6 p6=>?_;right;exact h _ _ [.one (.dg true) (t3++t5)] _ _ (p6.res (by simp[flat,eT,aP]) p6.le (.Nh h1 s3.MM s5.MM))
theorem Ke(p:Pr S M tape [] d 0)(h1:1<=d)(ih:IH n S.N)(h:vp S P):ie (aj fns (n+1)) (dA S dp 9 x5) M P X:=by
 unfold ie dA;right;refine p.own h1 (by decide) (ih _ (p.lt h1)).1 λMa tapea ta ca sa pa=>?_;have hoa:=pa.fo;right;refine pa.app (H.iff true).enc rfl (by decide) λM1 p1=>?_;right;refine p1.add λM2 r2 p2 hl2 n1 n2=>?_;right;have k1:1<=d+ca:=PZ h1;refine p2.gen k1 (by decide) (ih _ (p2.lt k1)).1 hl2 jD n1 n2 λM3 tape3 t3 c3 s3 p3=>?_;have ho3:=p3.fo;right;refine p3.app [5] rfl (by decide) λM4 p4=>?_;right;refine p4.add λM5 r5 p5 hl5 n3 n4=>?_;right;have k2:1<=d+ca+c3:=PZ k1;refine p5.gen k2 (by decide) (ih _ (p5.lt k2)).1 hl5 jD n3 n4 λM6 tape6 t6 c6 s6 p6=>?_;have ho6:=p6.fo;right;refine p6.app [11] rfl (by decide) λM7 p7=>?_;right;exact h _ _ (ta++[.two true t3 t6]) _ _ (p7.res (by simp[flat,eT,aP,H.enc]) p7.le (.O7 h1 sa s3.MM s6.MM))
theorem Gr(hp:4<=pick/\pick<=6)(p:Pr S M tape [] d 0)(h1:1<=d)(ih:IH n S.N)(h:vp S P):ie (aj fns (n+1)) (dA S dp pick x5) M P X:=by
 unfold ie dA;right;have lo:∀k:Int,k < 4->(pick == k)=false:=λk hk=>beq_eq_false_iff_ne.mpr (Int.ne_of_gt (Int.lt_of_lt_of_le hk hp.1));have hi:∀k:Int,6 < k->(pick == k)=false:=λk hk=>beq_eq_false_iff_ne.mpr (Int.ne_of_lt (VY hp.2 hk));refine bB (lo 0 (by decide)) ?_;right;refine bB (lo 1 (by decide)) ?_;right;refine bB (lo 2 (by decide)) ?_;right;refine bB (lo 3 (by decide)) ?_;right;refine bB (hi 7 (by decide)) ?_;right;refine bB (hi 8 (by decide)) ?_;right;refine p.own h1 (by decide) (ih _ (p.lt h1)).1 λMa tapea ta ca sa pa=>?_;have hoa:=pa.fo;right;refine bB (hi 9 (by decide)) ?_;right;refine pa.next λM1 tape1 w e x _ _ p1=>?_;right;refine aT (i4 (w:=w) (k:=4) (by decide)) λk hk h4=>?_;refine ju (by simp[bh]) λM2 r hr s hl=>?_;right;obtain⟨i,hi,hi2,hm⟩:∃i:I,(i = .ic\/i = .call\/∃j,j < 4/\i = .dW j)/\(idx? (pick - 4) ([.tup [.int 69],.tup [.int 34,.int (Rh w 4)],.tup [.int 16,.int 0]]:List V).length).bind (λj=>([.tup [.int 69],.tup [.int 34,.int (Rh w 4)],.tup [.int 16,.int 0]]:List V)[j]?)=some (PV i.enc)/\pV i=1:=by
  have:pick=4\/pick=5\/pick=6:=by lia
  rcases this with rfl |rfl |rfl
  ·exact⟨.ic,.inl rfl,rfl,rfl⟩
  ·exact⟨.dW k,.inr (.inr ⟨k,RF.mp h4,rfl⟩),by rw[hk];rfl,rfl⟩
  ·exact⟨.call,.inr (.inl rfl),rfl,rfl⟩
 refine aY hl hi2 ?_;right;refine(p1.same s).app i.enc rfl (by decide) λM6 p6=>?_;right;exact h _ _ (ta++[.leaf i]) _ _ (p6.res (by simp[flat,eT,aP]) p6.le (QU d e ca ▸ Sz.un (PZ h1) hm hi sa))
theorem Fd(hp:0<=pick/\pick < 10)(p:Pr S M tape [] d 0)(h1:pick≠0->1<=d)(ih:IH n S.N)(h:vp S P):ie (aj fns (n+1)) (dA S dp pick x5) M P X:=by
 have:pick=0\/pick=1\/pick=2\/pick=3\/(4<=pick/\pick<=6)\/pick=7\/pick=8\/pick=9:=(Uy hp.1).elim λk e=>by subst e;exact(show ∀k:Nat,k < 10->((k:Int)=0\/(k:Int)=1\/(k:Int)=2\/(k:Int)=3\/(4<=(k:Int)/\(k:Int)<=6)\/(k:Int)=7\/(k:Int)=8\/(k:Int)=9) from by decide) k (RF.mp hp.2)
 rcases this with rfl |rfl |rfl |rfl |hq |rfl |rfl |rfl
 ·exact KL p h
 ·exact LN p h
 ·exact Ck (.inl ⟨rfl,rfl⟩) p (h1 (by decide)) ih h
 ·exact Ck (.inr ⟨rfl,rfl⟩) p (h1 (by decide)) ih h
 ·exact Gr hq p (h1 (by exact λz=>iF (iA hq.1 (iQ z)))) ih h
 ·exact LH p (h1 (by decide)) ih h
 ·exact L5 p (h1 (by decide)) ih h
 ·exact Ke p (h1 (by decide)) ih h
theorem In.less(i:In N M0 tp out lb tape ps L z)(h:z'<=z):In N M0 tp out lb tape ps L z':=⟨i.len,i.ne,i.small,PH (RZ h _) i.room,i.g,i.lab,i.n1,i.n2⟩
theorem In.start(i:In N M tp out lb tape ps L z):Pr ⟨n,N,M,tp,out,lb,tape,ps,L⟩ M tape [] 0 0:=
 ⟨i.less (P4 z),by rw[Qg];exact i.g,.refl,rfl,P4 _⟩
theorem Gs(ih:IH n N):mY (n+2) N:=λM tp out lb tape ps L dp Q X i0 h=>by
 refine aM (l:=[some (.lst tp),some (.lst out),some (.int dp),some (.lst lb),none,none]) rfl rfl rfl ?_;refine b0 ?_;right;refine(i0.start (n:=n)).next λM1 tape1 w e _ h2 _ p=>?_;right;have go:∀pick:Int,0<=pick/\pick < 10->(pick≠0->w≠0)->ae [ie] (aj fns (n+1)) [some (.lst tp),some (.lst out),some (.int dp),some (.lst lb),some (.int pick),none] M1 (rt Q) X:=λpick hp hw=>
  b0 (show ie _ (dA ⟨n,N,M,tp,out,lb,tape,ps,L⟩ dp pick none) _ _ _ from Fd (n:=n) hp p (λz=>PH (h2 (hw z)) (QX _ _)) ih (λM' tape' ts c l' r=>bq (cJ (kH (h M' tape' ts c r)))))
 refine aJ (λq=>?_) (λq=>?_)
 ·intro _
  refine uR (by decide) ?_;have hf:=fm (v:=w) 10 (by decide);exact bq (go _ ⟨hf.1,hf.2.1⟩ hf.2.2)
 ·intro _
  refine uR (by decide) ?_;have hf:=fm (v:=w) 2 (by decide);exact bq (go _ ⟨hf.1,by exact iA hf.2.1⟩ hf.2.2)
end
theorem l7:(fc L).length=L.length:=by simp[fc]
theorem yo{L:List Int}{k:Nat}{kd:Int}(hk:L[k]?=some kd):(idx? (-1 - (k:Int)) (fc L).length).bind (λj=>(fc L)[j]?)=some (.int kd):=zp (f:=.int) hk
section
variable{n:Nat}{c:Call}{l:Loc}{Q:V->Mem->Prop}{X:Mem->Prop}{M:Mem}{P:Fl->Loc->Mem->Prop}{K:Bool->Mem->Prop}
theorem Kq(h:K (a == b) M):eL .eq (.bool a) (.bool b) M K:=cw (r:=a == b) rfl h
variable{S:GS}{tape:List Int}{d:Nat}{dp:Int}{x5:Option V}
section
variable{L:List Int}{e c c1 c2 c3:Nat}{a b t:List T}
theorem My(h:c1+1<=c):CC L * c1+5<=CC L * c:=C0 BV h
theorem Mw(h:c1+c2+1<=c):CC L * c1+CC L * c2+5<=CC L * c:=by rw[<- Sy];exact C0 BV h
theorem Sz.nil:Sz (aC L) 0 (CC L) e c []:=⟨aC.nil.mono (P4 _),P4 _,P4 _⟩
theorem Sz.NW(h:c1+1<=c)(x:Sz (aC L) 2 (CC L) e c1 a):Sz (aC L) 0 (CC L) e c a:=⟨x.good.mono (nA (My h)),nA x.mu (nK 12 h),nA x.dep (nA h)⟩
theorem Sz.NZ(h:c1+c2+1<=c)(x:Sz (aC L) 2 (CC L) e c1 a)(y:Sz (aC L) 2 (CC L) e c2 b):Sz (aC L) 0 (CC L) e c (a++b):=
 ⟨(x.good.seq y.good).mono (nA (Mw h)),by rw[aK];exact nA x.mu (nA y.mu (nK 12 h)),by rw[aI];exact Qb.mpr ⟨nA x.dep (nA h),nA y.dep (nA h)⟩⟩
variable{has:Bool}{k:Nat}{kd:Int}
theorem Sz.br(h:c1+1<=c)(x:Sz (Carry L has) 1 (CC L) e c1 a)(hk:L[k]?=some kd)(hh:(kd=1)=(has=true)):Sz (aC L) 2 (CC L) e c (a++[.leaf (.br k)]):=
 ⟨(GH x.good hk hh).mono (nA (My h)),by rw[aK,show Nm.Internal.mu [.leaf (.br k)]=1 from rfl];exact nA x.mu (nK 12 h),by rw[aI];exact Qb.mpr ⟨nA x.dep (nA h),P4 _⟩⟩
theorem yL:mu (.leaf (.b7 k)::if has then[.leaf .drop] else[])<=2/\dep (.leaf (.b7 k)::if has then[.leaf .drop] else[])=0:=by
 induction has using PU
 ·exact⟨P5 1,rfl⟩
 ·exact⟨PK 2,rfl⟩
theorem Sz.b7(h:c1+c2+1<=c)(x:Sz (Carry L has) 1 (CC L) e c1 a)(y:Sz (aN L) 1 (CC L) e c2 b)(hk:L[k]?=some kd)(hh:(kd=1)=(has=true)):Sz (aC L) 2 (CC L) e c (a++(b++(.leaf (.b7 k)::if has then[.leaf .drop] else[]))):=
 ⟨(i6 x.good y.good hk hh).mono (nA (Mw h)),by rw[aK,aK];exact nA x.mu (nA y.mu (nA (yL (has:=has) (k:=k)).1 (nK 12 h))),by rw[aI,aI,yL.2];exact Qb.mpr ⟨nA x.dep (nA h),Qb.mpr ⟨nA y.dep (nA h),P4 _⟩⟩⟩
theorem Sz.hW(h:c1+c2+1<=c)(x:Sz (Carry L has) 1 (CC L) e c1 a)(y:Sz (aN L) 1 (CC L) e c2 b)(hj:L[j]?=some kj)(hk:L[k]?=some kd)(hhj:(kj=1)=(has=true))(hh:(kd=1)=(has=true)):Sz (aC L) 2 (CC L) e c (a++(b++[.leaf (.hW j k)])):=
 ⟨(uN x.good y.good hj hk hhj hh).mono (nA (Mw h)),by rw[aK,aK,show Nm.Internal.mu [.leaf (.hW j k)]=1 from rfl];exact nA x.mu (nA y.mu (nK 12 h)),by rw[aI,aI];exact Qb.mpr ⟨nA x.dep (nA h),Qb.mpr ⟨nA y.dep (nA h),P4 _⟩⟩⟩
end
theorem JP(ih:∀N',N' < N->I1 (n+1) N'):ym (n+2) N:=λM tp out lb tape ps L dp Q X i0 h=>by
 refine aM (l:=[some (.lst tp),some (.lst out),some (.int dp),some (.lst lb),none]) rfl rfl rfl ?_;refine b0 ?_;refine eH ?_;right;refine(i0.start (n:=n)).next λM1 tape1 w e _ h2 _ p=>?_;right;have hf:=fm (v:=w) 3 (by decide);right;refine vt ⟨V8 (by decide) hf.1,V8 (Int.le_of_lt hf.2.1) (by decide)⟩ ⟨trivial,3,?_⟩;have:Rh w 3=0\/Rh w 3=1\/Rh w 3=2:=by lia
 rcases this with q |q |q
 ·rw[q]
  exact h M1 tape1 [] _ (p.res rfl p.le .nil)
 ·have k1:1<=0+e:=PH (h2 (hf.2.2 (by rw[q];decide))) (QX _ _)
  rw[q];refine p.own k1 (by decide) (ih _ (p.lt k1)) λM2 tape2 t2 c2 s2 p2=>?_;right;exact h M2 tape2 t2 _ (p2.res rfl p2.le (.NW (nA k1) s2))
 ·have k1:1<=0+e:=PH (h2 (hf.2.2 (by rw[q];decide))) (QX _ _)
  rw[q];refine p.own k1 (by decide) (ih _ (p.lt k1)) λM2 tape2 t2 c2 s2 p2=>?_;right;have k2:1<=0+e+c2:=PZ k1;refine p2.own k2 (by decide) (ih _ (p2.lt k2)) λM3 tape3 t3 c3 s3 p3=>?_;right;exact h M3 tape3 (t2++t3) _ (p3.res (aP ..) p3.le (.NZ (nA k1) s2 s3))
def Iy(S:GS)(Q:V->Mem->Prop):Prop:=∀M' tape' ts c,Res (aC S.L) 2 (CC S.L) (ee S.L) S.M0 S.tp S.out S.eY S.ps M' tape' ts c->Q .none M'
noncomputable def OL:List MS:=[bl (aq .eq (ab 2) (aa (.int 6)))
  (ae [bj (az (ab 1) (ag [(aa (.int 12)),(ab 4)])),aL (aa .none)])
  (ae []),bj (ah 43 [(ab 0),(ab 1),(aa (.int 1)),(ab 3)]),bl (aq .eq (ab 2) (aa (.int 7)))
  (ae [bj (az (ab 1) (ag [(aa (.int 13)),(ab 4)])),bj (bD (ab 1) (bR (kq (ab 5)) (aG [(ag [(aa (.int 26))])]) (aG [])))])
  (ae [aV 6 (aB .mod (ah 42 [(ab 0)]) (cj (ab 3))),bj (az (ab 1) (ag [(aa (.int 14)),(bR (aq .eq (fA .eq (ao (ab 3) (aB .sub (ba (aa (.int 1))) (ab 6))) (aa (.int 1))) (ab 5)) (ab 6) (ab 4)),(ab 4)]))])]
theorem qp{k:Nat}{kd pick:Int}(hp:pick=6\/pick=7\/pick=8)(hk:S.L[k]?=some kd)(h1:1<=d)(ih:IH n S.N){a ca:Nat}(ha:a<=1)(p:Pr S M tape (flat ta) (d+ca) a)(s:Sz (Carry S.L (kd == 1)) 1 (CC S.L) (ee S.L) ca ta)(h:Iy S Q):
  ae OL (aj fns (n+1)) [some (.lst S.tp),some (.lst S.out),some (.int pick),some (.lst S.lb),some (.int (k:Int)),some (.bool (kd == 1)),x6] M (rt Q) X:=by
 have hh:(kd=1)=((kd == 1)=true):=by simp
 have k1:1<=d+ca:=PZ h1;unfold OL;have ho:=p.fo;rcases hp with rfl |rfl |rfl
 ·right
  refine p.app (I.br k).enc rfl (PH ha (by decide)) λM2 p2=>?_;right;exact h _ _ (ta++[.leaf (.br k)]) _ (p2.res (aP ..) (p2.Ht k1) (.br (nA h1) s hk hh))
 ·right
  refine p.own k1 (PH (P7 ha 5) (by decide)) (ih _ (p.lt k1)).1 λM2 tape2 t2 c2 s2 p2=>?_;have ho2:=p2.fo;right;refine p2.app (I.b7 k).enc rfl (PH (P7 ha 1) (by decide)) λM3 p3=>?_;have ho3:=p3.fo;right;have sz:=Sz.b7 (c:=d+ca+c2) (nA h1) s s2 hk hh;refine aJ (λq=>?_) (λq=>?_)
  ·rw[q] at sz
   right;refine p3.ext [I.drop.enc] rfl (PH (P7 ha 2) (by decide)) (by decide) λM4 p4=>?_;right;exact h _ _ _ _ (p4.res (by simp[flat,eT,aP]) (p4.Ht (PZ k1)) sz)
  ·rw[q] at sz
   right;refine p3.ext [] rfl (PH (P7 ha 2) (by decide)) (by decide) λM4 p4=>?_;right;exact h _ _ _ _ (p4.res (by simp[flat,eT,aP]) (p4.Ht (PZ k1)) sz)
 ·right
  refine p.own k1 (PH (P7 ha 5) (by decide)) (ih _ (p.lt k1)).1 λM2 tape2 t2 c2 s2 p2=>?_;have ho2:=p2.fo;right;refine p2.next λM3 tape3 w e _ _ _ p3=>?_;have hl3:=p3.lab;have ho3:=p3.fo;right;have hlen:(0:Int) < ((fc S.L).length:Nat):=by rw[l7];exact Se.mpr (SN.mpr p.i0.ne)
  refine uR (by exact λz=>iF (iA hlen (iQ z))) ?_;refine aT (i4 (w:=w) hlen) λj hj hjl=>?_;have hjl:j < S.L.length:=by rw[l7] at hjl;exact RF.mp hjl
  have hjd:S.L[j]?=some S.L[j]:=Ql hjl;rw[hj];right;refine aY hl3 (yo hjd) ?_;right;refine Kq ?_;have fin:∀(j':Nat)(kj:Int),S.L[j']?=some kj->(kj=1)=((kd == 1)=true)->∀{M4},Pr S M4 tape3 (flat ta++flat t2++[(I.hW j' k).enc]) (d+ca+c2+e) (a+1+1)->Q .none M4:=λj' kj hj' hhj {M4} p4=>
   h _ _ (ta++(t2++[.leaf (.hW j' k)])) _ (p4.res (by simp[flat,eT,aP]) (p4.Ht (PZ (PZ k1))) (.hW (nA h1) s s2 hj' hk hhj hh))
  refine aJ (λq=>?_) (λq=>?_)
  ·right
   have e:(S.L[j]=1)=((kd == 1)=true):=by
    have q:(S.L[j] == 1)=(kd == 1):=by simpa using q
    rw[<- q];simp
   refine p3.app (I.hW j k).enc rfl (PH (P7 ha 1) (by decide)) λM4 p4=>?_;right;exact fin j _ hjd e p4
  ·right
   refine p3.app (I.hW k k).enc rfl (PH (P7 ha 1) (by decide)) λM4 p4=>?_;right;exact fin k _ hk hh p4
theorem HV(hp:pick=6\/pick=7\/pick=8)(p:Pr S M tape [] d 0)(h1:1<=d)(ih:IH n S.N)(h:Iy S Q):aj fns (n+2) 45 [.lst S.tp,.lst S.out,.int pick,.lst S.lb] Q X M:=by
 refine aM (l:=[some (.lst S.tp),some (.lst S.out),some (.int pick),some (.lst S.lb),none,none,none]) rfl rfl rfl ?_;refine b0 ?_;right;refine p.next λM3 tape3 w e _ _ _ p3=>?_;have hl3:=p3.lab;have k1:1<=d+e:=PZ h1;right;have hlen:(0:Int) < ((fc S.L).length:Nat):=by rw[l7];exact Se.mpr (SN.mpr p.i0.ne)
 refine uR (by exact λz=>iF (iA hlen (iQ z))) ?_;refine aT (i4 (w:=w) hlen) λj hj hjl=>?_;have hjl:j < S.L.length:=by rw[l7] at hjl;exact RF.mp hjl
 have hjd:S.L[j]?=some S.L[j]:=Ql hjl;rw[hj];right;refine aY hl3 (yo hjd) ?_;right;have cr {has:Bool} (q:(S.L[j] == 1)=has) {w:Nat} {t:List T} (g:Carry S.L has w t):Carry S.L (S.L[j] == 1) w t:=q ▸ g;refine aJ (λq=>?_) (λq=>?_)
 ·right
  refine p3.own k1 (by decide) (ih _ (p3.lt k1)).1 λMa tapea ta ca sa pa=>?_;refine bq (cJ (bq ?_));exact qp hp hjd k1 ih (by decide) pa ⟨cr q sa.good,sa.mu,sa.dep⟩ h
 ·refine cJ (bq ?_)
  exact qp hp hjd k1 ih (P4 _) (ta:=[]) (ca:=0) p3 ⟨cr q rfl,P4 _,P4 _⟩ h
end
theorem N1:CC (2::L)=5:=by unfold CC;simp
theorem Nr:ee (2::L)=0:=by unfold ee;simp
theorem NF(h:2∉L):CC L=23:=by unfold CC;rw[if_neg h]
theorem NL(h:2∉L):ee L=1:=by unfold ee;rw[if_neg h]
section
variable{L:List Int}{e c c1 c2 c3:Nat}{a b t:List T}
theorem Sz.Ng(h:c1+1<=c)(x:Sz (aC (0::L)) 0 (CC L) e c1 a):Sz (aC L) 2 (CC L) e c [.one (.dg false) a]:=
 ⟨x.good.dg.mono (nA (My h)),by simp only[Nm.Internal.mu,eh];exact nA x.mu (nK 12 h),by simp only[Nm.Internal.dep,bO];exact Qb.mpr ⟨nA x.dep (nA h),P4 _⟩⟩
theorem Sz.NU(h:c1+c2+1<=c)(x:Sz (aN L) 1 (CC L) e c1 a)(y:Sz (aC (0::L)) 0 (CC L) e c2 b):Sz (aC L) 2 (CC L) e c (a++[.one (.iff false) b]):=
 ⟨(aC.if1 x.good y.good).mono (nA (Mw h)),by rw[aK];simp only[Nm.Internal.mu,eh];exact nA x.mu (nA y.mu (nK 12 h)),by rw[aI];simp only[Nm.Internal.dep,bO];exact Qb.mpr ⟨nA x.dep (nA h),Qb.mpr ⟨nA y.dep (nA h),P4 _⟩⟩⟩
theorem Sz.NQ(h:1<=c)(x:Sz (aN L) 1 (CC L) e c1 a)(y:Sz (aC (0::L)) 0 (CC L) e c2 b)(z:Sz (aC (0::L)) 0 (CC L) e c3 t):Sz (aC L) 2 (CC L) e (c+c1+c2+c3) (a++[.two false b t]):=
 ⟨(aC.if2 x.good y.good z.good).mono (nA (ND h)),by rw[aK];simp only[Nm.Internal.mu,eh];exact nA x.mu (nA y.mu (nA z.mu (nK 12 h))),by rw[aI];simp only[Nm.Internal.dep,bO];exact Qb.mpr ⟨nA x.dep,Qb.mpr ⟨Oc (Qb.mpr ⟨nA y.dep,nA z.dep⟩:_<=c1+c2+c3+e) (nA h),P4 _⟩⟩⟩
theorem FT:mu (jt a)=14+mu a:=by
 simp[jt,jw,mu,eh,pV,aK];exact PN (nZ) (nZ)
theorem DE:dep (jt a)=dep a+2:=by simp[jt,jw,dep,bO,aI]
theorem AS:flat (jt a)=[[65,2],[33,4],[2,-64],[3,-64],[32,4],[69],[13,1]]++[[32,4],[65,1],[107],[33,4]]++flat a++[[12,0],[11],[11]]:=by
 simp[jt,jw,flat,eT,aP,I.enc,H.enc,jq,n1,n2]
theorem Sz.loop(h2:2∉L)(h:c1+1<=c)(x:Sz (aC (2::0::L)) 0 (CC (2::0::L)) (ee (2::0::L)) c1 a):Sz (aC L) 2 (CC L) (ee L) c (jt a):=by
 obtain⟨g,m,d⟩:=x;rw[N1] at g;rw[Nr] at d;rw[NF h2,NL h2];exact⟨(zX g h2).mono (nK 23 h),by rw[FT];exact nA m (nK 12 h),by rw[DE];exact nA d (nA h)⟩
end
section
variable{n:Nat}{c:Call}{l:Loc}{Q:V->Mem->Prop}{X:Mem->Prop}{M:Mem}{P:Fl->Loc->Mem->Prop}{K:Bool->Mem->Prop}
variable{S:GS}{tape:List Int}{d:Nat}{dp:Int}{x5:Option V}
theorem Dr(hp:pick=3\/pick=4\/pick=5/\2∉S.L)(p:Pr S M tape [] d 0)(h1:1<=d)(ih:IH n S.N)(h:Iy S Q):aj fns (n+2) 46 [.lst S.tp,.lst S.out,.int pick,.int dp,.lst S.lb] Q X M:=by
 refine aM (l:=[some (.lst S.tp),some (.lst S.out),some (.int pick),some (.int dp),some (.lst S.lb)]) rfl rfl rfl ?_;have ho:=p.fo;rcases hp with rfl |rfl |⟨rfl,h2⟩
 ·right
  refine p.app (H.dg false).enc rfl (by decide) λM1 p1=>?_;right;refine p1.add λM2 r2 p2 hl2 n1 n2=>?_;right;refine p2.gen h1 (by decide) (ih _ (p2.lt h1)).2 hl2 jD n1 n2 λM3 tape3 t3 c3 s3 p3=>?_;have ho3:=p3.fo;right;refine p3.app [11] rfl (by decide) λM4 p4=>?_;right;exact h _ _ [.one (.dg false) t3] _ (p4.res (by simp[flat,eT,aP]) (p4.Ht (PZ h1)) (.Ng (nA h1) s3.of0))
 ·right
  refine p.own h1 (by decide) (ih _ (p.lt h1)).1 λMa tapea ta ca sa pa=>?_;have hoa:=pa.fo;right;refine pa.app (H.iff false).enc rfl (by decide) λM1 p1=>?_;right;refine p1.add λM2 r2 p2 hl2 n1 n2=>?_;right;have k1:1<=d+ca:=PZ h1;refine p2.gen k1 (by decide) (ih _ (p2.lt k1)).2 hl2 jD n1 n2 λM3 tape3 t3 c3 s3 p3=>?_;right;refine p3.next λM4 tape4 w e _ _ _ p4=>?_;have k2:1<=d+ca+c3+e:=PZ (PZ k1);have ho4:=p4.fo;right;refine aJ (λq=>?_) (λq=>?_)
  ·right
   refine p4.app [5] rfl (by decide) λM5 p5=>?_;right;refine p5.add λM6 r6 p6 hl6 n3 n4=>?_;right;refine p6.gen k2 (by decide) (ih _ (p6.lt k2)).2 hl6 jD n3 n4 λM7 tape7 t7 c7 s7 p7=>?_;have ho7:=p7.fo;right;refine p7.app [11] rfl (by decide) λM8 p8=>?_;right;exact h _ _ (ta++[.two false t3 t7]) _ (p8.res (by simp[flat,eT,aP,H.enc]) (p8.Ht (PZ k2)) (by
    rw[show d+ca+c3+e+c7=d+e+ca+c3+c7 by rw[QU (d+ca) c3 e,QU d ca e]];exact .NQ (PZ h1) sa s3.of0 s7.of0))
  ·right
   refine p4.app [11] rfl (by decide) λM8 p8=>?_;right;exact h _ _ (ta++[.one (.iff false) t3]) _ (p8.res (by simp[flat,eT,aP,H.enc]) (p8.Ht k2) (.NU (nA h1) sa s3.of0))
 ·right
  refine p.ext [[65,2],[33,4],[2,-64],[3,-64],[32,4],[69],[13,1]] rfl (by decide) (by decide) λM1 p1=>?_;have ho1:=p1.fo;right;refine p1.ext [[32,4],[65,1],[107],[33,4]] rfl (by decide) (by decide) λM2 p2=>?_;right;refine p2.Nn λM3 r3 p3 hl3 n1 n2=>?_;right;refine p3.gen h1 (by decide) (ih _ (p3.lt h1)).2 hl3 Fg n1 n2 λM4 tape4 t4 c4 s4 p4=>?_;have ho4:=p4.fo;right;refine p4.ext [[12,0],[11],[11]] rfl (by decide) (by decide) λM5 p5=>?_;right;exact h _ _ (jt t4) _ (p5.res AS (p5.Ht (PZ h1)) (.loop h2 (nA h1) s4))
end
section
variable{n:Nat}{c:Call}{l:Loc}{Q:V->Mem->Prop}{X:Mem->Prop}{M:Mem}{P:Fl->Loc->Mem->Prop}{K:Bool->Mem->Prop}
theorem CX{xs:List Int}(hq:M.list? q=some (xs.map .int))(h:K (!(xs.any λy=>y == i)) M):eL .eI (.int i) (.lst q) M K:=by
 refine cw (r:=!(xs.any λy=>y == i)) ?_ h;show((M.list? q).bind λys=>vA M (.int i) ys).map (!·)=_
 rw[hq,QM,j9];rfl
variable{S:GS}{tape:List Int}{d:Nat}{dp:Int}{x5:Option V}
section
variable{L:List Int}{e c c1:Nat}{a:List T}
theorem Sz.use(h:c1<=c)(hm:pV i=1)(hi:i = .drop\/∃j,j < 4/\i = .set j)(x:Sz (aN L) 1 (CC L) e c1 a):Sz (aC L) 2 (CC L) e c (a++[.leaf i]):=
 ⟨(aC.use x.good i hi).mono (nA (Hx (C:=CC L) h)),by rw[aK,j6,hm];exact nA x.mu (nK 12 h),by rw[aI];exact Qb.mpr ⟨nA x.dep (nA h),P4 _⟩⟩
theorem Sz.ret(h:c1<=c)(x:Sz (aN L) 1 (CC L) e c1 a):Sz (aC L) 2 (CC L) e c (a++[.leaf .ret]):=
 ⟨(DJ x.good).mono (nA (Hx (C:=CC L) h)),by rw[aK,show Nm.Internal.mu [.leaf .ret]=1 from rfl];exact nA x.mu (nK 12 h),by rw[aI];exact Qb.mpr ⟨nA x.dep (nA h),P4 _⟩⟩
theorem Sz.J1(hj:j < 4)(hk:k < 4)(h:c1+1<=c)(x:Sz (aN L) 1 (CC L) e c1 a):Sz (aC L) 2 (CC L) e c (a++[.leaf (.set k)]++[.leaf (.get k),.leaf (.set j)]):=
 ⟨((aC.use x.good (.set k) (.inr ⟨k,hk,rfl⟩)).seq (aC.use (dH L k (Nat.lt_succ_of_lt hk)) (.set j) (.inr ⟨j,hj,rfl⟩))).mono (nA (My h)),by rw[aK,aK,show Nm.Internal.mu [.leaf (.set k)]=1 from rfl,show Nm.Internal.mu [.leaf (.get k),.leaf (.set j)]=2 from rfl];exact nA x.mu (nK 12 h),by rw[aI,aI];exact Qb.mpr ⟨Qb.mpr ⟨nA x.dep (nA h),P4 _⟩,P4 _⟩⟩
end
def JN(S:GS)(P:Fl->Loc->Mem->Prop):Prop:=∀M' tape' ts c l',Res (aC S.L) 2 (CC S.L) (ee S.L) S.M0 S.tp S.out S.eY S.ps M' tape' ts c->P .next l' M'
noncomputable def MK:List MS:=[aV 5 (aB .mod (ah 42 [(ab 0)]) (aa (.int 4))),bl (aq .eq (ab 4) (aa (.int 1)))
  (ae [bj (az (ab 1) (ag [(aa (.int 26))]))])
  (ae [bl (cD [(aq .eq (ab 4) (aa (.int 9))),(aq .gt (cj (ab 3)) (aa (.int 1)))])
  (ae [bj (az (ab 1) (ag [(aa (.int 15))]))])
  (ae [bj (az (ab 1) (ag [(aa (.int 33)),(ab 5)])),bj (bD (ab 1) (bR (aq .eq (ab 4) (aa (.int 11))) (aG [(ag [(aa (.int 32)),(ab 5)]),(ag [(aa (.int 33)),(aB .mod (aB .add (ab 5) (ah 42 [(ab 0)])) (aa (.int 4)))])]) (aG [])))])])]
theorem Kf(hdn:tape.length<=S.eY.length - 1)(p:Pr S M tape ([]++flat t1) (d+c1) (0+1))(s:Sz (aN S.L) 1 (CC S.L) (ee S.L) c1 t1)(h1:pick≠0->1<=d)(h:JN S P):
  ae MK (aj fns (n+1)) (dA S dp pick x5) M P X:=by
 unfold MK dA;refine b0 ?_;right;refine p.next λM2 tape2 w e _ _ hd2 p2=>?_;have ho2:=p2.fo;have hl2:=p2.lab;have hdn:=PH hd2 (PH (Sr _ _) hdn);have hc:c1<=d+c1+e:=PZ (QX _ _);right;refine aT (i4 (w:=w) (k:=4) (by decide)) λk hk hk4=>?_;have hk4:k < 4:=RF.mp hk4;rw[hk];refine aJ (λq=>?_) (λq=>?_)
 ·right
  refine p2.app I.drop.enc rfl (by decide) λM3 p3=>?_;right;exact h _ _ (t1++[.leaf .drop]) _ _ (p3.res (by simp[flat,eT,aP]) hdn (.use hc rfl (.inl rfl) s))
 ·right
  have setw:ae [bj (az (ab 1) (ag [(aa (.int 33)),(ab 5)])),bj (bD (ab 1) (bR (aq .eq (ab 4) (aa (.int 11))) (aG [(ag [(aa (.int 32)),(ab 5)]),(ag [(aa (.int 33)),(aB .mod (aB .add (ab 5) (ah 42 [(ab 0)])) (aa (.int 4)))])]) (aG [])))]
    (aj fns (n+1)) (dA S dp pick (some (.int (k:Int)))) M2 (j7 (aj fns (n+1)) (ae []) (j7 (aj fns (n+1)) (ae []) P X) X) X:=by
   unfold dA;right;refine p2.app (I.set k).enc rfl (by decide) λM3 p3=>?_;have ho3:=p3.fo;right;refine aJ (λq3=>?_) (λq3=>?_)
   ·have h1:=h1 (by rw[show pick=11 by simpa using q3];decide)
    right;refine p3.next λM4 tape4 w4 e4 _ _ hd4 p4=>?_;right;refine aT (i4 (w:=(k:Int)+w4) (k:=4) (by decide)) λj hj hj4=>?_;rw[hj];refine p4.ext [(I.get k).enc,(I.set j).enc] rfl (by decide) (QA rfl) λM5 p5=>?_;right;exact h _ _ _ _ _ (p5.res (by simp[flat,eT,aP]) (PH hd4 (PH (Sr _ _) hdn)) (.J1 (k:=k) (j:=j) (RF.mp hj4) hk4 (nA h1) s))
   ·right
    refine p3.ext [] rfl (by decide) (by decide) λM5 p5=>?_;right;exact h _ _ (t1++[.leaf (.set k)]) _ _ (p5.res (by simp[flat,eT,aP]) hdn (.use hc rfl (.inr ⟨k,hk4,rfl⟩) s))
  refine aJ (λq2=>?_) (λq2=>?_)
  ·right
   refine aJ (λq3=>?_) (λq3=>?_)
   ·right
    refine p2.app I.ret.enc rfl (by decide) λM3 p3=>?_;right;exact h _ _ (t1++[.leaf .ret]) _ _ (p3.res (by simp[flat,eT,aP]) hdn (.ret hc s))
   ·exact bB rfl setw
  ·exact bB rfl setw
def MN:MS:=bl (aq .eq (ab 4) (aa (.int 2)))
  (ae [bj (az (ab 1) (ag [(aa (.int 1))]))])
  (ae [bl (cD [(aq .eq (ab 4) (aa (.int 10))),(aq .gt (cj (ab 3)) (aa (.int 1)))])
  (ae [bj (az (ab 1) (ag [(aa (.int 0))]))])
  (ae (bj (ah 43 [(ab 0),(ab 1),(bR (aq .eq (ab 4) (aa (.int 1))) (aa (.int 2)) (aa (.int 1))),(ab 3)])::MK))])
theorem NA(hdn:tape.length<=S.eY.length - 1)(hV:mY (n+1) S.N)(i0:In S.N S.M0 S.tp S.out S.lb S.eY S.ps S.L 10)(p:Pr S M tape [] d 0)(h1:pick≠0->1<=d)(h:JN S P):
  MN (aj fns (n+1)) (dA S dp pick x5) M P X:=by
 have ho:=p.fo;have hl:=p.lab;have val {dp':Int} {Q:V->Mem->Prop} (hQ:∀M' tape' t c',tape'.length<=S.eY.length - 1->Sz (aN S.L) 1 (CC S.L) (ee S.L) c' t->Pr S M' tape' ([]++flat t) (d+c') (0+1)->Q .none M'):aj fns (n+1) 43 [.lst S.tp,.lst S.out,.int dp',.lst S.lb] Q X M:=by
  refine hV M S.tp S.out S.lb tape (S.ps++[]) S.L dp' Q X ⟨PH p.le i0.len,i0.ne,PH (RZ (SK 2 p.le) _) i0.small,?_,p.g,hl,i0.n1,i0.n2⟩ λM' tape' t c' r=>hQ M' tape' t c' (PH r.len.2 hdn) r.sz ⟨p.i0,by rw[<- PX];exact r.g,p.x.trans r.ext,by rw[p.len,r.len.1,Tz,Rr c'],?_⟩
  ·rw[Qg];exact nA i0.room (nK 100 p.le)
  ·rw[Rk,Sy];exact nA (cG.2 t) (nA r.sz.mu)
 unfold MN dA;right;have rest:ae (bj (ah 43 [(ab 0),(ab 1),(bR (aq .eq (ab 4) (aa (.int 1))) (aa (.int 2)) (aa (.int 1))),(ab 3)])::MK) (aj fns (n+1)) (dA S dp pick x5) M (j7 (aj fns (n+1)) (ae []) P X) X:=by
  unfold dA;refine b0 ?_;right;refine aJ (λq=>?_) (λq=>?_)
  ·right
   exact val λM1 tape1 t1 c1 hd s1 p1=>bq (Kf hd p1 s1 h1 λM' tape' ts c l' r=>bq (cJ (h M' tape' ts c l' r)))
  ·right
   exact val λM1 tape1 t1 c1 hd s1 p1=>bq (Kf hd p1 s1 h1 λM' tape' ts c l' r=>bq (cJ (h M' tape' ts c l' r)))
 refine aJ (λq=>?_) (λq=>?_)
 ·right
  refine p.app I.oM.enc rfl (by decide) λM3 p3=>?_;right;exact h _ _ [.leaf .oM] _ _ (p3.res rfl hdn (.Ho (DN _) rfl))
 ·right
  refine aJ (λq2=>?_) (λq2=>?_)
  ·right
   refine aJ (λq3=>?_) (λq3=>?_)
   ·right
    refine p.app I.pQ.enc rfl (by decide) λM3 p3=>?_;right;exact h _ _ [.leaf .pQ] _ _ (p3.res rfl hdn (.Ho (Dj _) rfl))
   ·exact bB rfl rest
  ·exact bB rfl rest
def KZ:MS:=bl (sU [(aq .isin (ab 4) (ag [(aa (.int 7)),(aa (.int 8))])),(cD [(aq .eq (ab 4) (aa (.int 6))),(aq .gt (cj (ab 3)) (aa (.int 1)))])])
  (ae [bj (ah 45 [(ab 0),(ab 1),(ab 4),(ab 3)])])
  (ae [MN])
theorem Nu(hdn:tape.length<=S.eY.length - 1)(hV:mY (n+2) S.N)(i0:In S.N S.M0 S.tp S.out S.lb S.eY S.ps S.L 10)(p:Pr S M tape [] d 0)(ih:IH n S.N)(h1:pick≠0->1<=d)(h:JN S P):
  KZ (aj fns (n+2)) (dA S dp pick x5) M P X:=by
 have hl:=p.lab;have rest:MN (aj fns (n+2)) (dA S dp pick x5) M (j7 (aj fns (n+2)) (ae []) P X) X:=
  NA hdn hV i0 p h1 λM' tape' ts c l' r=>bq (cJ (h M' tape' ts c l' r))
 have oP:(pick=6\/pick=7\/pick=8)->ae [bj (ah 45 [(ab 0),(ab 1),(ab 4),(ab 3)])] (aj fns (n+2)) (dA S dp pick x5) M P X:=λhp=>by
  unfold dA;right;refine HV hp p (h1 (by lia)) ih λM' tape' ts c r=>?_;right;exact h M' tape' ts c _ r
 unfold KZ dA;right
 try refine bJ [7,8] ?_
 refine aJ (λq=>?_) (λq=>?_)
 ·refine cf rfl (oP ?_)
  have:7=pick\/8=pick:=by simpa using q
  lia
 ·right
  refine aJ (λq2=>?_) (λq2=>?_)
  ·right
   have q2:pick=6:=by simpa using q2
   refine aJ (λq3=>?_) (λq3=>?_)
   ·right
    exact oP (.inl q2)
   ·exact rest
  ·exact rest
theorem Nv(hV:mY (n+2) N)(ih:IH n N):I1 (n+3) N:=λM tp out lb tape ps L dp Q X i0 h=>by
 refine aM (l:=[some (.lst tp),some (.lst out),some (.int dp),some (.lst lb),none,none]) rfl rfl rfl ?_;have eb:uf=ae [aV 4 (aB .mod (ah 42 [(ab 0)]) (aa (.int 12))),bl (cD [(aq .isin (ab 4) (ag [(aa (.int 3)),(aa (.int 4)),(aa (.int 5))])),(aq .gt (ab 2) (aa (.int 0))),(sU [(aq .lt (ab 4) (aa (.int 5))),(aq .eI (aa (.int 2)) (ab 3))])])
  (ae [bj (ah 46 [(ab 0),(ab 1),(ab 4),(ab 2),(ab 3)])])
  (ae [KZ])]:=rfl
 rw[eb];refine b0 ?_;right;refine(i0.start (n:=n)).next λM1 tape1 w e x1 h2 hd p=>?_;right;have hf:=fm (v:=w) 12 (by decide);have h1:Rh w 12≠0->1<=0+e:=λz=>PH (h2 (hf.2.2 z)) (QX _ _);generalize Rh w 12=pick at *;have rest:KZ (aj fns (n+2)) [some (.lst tp),some (.lst out),some (.int dp),some (.lst lb),some (.int pick),none] M1 (j7 (aj fns (n+2)) (ae []) (j7 (aj fns (n+2)) (ae []) (rt Q) X) X) X:=
  show KZ _ (dA ⟨n,N,M,tp,out,lb,tape,ps,L⟩ dp pick none) _ _ _ from Nu hd hV i0 p ih h1 λM' tape' ts c l' r=>bq (cJ (bq (cJ (kH (h M' tape' ts c r)))))
 have hl:=p.lab;have nest:(pick=3\/pick=4\/pick=5/\2∉L)->ae [bj (ah 46 [(ab 0),(ab 1),(ab 4),(ab 2),(ab 3)])] (aj fns (n+2)) [some (.lst tp),some (.lst out),some (.int dp),some (.lst lb),some (.int pick),none] M1 (j7 (aj fns (n+2)) (ae []) (rt Q) X) X:=λhp=>by
  right;refine Dr hp p (h1 (by lia)) ih λM' tape' ts c r=>?_;right;exact h M' tape' ts c r
 try refine bJ [3,4,5] ?_
 refine aJ (λq=>?_) (λq=>?_)
 ·have q:3=pick\/4=pick\/5=pick:=by simpa using q
  right;refine aJ (λq2=>?_) (λq2=>?_)
  ·right
   refine aJ (λq3=>?_) (λq3=>?_)
   ·right
    have q3:pick < 5:=by simpa using q3
    exact nest (by lia)
   ·right
    have q3:¬ pick < 5:=by simpa using q3
    refine CX hl ?_;refine aJ (λq4=>?_) (λq4=>?_)
    ·right
     refine nest (.inr (.inr ⟨by lia,λz=>?_⟩));have:(L.reverse.any λy=>y == 2)=true:=Uu.mpr ⟨2,List.mem_reverse.mpr z,rfl⟩;rw[this] at q4;exact cy q4
    ·exact rest
  ·exact rest
 ·exact rest
theorem yh:∀N,(∀n,2 * N+2<=n->mY n N/\ym n N)/\(∀n,2 * N+3<=n->I1 n N):=by
 intro N;induction N using Nat.strongRecOn with
 |ind N ih=>
  have hv:∀n,2 * N+2<=n->mY n N/\ym n N:=λn hn=>by
   obtain⟨k,rfl⟩:∃k,n=k+2:=⟨n - 2,by exact PN (nA (nS (n) (2))) (nA (nT (n) (2) (nA hn)))⟩;exact⟨Gs λN' h=>(ih N' h).1 (k+1) (by exact nK 2 h (nA hn)),JP λN' h=>(ih N' h).2 (k+1) (by exact nK 2 h (nA hn))⟩
  refine⟨hv,λn hn=>?_⟩;obtain⟨k,rfl⟩:∃k,n=k+3:=⟨n - 3,by exact PN (nA (nS (n) (3))) (nA (nT (n) (3) (nA hn)))⟩;exact Nv (hv (k+2) (by exact nA hn)).1 λN' h=>(ih N' h).1 (k+1) (by exact nK 2 h (nA hn))
end
noncomputable def wl(xs:List bS):List V:=xs.map λw=>.int w.i
theorem dT:(wl xs).length=xs.length:=by simp[wl]
theorem q9:wl (x::r).reverse=wl r.reverse++[.int x.i]:=by simp[wl]
theorem Jl{xs:List bS}{i:Nat}{x:bS}(h:xs[i]?=some x):(idx? (i:Int) (wl xs).length).bind (λj=>(wl xs)[j]?)=some (.int x.i):=by
 (refine xE (QJ.mp h) λhi q1q=>?_;obtain rfl:=q1q)
 unfold idx?;rw[if_pos (by exact iA (Qe (i))),if_pos (by rw[dT];exact RF.mpr (nA hi)),QM];simp[wl,hi]
theorem Bt{xs:List bS}(h:i < xs.length):idx? (i:Int) (wl xs).length=some i:=by
 unfold idx?;rw[if_pos (by exact iA (Qe (i))),if_pos (by rw[dT];exact RF.mpr (nA h))];simp
theorem Cq:(wl xs).set i (.int x.i)=wl (xs.set i x):=by simp[wl,List.map_set]
structure LS (M:Mem) (sp lp tr:Nat) (ak loc trc:List bS):Prop where
 f1:M.list? sp=some (wl ak.reverse)
 f2:M.list? lp=some (wl loc)
 f3:M.list? tr=some (wl trc)
 n1:sp≠lp
 n2:sp≠tr
 n3:lp≠tr
def fy(sp lp tr:Nat)(M M':Mem):Prop:=∀a,M a≠none->a≠sp->a≠lp->a≠tr->M' a=M a
theorem fy.refl:fy sp lp tr M M:=λ_ _ _ _ _=>rfl
theorem fy.trans(x:fy sp lp tr M M')(y:fy sp lp tr M' M''):fy sp lp tr M M'':=λa h h1 h2 h3=>by
 have e:=x a h h1 h2 h3;exact(y a (by rw[e];exact h) h1 h2 h3).trans e
theorem LS.CJ(s:LS M sp lp tr ak loc trc)(stk':List bS)(hv:vs=wl stk'.reverse):LS (M.set sp (.list vs)) sp lp tr stk' loc trc:=
 ⟨hv ▸ af ai,af ((aA (Qu s.n1)).trans (aw s.f2)),af ((aA (Qu s.n2)).trans (aw s.f3)),s.n1,s.n2,s.n3⟩
theorem LS.Cn(s:LS M sp lp tr ak loc trc)(loc':List bS)(hv:vs=wl loc'):LS (M.set lp (.list vs)) sp lp tr ak loc' trc:=
 ⟨af ((aA s.n1).trans (aw s.f1)),hv ▸ af ai,af ((aA (Qu s.n3)).trans (aw s.f3)),s.n1,s.n2,s.n3⟩
theorem LS.JL(s:LS M sp lp tr ak loc trc)(trc':List bS)(hv:vs=wl trc'):LS (M.set tr (.list vs)) sp lp tr ak loc trc':=
 ⟨af ((aA s.n2).trans (aw s.f1)),af ((aA s.n3).trans (aw s.f2)),hv ▸ af ai,s.n1,s.n2,s.n3⟩
theorem fy.CJ:fy sp lp tr M (M.set sp o):=λa _ h _ _=>aA h
theorem fy.Cn:fy sp lp tr M (M.set lp o):=λa _ _ h _=>aA h
theorem fy.JL:fy sp lp tr M (M.set tr o):=λa _ _ _ h=>aA h
section
variable{n:Nat}{c:Call}{l:Loc}{Q:V->Mem->Prop}{X:Mem->Prop}{M:Mem}{P:Fl->Loc->Mem->Prop}{K:Bool->Mem->Prop}
section
variable{sp lp tr:Nat}{ak loc trc:List bS}
theorem gE(s:LS M sp lp tr ak loc trc)(hv:v = .int x.i)(hz:ak.length<=5000)(h:∀M',LS M' sp lp tr (x::ak) loc trc->fy sp lp tr M M'->Q .none M'):nV sp v M Q:=by
 subst hv;right
 try refine fv s.f1 (by rw[dT,Qv];unfold bh;exact nA hz) ?_
 exact h _ (s.CJ (x::ak) q9.symm) .CJ
theorem cR(s:LS M sp lp tr (x::ak) loc trc)(h:∀M',LS M' sp lp tr ak loc trc->fy sp lp tr M M'->Q (.int x.i) M'):Jr sp M Q:=by
 refine iU (xs:=wl ak.reverse) (by rw[s.f1,q9]) ?_;exact h _ (s.CJ ak rfl) .CJ
theorem za:(idx? (-1) (wl (x::r).reverse).length).bind (λj=>(wl (x::r).reverse)[j]?)=some (.int x.i):=by
 rw[q9];exact jv
def L3(trc0:List bS)(z:jk)(M0:Mem)(sp lp tr:Nat)(Q:V->Mem->Prop):Prop:=match z with
 |.to rs=>∀M',LS M' sp lp tr rs.ak rs.loc rs.tr->fy sp lp tr M0 M'->Q (.bool false) M'
 |.res (.bk t)=>∀M',M'.list? tr=some (wl t)->fy sp lp tr M0 M'->Q (.bool true) M'
 |.res _=>True
theorem ye(hi:∀k,i≠.br k/\i≠.b7 k)(h0:i≠.pQ/\i≠.ret/\∀j k,i≠.hW j k)(hs:plainS i rs=some z)(s:LS M sp lp tr rs.ak rs.loc rs.tr)(hz:rs.ak.length<=4000)(ht:rs.tr.length<=4000)(h:L3 rs.tr z M sp lp tr Q):
  aj fns (n+1) 49 [PV i.enc,.lst sp,.lst lp,.lst tr] Q X M:=by
 refine aM (l:=[some (PV i.enc),some (.lst sp),some (.lst lp),some (.lst tr),none,none,none,none]) rfl rfl rfl ?_;obtain⟨pos,ak,lab,loc,trc⟩:=rs;simp only at s hz ht;have e1:=s.f1;have e2:=s.f2;have e3:=s.f3;induction i using I.casesOn with
 |pQ=>exact absurd rfl h0.1
 |br k=>exact absurd rfl (hi k).1
 |b7 k=>exact absurd rfl (hi k).2
 |hW j k=>exact absurd rfl (h0.2.2 j k)
 |ret=>exact absurd rfl h0.2.1
 |oM=>
  obtain rfl:=PG hs;right;exact h M s .refl
 |cst n=>
  obtain rfl:=PG hs;right;refine jd ?_;right;refine gE (x:=wr n.i) s (by rw[jL]) (by exact nA hz) λM' s' x'=>?_;right;exact h M' s' x'
 |get i=>
  have hs:(match loc[i]? with |some x=>oZ ⟨pos,ak,lab,loc,trc⟩ x |none=>none)=some z:=hs
  induction hg:loc[i]? using Option.casesOn with
  |none=>rw[hg] at hs;exact bf hs
  |some x=>
   rw[hg] at hs;obtain rfl:=PG hs;right;refine aY e2 (Jl hg) ?_;right;refine gE s rfl (by exact nA hz) λM' s' x'=>?_;right;exact h M' s' x'
 |set i=>
  rcases ak with _ |⟨x,r⟩
  ·exact bf hs
  ·(refine xA (rG (x:=jk.to ⟨pos,r,lab,loc.set i x,trc⟩) hs) λhi q1q=>?_;obtain rfl:=q1q)
   right;refine cR s λM1 s1 x1=>?_;right;refine Ei s1.f2 (Bt hi) ?_;rw[Cq];right;exact h _ (s1.Cn _ rfl) (x1.trans .Cn)
 |dW i=>
  rcases ak with _ |⟨x,r⟩
  ·exact bf hs
  ·(refine xA (rG (x:=jk.to ⟨pos,x::r,lab,loc.set i x,trc⟩) hs) λhi q1q=>?_;obtain rfl:=q1q)
   right;refine aY e1 za ?_;right;refine Ei e2 (Bt hi) ?_;rw[Cq];right;exact h _ (s.Cn _ rfl) .Cn
 |ic=>
  rcases ak with _ |⟨x,r⟩
  ·exact bf hs
  ·obtain rfl:=PG hs
   right;refine cR s λM1 s1 x1=>?_;have f1:=s1.f1;right;refine gE (x:=wr (if x.i=0 then 1 else 0)) s1 ?_ (by simp at hz;exact nA hz) λM' s' x'=>?_
   ·congr 1
    by_cases hx:x.i=0
    ·rw[if_pos hx,hx];rfl
    ·rw[if_neg hx,beq_eq_false_iff_ne.mpr hx];rfl
   ·right
    exact h M' s' (x1.trans x')
 |call=>
  rcases ak with _ |⟨x,r⟩
  ·exact bf hs
  ·obtain rfl:=PG hs
   right;refine aY e1 za ?_;right
   try refine fv e3 (by rw[dT];unfold bh;exact nA ht) ?_
   have s1:=s.JL (vs:=wl trc++[.int x.i]) (trc++[x]) (by simp[wl]);have f1:=s1.f1;right;refine cR s1 λM2 s2 x2=>?_;right;refine jd ?_;right;refine gE (x:=wr (x.i+1)) s2 (by rw[jL]) (by simp at hz;exact nA hz) λM' s' x'=>?_;right;exact h M' s' (fy.JL.trans (x2.trans x'))
 |drop=>
  rcases ak with _ |⟨x,r⟩
  ·exact bf hs
  ·obtain rfl:=PG hs
   right;refine cR s λM1 s1 x1=>?_;right;exact h M1 s1 x1
 |sel=>
  rcases ak with _ |⟨z',_ |⟨y,_ |⟨x,r⟩⟩⟩
  ·exact bf hs
  ·exact bf hs
  ·exact bf hs
  ·obtain rfl:=PG hs
   right;refine cR s λM1 s1 x1=>?_;right;refine cR s1 λM2 s2 x2=>?_;right;refine cR s2 λM3 s3 x3=>?_;have f1:=s3.f1;right;have e:x1.trans (x2.trans x3)=x1.trans (x2.trans x3):=rfl;refine aJ (λq=>?_) (λq=>?_)
   ·have q:z'.i≠0:=by simpa using q
    right;refine gE (x:=x) s3 rfl (by simp at hz;exact nA hz) λM' s' x'=>?_;right;refine h M' ?_ ((x1.trans (x2.trans x3)).trans x');simp only[if_pos q];exact s'
   ·have q:¬ z'.i≠0:=by simpa using q
    right;refine gE (x:=y) s3 rfl (by simp at hz;exact nA hz) λM' s' x'=>?_;right;refine h M' ?_ ((x1.trans (x2.trans x3)).trans x');simp only[if_neg q];exact s'
 |add=>
  rcases ak with _ |⟨y,_ |⟨x,r⟩⟩
  ·exact bf hs
  ·exact bf hs
  ·obtain rfl:=PG hs
   right;refine cR s λM1 s1 x1=>?_;right;refine cR s1 λM2 s2 x2=>?_;have f1:=s2.f1;right;refine jd ?_;right;refine gE (x:=wr (x.i+y.i)) s2 (by rw[jL]) (by simp at hz;exact nA hz) λM' s' x'=>?_;right;exact h M' s' ((x1.trans x2).trans x')
 |sub=>
  rcases ak with _ |⟨y,_ |⟨x,r⟩⟩
  ·exact bf hs
  ·exact bf hs
  ·obtain rfl:=PG hs
   right;refine cR s λM1 s1 x1=>?_;right;refine cR s1 λM2 s2 x2=>?_;have f1:=s2.f1;right;refine jd ?_;right;refine gE (x:=wr (x.i - y.i)) s2 (by rw[jL];rfl) (by simp at hz;exact nA hz) λM' s' x'=>?_;right;exact h M' s' ((x1.trans x2).trans x')
 |div=>
  rcases ak with _ |⟨y,_ |⟨x,r⟩⟩
  ·exact bf hs
  ·exact bf hs
  ·have hs:(if y.i=0 then some (.res (.bk trc)) else some (.to ⟨pos,wr (x.i / y.i)::r,lab,loc,trc⟩))=some z:=hs
   right;refine cR s λM1 s1 x1=>?_;right;refine cR s1 λM2 s2 x2=>?_;have f1:=s2.f1;right;refine aJ (λq=>?_) (λq=>?_)
   ·have q:y.i=0:=by simpa using q
    rw[if_pos q] at hs;obtain rfl:=PG hs;right;exact h M2 s2.f3 (x1.trans x2)
   ·have q:y.i≠0:=by simpa using q
    rw[if_neg q] at hs;obtain rfl:=PG hs;have hlo:=y.lo;have hhi:=y.hi;right;refine D5 (by lia) (by lia) ?_;have ed:Uq x.i y.i=(wr (x.i / y.i)).i:=by
     rw[Sx _ hlo,JD];refine(Ug (WG x.lo hlo) ?_).symm;exact VY (Wq _ x.lo) x.hi
    right;refine gE (x:=wr (x.i / y.i)) s2 (by rw[ed]) (by simp at hz;exact nA hz) λM' s' x'=>?_;right;exact h M' s' ((x1.trans x2).trans x')
end
noncomputable def lk(es:List (Int × Int))(k:Nat):Option Int:=es.lookup (k:Int)
noncomputable def EE(es:List (Int × Int))(k:Nat):Option Nat:=(lk es k).map Int.toNat
theorem nk{es:List (Int × Int)}{p k:Nat}{v:Int}:lk (dictPut es (p:Int) v) k=if k=p then some v else lk es k:=by
 unfold lk dictPut;rw[QN];by_cases h:k=p
 ·rw[if_pos h,h];simp
 ·rw[if_neg h]
  have:((k:Int) == (p:Int))=false:=by rw[beq_eq_false_iff_ne];lia
  rw[this]
def NN(es:List (Int × Int)):Prop:=∀(k:Nat)(v:Int),lk es k=some v->0<=v
theorem NN.put{es:List (Int × Int)}(h:NN es){p v:Nat}:NN (dictPut es (p:Int) (v:Int)):=λk w e=>by
 rw[nk] at e;split at e
 ·obtain rfl:=PG e;exact iA (Qe (v))
 ·exact h k w e
structure D3 (M:Mem) (ed xd op:Nat) (es xs:List (Int × Int)) (ak:List V):Prop where
 f1:M.dict? ed=some es
 f2:M.dict? xd=some xs
 f3:M.list? op=some ak
 ne:ed≠xd
 BE:NN es
 Fo:NN xs
theorem ej(h:M.dict? a=some es):M a=some (.dict es):=by
 unfold Mem.dict? at h;split at h
 ·obtain rfl:=PG h;assumption
 ·exact bf h
theorem D3.n1(d:D3 M ed xd op es xs ak):ed≠op:=λz=>by
 have h1:=ej d.f1;have h2:=aw d.f3;rw[z,h2] at h1;cases h1
theorem D3.n2(d:D3 M ed xd op es xs ak):xd≠op:=λz=>by
 have h1:=ej d.f2;have h2:=aw d.f3;rw[z,h2] at h1;cases h1
theorem D3.K0(d:D3 M ed xd op es xs ak)(es':List (Int × Int))(hn:NN es'):D3 (M.set ed (.dict es')) ed xd op es' xs ak:=
 ⟨ek ai,ek ((aA (Qu d.ne)).trans (ej d.f2)),af ((aA (Qu d.n1)).trans (aw d.f3)),d.ne,hn,d.Fo⟩
theorem D3.Od(d:D3 M ed xd op es xs ak)(xs':List (Int × Int))(hn:NN xs'):D3 (M.set xd (.dict xs')) ed xd op es xs' ak:=
 ⟨ek ((aA d.ne).trans (ej d.f1)),ek ai,af ((aA (Qu d.n2)).trans (aw d.f3)),d.ne,d.BE,hn⟩
theorem D3.Jo(d:D3 M ed xd op es xs ak)(stk':List V):D3 (M.set op (.list stk')) ed xd op es xs stk':=
 ⟨ek ((aA d.n1).trans (ej d.f1)),ek ((aA d.n2).trans (ej d.f2)),af ai,d.ne,d.BE,d.Fo⟩
def Ex(ed xd op:Nat)(M M':Mem):Prop:=∀a,a≠ed->a≠xd->a≠op->M' a=M a
theorem Ex.refl:Ex ed xd op M M:=λ_ _ _ _=>rfl
theorem Ex.trans(x:Ex ed xd op M M')(y:Ex ed xd op M' M''):Ex ed xd op M M'':=λa h1 h2 h3=>(y a h1 h2 h3).trans (x a h1 h2 h3)
theorem tw{q k:Nat}{es:List (Int × Int)}(hq:M.dict? q=some es)(h:K (lk es k).isSome M):eL .isin (.int (k:Int)) (.hJ q) M K:=by
 refine cw (r:=(lk es k).isSome) ?_ h;show(M.dict? q).map _=_;rw[hq];rfl
def hO(c:Call)(seg:List Tok)(ts:List T):Prop:=∀(M:Mem)(q p m ed xd op:Nat)(all rest:List Tok)(es xs:List (Int × Int))(ak:List V)(x0 x4 x5 x6:Option V)(P:Fl->Loc->Mem->Prop),
 M.list? q=some (all.map λt=>PV t.enc)->all.drop p=seg++rest->D3 M ed xd op es xs ak->q≠op->(∀k,p<=k->lk xs k=none)->ak.length+seg.length<=5000->es.length+2 * seg.length<=20000->xs.length+seg.length<=20000->
 (∀M' es' xs' y4 y5 y6,D3 M' ed xd op es' xs' ak->Ex ed xd op M M'->(∀k,k < p\/p+seg.length<=k->lk es' k=lk es k/\lk xs' k=lk xs k)->(∀E X,(∀k,p<=k->k < p+seg.length->E k=EE es' k/\X k=EE xs' k)->oo E X ts p)->es'.length<=es.length+2 * seg.length->xs'.length<=xs.length+seg.length->
  ct c (.two 4 5) xZ (.kG q) m (p+seg.length) [x0,some (.hJ ed),some (.hJ xd),some (.lst op),y4,y5,y6] M' P)->
 ct c (.two 4 5) xZ (.kG q) (seg.length+m) p [x0,some (.hJ ed),some (.hJ xd),some (.lst op),x4,x5,x6] M P
theorem i5{all:List Tok}{t:Tok}(hq:M.list? q=some (all.map λt=>PV t.enc))(hk:all.drop p=t::rest)(h:xZ c [x0,x1,x2,x3,some (.int (p:Int)),some (PV t.enc),x6] M (Ba c (.two 4 5) xZ (.kG q) m p P) (λ_=>False)):ct c (.two 4 5) xZ (.kG q) (m+1) p [x0,x1,x2,x3,x4,x5,x6] M P:=by
 refine dY (v:=.tup [.int (p:Int),PV t.enc]) (l1:=[x0,x1,x2,x3,some (.int (p:Int)),some (PV t.enc),x6]) ?_ rfl h;show(M.list? q).map _=_;have:all[p]?=some t:=by rw[<- Q9,hk];rfl
 rw[hq,Qj,QE,this];rfl
theorem Ex.list(x:Ex ed xd op M M')(d:D3 M ed xd op es xs ak)(h:M.list? q=some vs)(nq:q≠op):M'.list? q=some vs:=by
 have h':=aw h;refine af ((x q (λz=>?_) (λz=>?_) nq).trans h')
 ·have:=ej d.f1
  rw[<- z,h'] at this;cases this
 ·have:=ej d.f2
  rw[<- z,h'] at this;cases this
theorem zx{s1 s2:List Tok}(hl:(bc t1).length=s1.length)(h1:hO c s1 t1)(h2:hO c s2 t2):hO c (s1++s2) (t1++t2):=λM q p m ed xd op all rest es xs ak x0 x4 x5 x6 P hq hk d nq hx z1 z2 z3 h=>by
 rw[PS] at z1 z2 z3;rw[show(s1++s2).length+m=s1.length+(s2.length+m) by simp;exact PN (nZ) (nZ)];refine h1 M q p (s2.length+m) ed xd op all (s2++rest) es xs ak x0 x4 x5 x6 P hq (by rw[hk,PX]) d nq hx (by exact nA z1) (by exact nA z2) (by exact nA z3) λM' es' xs' y4 y5 y6 d' x' a1 a2 a3 a4=>?_;refine h2 M' q (p+s1.length) m ed xd op all rest es' xs' ak x0 y4 y5 y6 P (x'.list d hq nq) (by rw[<- Rv,hk,PX,Q6]) d' nq (λk hk'=>by rw[(a1 k (.inr hk')).2];exact hx k (by exact nA hk')) (by exact nA z1) (by exact nA a3 (nA z2)) (by exact nA a4 (nA z3)) λM2 es2 xs2 w4 w5 w6 d2 x2 b1 b2 b3 b4=>?_;rw[show p+s1.length+s2.length=p+(s1++s2).length by simp;exact PN (nZ) (nZ)];refine h M2 es2 xs2 w4 w5 w6 d2 (x'.trans x2) (λk hk'=>?_) (λE Y hE=>?_) (by simp;exact nA b3 (nA a3)) (by simp;exact nA b4 (nA a4))
 ·rw[PS] at hk'
  have e1:=a1 k (by lia);have e2:=b1 k (by lia);exact⟨e2.1.trans e1.1,e2.2.trans e1.2⟩
 ·rw[PS] at hE
  have m1:=a2 E Y λk h1 h2=>by
   have e:=hE k h1 (by exact nA h2);have e2:=b1 k (.inl h2);unfold EE at e |-;rw[<- e2.1,<- e2.2];exact e
  have m2:=b2 E Y λk h1 h2=>hE k (by exact nA h1) (by exact nA h2);have go:∀(ts:List T)(p:Nat),oo E Y ts p->oo E Y t2 (p+(bc ts).length)->oo E Y (ts++t2) p:=λts=>by
   induction ts with
   |nil=>intro p _ h;simpa [bc] using h
   |cons t ts ih=>
    intro p h h';rw[Qz];unfold oo at h |-;refine⟨h.1,ih _ h.2 ?_⟩;rw[show p+(lD t).length+(bc ts).length=p+(bc (t::ts)).length by simp[bc];exact PN (nZ) (nZ)];exact h'
  exact go t1 p m1 (by rw[hl];exact m2)
theorem Cz{i:I}{x0 x1 x2 x3 x4 x6:Option V}(h:P .next [x0,x1,x2,x3,x4,some (PV i.enc),x6] M):xZ c [x0,x1,x2,x3,x4,some (PV i.enc),x6] M P X:=by
 unfold xZ;have⟨c1,c2,c3⟩:=nc i;right;refine kE ?_;right;refine sX c1 ?_;right;refine kE ?_;right;refine kE ?_;right;exact h
theorem FO(i:I):hO c [.ins i] [.leaf i]:=λM q p m ed xd op all rest es xs ak x0 x4 x5 x6 P hq hk d nq hx z1 z2 z3 h=>by
 show ct c _ _ _ (1+m) _ _ _ _;rw[Rr];exact i5 hq hk (Cz (i:=i) ((h M es xs (some (.int (p:Int))) (some (PV i.enc)) x6 d .refl (λ_ _=>⟨rfl,rfl⟩) (λE Y _=>by unfold oo yT oo;exact⟨trivial,trivial⟩) (by exact nZ) (by exact nZ))))
theorem tV{h:H}{ak:List V}(ho:M.list? op=some ak)(hz:ak.length<=bh)(hh:P .next [x0,x1,x2,some (.lst op),some (.int (p:Int)),some (PV h.enc),x6] (M.set op (.list (ak++[.int (p:Int)])))):
  xZ c [x0,x1,x2,some (.lst op),some (.int (p:Int)),some (PV h.enc),x6] M P X:=by
 unfold xZ;induction h using H.casesOn<;>(
  right
  try refine bJ [2,3,4] ?_
  right;exact hh)
theorem yG{k p ed xd op:Nat}{es xs:List (Int × Int)}{ak:List V}{x0 x6:Option V}(d:D3 M ed xd op es xs (ak++[.int (k:Int)]))(hz:es.length+1<=bh)(h:∀M' es',D3 M' ed xd op es' xs ak->Ex ed xd op M M'->(∀j,lk es' j=if lk xs k=some (j:Int) then some (p:Int) else if j=k then some (p:Int) else lk es j)->es'.length<=es.length+2->P .next [x0,some (.hJ ed),some (.hJ xd),some (.lst op),some (.int (p:Int)),some (PV [11]),some (.int (k:Int))] M')(hn:∀v,lk xs k=some v->∃y:Nat,v=y):
  xZ c [x0,some (.hJ ed),some (.hJ xd),some (.lst op),some (.int (p:Int)),some (PV [11]),x6] M P X:=by
 unfold xZ;right
 try refine bJ [2,3,4] ?_
 right;refine iU d.f3 ?_;have d1:=d.Jo ak;have x1:Ex ed xd op M (M.set op (.list ak)):=λa _ _ h3=>aA h3;right;refine BA d1.f1 (by exact nA hz) ?_;have d2:=d1.K0 (dictPut es (k:Int) (p:Int)) d1.BE.put;have x2:Ex ed xd op (M.set op (.list ak)) ((M.set op (.list ak)).set ed (.dict (dictPut es (k:Int) (p:Int)))):=λa h1 _ _=>aA h1;right;refine tw d2.f2 ?_;induction hk:lk xs k using Option.casesOn with
 |none=>
  right;refine h _ _ d2 (x1.trans x2) (λj=>?_) (by simp[dictPut]);rw[nk,if_neg (c:=lk xs k=some (j:Int)) (by rw[hk];simp)]
 |some v=>
  (refine xE (hn v hk) λy q1q=>?_;obtain rfl:=q1q)
  right;refine k6 d2.f2 hk ?_;right;refine BA d2.f1 (by simp[dictPut];exact nA hz) ?_;have d3:=d2.K0 (dictPut (dictPut es (k:Int) (p:Int)) (y:Int) (p:Int)) d2.BE.put;right;refine h _ _ d3 (x1.trans (x2.trans λa h1 _ _=>aA h1)) (λj=>?_) (by simp[dictPut]);rw[nk,nk];by_cases hj:j=y
  ·rw[if_pos hj,if_pos (by rw[hk,hj])]
  ·rw[if_neg hj,if_neg (c:=lk xs k=some (j:Int)) (by rw[hk];intro z;injection z;lia)]
theorem EN(d:D3 M ed xd op es xs (ak++[.int (k:Int)]))(hz:xs.length<=bh)(h:P .next [x0,some (.hJ ed),some (.hJ xd),some (.lst op),some (.int (p:Int)),some (PV [5]),x6] (M.set xd (.dict (dictPut xs (k:Int) (p:Int))))):
  xZ c [x0,some (.hJ ed),some (.hJ xd),some (.lst op),some (.int (p:Int)),some (PV [5]),x6] M P X:=by
 unfold xZ;right
 try refine bJ [2,3,4] ?_
 right;refine aY d.f3 jv ?_;right;refine BA d.f2 hz ?_;right;exact h
theorem yt(h:yT E Y t p):oo E Y [t] p:=by
 rw[oo,oo];exact⟨h,trivial⟩
theorem mk_one(ih:hO c (bc a) a):hO c (.lz h::(bc a++[.fin])) [.one h a]:=λM q p m ed xd op all rest es xs ak x0 x4 x5 x6 P hq hk d nq hx z1 z2 z3 hh=>by
 have el:(Tok.lz h::(bc a++[Tok.fin])).length=(bc a).length+2:=by simp
 rw[el] at z1 z2 z3;have ef:(Tok.lz h::(bc a++[Tok.fin])).length+m=((bc a).length+(m+1))+1:=by rw[el];exact PN (nZ) (nZ)
 rw[ef];refine i5 hq hk (tV d.f3 (by unfold bh;exact nA z1) ?_);have d1:=d.Jo (ak++[.int (p:Int)]);have x1:Ex ed xd op M (M.set op (.list (ak++[.int (p:Int)]))):=λa _ _ h3=>aA h3;have hkd:all.drop (p+1)=bc a++(.fin::rest):=by rw[<- QL,hk];simp
 refine ih _ q (p+1) (m+1) ed xd op all (.fin::rest) es xs _ _ _ _ _ P (x1.list d hq nq) hkd d1 nq (λk hk'=>hx k (by exact nA hk')) (by simp;exact nA z1) (by exact nA z2) (by exact nA z3) λM2 es2 xs2 y4 y5 y6 d2 x2 a1 a2 a3 a4=>?_;have hxp:lk xs2 p=none:=by rw[(a1 p (by exact .inl (nZ))).2];exact hx p (by exact nZ)
 have x02:=x1.trans x2;refine i5 (x02.list d hq nq) (rest:=rest) (t:=.fin) (by rw[<- Rv,hkd,Q6]) (yG (k:=p) d2 (by unfold bh;exact nA a3 (nA z2)) (λM3 es3 d3 x3 b1 b2=>?_) (λv hv=>by rw[hxp] at hv;exact bf hv));have b1:∀j,lk es3 j=if j=p then some ((p+1+(bc a).length:Nat):Int) else lk es2 j:=λj=>by
  rw[b1 j,if_neg (c:=lk xs2 p=some (j:Int)) (by rw[hxp];simp)]
 show ct c _ _ _ _ _ _ _ _;rw[show p+1+(bc a).length+1=p+(Tok.lz h::(bc a++[Tok.fin])).length by rw[el];exact PN (nZ) (nZ)];refine hh M3 es3 xs2 _ _ _ d3 (x02.trans x3) (λk hk'=>?_) (λE Y hE=>?_) (by rw[el];exact nA b2 (nA a3)) (by rw[el];exact nA a4)
 ·rw[el] at hk'
  have e:=a1 k (by lia);rw[b1 k,if_neg (by lia)];exact e
 ·rw[el] at hE
  have e0:=hE p (by exact nZ) (by exact nZ);refine yt ?_;unfold yT;refine⟨?_,λv _=>?_,a2 E Y λk h1 h2=>?_⟩
  ·rw[e0.1];unfold EE;rw[b1 p,if_pos rfl];simp only[Qj,Sm]
  ·rw[e0.2];unfold EE;rw[hxp];rfl
  ·have e:=hE k (by exact nA h1) (by exact nA h2)
   rw[e.1,e.2];unfold EE;rw[b1 k,if_neg (by exact λz=>nF (nA h1 (nQ z)))];exact⟨rfl,rfl⟩
theorem JC(iha:hO c (bc a) a)(ihb:hO c (bc b) b):hO c (.lz (.iff v)::(bc a++.rj::(bc b++[.fin]))) [.two v a b]:=λM q p m ed xd op all rest es xs ak x0 x4 x5 x6 P hq hk d nq hx z1 z2 z3 hh=>by
 have el:(Tok.lz (.iff v)::(bc a++.rj::(bc b++[Tok.fin]))).length=(bc a).length+(bc b).length+3:=by simp;exact PN (nZ) (nZ)
 rw[el] at z1 z2 z3;have ef:(Tok.lz (.iff v)::(bc a++.rj::(bc b++[Tok.fin]))).length+m=((bc a).length+(((bc b).length+(m+1))+1))+1:=by rw[el];exact PN (nZ) (nZ)
 rw[ef];refine i5 hq hk (tV (h:=.iff v) d.f3 (by unfold bh;exact nA z1) ?_);have d1:=d.Jo (ak++[.int (p:Int)]);have x1:Ex ed xd op M (M.set op (.list (ak++[.int (p:Int)]))):=λa _ _ h3=>aA h3;have hkd:all.drop (p+1)=bc a++(.rj::(bc b++(.fin::rest))):=by rw[<- QL,hk];simp
 refine iha _ q (p+1) (((bc b).length+(m+1))+1) ed xd op all (.rj::(bc b++(.fin::rest))) es xs _ _ _ _ _ P (x1.list d hq nq) hkd d1 nq (λk hk'=>hx k (by exact nA hk')) (by simp;exact nA z1) (by exact nA z2) (by exact nA z3) λM2 es2 xs2 y4 y5 y6 d2 x2 a1 a2 a3 a4=>?_;have hxp:lk xs2 p=none:=by rw[(a1 p (by exact .inl (nZ))).2];exact hx p (by exact nZ)
 have x02:=x1.trans x2;have hkd2:all.drop (p+1+(bc a).length) = .rj::(bc b++(.fin::rest)):=by rw[<- Rv,hkd,Q6]
 refine i5 (x02.list d hq nq) hkd2 (EN (k:=p) d2 (by unfold bh;exact nA a4 (nA z3)) ?_);have d3:=d2.Od (dictPut xs2 (p:Int) ((p+1+(bc a).length:Nat):Int)) d2.Fo.put;have x3:Ex ed xd op M2 (M2.set xd (.dict (dictPut xs2 (p:Int) ((p+1+(bc a).length:Nat):Int)))):=λa _ h2 _=>aA h2;have lx3:∀j,lk (dictPut xs2 (p:Int) ((p+1+(bc a).length:Nat):Int)) j=if j=p then some ((p+1+(bc a).length:Nat):Int) else lk xs2 j:=λj=>nk
 have Bb:(dictPut xs2 (p:Int) ((p+1+(bc a).length:Nat):Int)).length=xs2.length+1:=rfl;generalize dictPut xs2 (p:Int) ((p+1+(bc a).length:Nat):Int)=xs3 at *;have x03:=x02.trans x3;have hkd3:all.drop (p+1+(bc a).length+1)=bc b++(.fin::rest):=by rw[<- QL,hkd2];rfl
 refine ihb _ q (p+1+(bc a).length+1) (m+1) ed xd op all (.fin::rest) es2 xs3 _ _ _ _ _ P (x03.list d hq nq) hkd3 d3 nq (λk hk'=>?_) (by simp;exact nA z1) (by exact nA a3 (nA z2)) (by exact nQ Bb (nA z3 (nA a4))) λM4 es4 xs4 w4 w5 w6 d4 x4' c1 c2 c3 c4=>?_
 ·rw[lx3 k,if_neg (by exact λz=>nF (nA hk' (nQ z))),(a1 k (by exact .inr (nA hk'))).2];exact hx k (by exact nA hk')
 have x04:=x03.trans x4';have hx4:lk xs4 p=some ((p+1+(bc a).length:Nat):Int):=by rw[(c1 p (by exact .inl (nZ))).2,lx3 p,if_pos rfl]
 refine i5 (x04.list d hq nq) (rest:=rest) (t:=.fin) (by rw[<- Rv,hkd3,Q6]) (yG (k:=p) d4 (by unfold bh;exact nA c3 (nA a3 (nA z2))) (λM5 es5 d5 x5' b1 b2=>?_) (λv hv=>⟨p+1+(bc a).length,by rw[hx4] at hv;injection hv with hv;exact hv.symm⟩));have b1:∀j,lk es5 j=if j=p+1+(bc a).length then some ((p+1+(bc a).length+1+(bc b).length:Nat):Int) else if j=p then some ((p+1+(bc a).length+1+(bc b).length:Nat):Int) else lk es4 j:=λj=>by
  rw[b1 j,hx4];by_cases hj:j=p+1+(bc a).length
  ·rw[if_pos hj,if_pos (by rw[hj])]
  ·rw[if_neg hj,if_neg (c:=some ((p+1+(bc a).length:Nat):Int)=some (j:Int)) (by intro z;injection z;lia)]
 show ct c _ _ _ _ _ _ _ _;rw[show p+1+(bc a).length+1+(bc b).length+1=p+(Tok.lz (.iff v)::(bc a++.rj::(bc b++[Tok.fin]))).length by rw[el];exact PN (nZ) (nZ)];refine hh M5 es5 xs4 _ _ _ d5 (x04.trans x5') (λk hk'=>?_) (λE Y hE=>?_) (by rw[el];exact nA b2 (nA c3 (nA a3))) (by rw[el];exact nA c4 (nQ Bb (nA a4)))
 ·rw[el] at hk'
  have e1:=a1 k (by lia);have e2:=c1 k (by lia);rw[b1 k,if_neg (by lia),if_neg (by lia),e2.1,e2.2,lx3 k,if_neg (by lia)];exact e1
 ·rw[el] at hE
  have e0:=hE p (by exact nZ) (by exact nZ);have e1:=hE (p+1+(bc a).length) (by exact nZ) (by exact nZ);have et:p+1+(bc a).length+1+(bc b).length=p+2+(bc a).length+(bc b).length:=by exact PN (nZ) (nZ)
  refine yt ?_;unfold yT;refine⟨?_,?_,?_,a2 E Y λk h1 h2=>?_,?_⟩
  ·rw[e0.1];unfold EE;rw[b1 p,if_neg (by exact λz=>nF (nR z)),if_pos rfl,et];simp only[Qj,Sm]
  ·rw[e0.2];unfold EE;rw[hx4];simp only[Qj,Sm]
  ·rw[e1.1];unfold EE;rw[b1 _,if_pos rfl,et];simp only[Qj,Sm]
  ·have e:=hE k (by exact nA h1) (by exact nA h2)
   have q:=c1 k (by exact .inl (nA h2));rw[e.1,e.2];unfold EE;rw[b1 k,if_neg (by exact λz=>nF (nR z (nA h2))),if_neg (by exact λz=>nF (nA h1 (nQ z))),q.1,q.2,lx3 k,if_neg (by exact λz=>nF (nA h1 (nQ z)))];exact⟨rfl,rfl⟩
  ·have:=c2 E Y λk h1 h2=>by
    have e:=hE k (by exact nA h1) (by exact nA h2);rw[e.1,e.2];unfold EE;rw[b1 k,if_neg (by exact λz=>nF (nA h1 (nQ z))),if_neg (by exact λz=>nF (nA h1 (nQ z)))];exact⟨rfl,rfl⟩
   rw[show p+2+(bc a).length=p+1+(bc a).length+1 by exact PN (nZ) (nZ)];exact this
theorem Ju:hO c [] []:=λM q p m ed xd op all rest es xs ak x0 x4 x5 x6 P hq hk d nq hx z1 z2 z3 h=>by
 show ct c _ _ _ (0+m) _ _ _ _;rw[TQ];exact h M es xs x4 x5 x6 d .refl (λ_ _=>⟨rfl,rfl⟩) (λE Y _=>by unfold oo;trivial) (by exact nZ) (by exact nZ)
theorem Js:(∀t,hO c (lD t) [t])/\(∀ts,hO c (bc ts) ts):=by
 refine T.dO (λi=>?_) (λh a ih=>?_) (λv a b iha ihb=>?_) ?_ (λt ts iht ihs=>?_)
 ·unfold lD;exact FO i
 ·unfold lD;exact mk_one ih
 ·unfold lD;exact JC iha ihb
 ·unfold bc;exact Ju
 ·unfold bc;exact zx (t1:=[t]) (by simp[bc]) iht ihs
theorem B3:bW (xs++[x]) none (some (-1))=xs:=n7
theorem Gi(hb:M.list? bp=some ((bc us++[Tok.fin]).map λt=>PV t.enc))(hz:(bc us).length<=4000)(h:∀M' ed xd es xs,M'.dict? ed=some es->M'.dict? xd=some xs->NN es->NN xs->aH M M'->M ed=none->M xd=none->oo (EE es) (EE xs) us 0->Q (.tup [.hJ ed,.hJ xd]) M'):aj fns (n+1) 48 [.lst bp] Q X M:=by
 refine aM (l:=[some (.lst bp),none,none,none,none,none,none]) rfl rfl rfl ?_;refine b0 ?_;right;intro ed hed;right;intro xd hxd;right;refine ay (by decide) λop hop=>?_;have s3:aH M (((M.set ed (.dict [])).set xd (.dict [])).set op (.list [])):=((aH.new hed).trans (aH.new hxd)).trans (aH.new hop);have nxe:xd≠ed:=ik hxd;have hxd0:=cO hxd;have ne1:ed≠op:=λz=>by rw[<- z,aA (Qu nxe),ai] at hop;exact b8 hop
 have nx1:xd≠op:=λz=>by rw[<- z,ai] at hop;exact b8 hop
 right;refine eH ?_;have hb3:=s3.list hb;right;rw[Q8];show bw _ (bW ((bc us).map (λt=>PV t.enc)++[PV [11]]) none (some (-1))) _;rw[B3];refine ay (by simp;unfold bh;exact nA hz) λq hq=>?_;have s4:=aH.new (o:=.list ((bc us).map λt=>PV t.enc)) hq;have d:D3 ((((M.set ed (.dict [])).set xd (.dict [])).set op (.list [])).set q (.list ((bc us).map λt=>PV t.enc))) ed xd op [] [] []:=
  ⟨ek (s4.at ((aA ne1).trans ((aA (Qu nxe)).trans ai))),ek (s4.at ((aA nx1).trans ai)),af (s4.at ai),Qu nxe,(λk v e=>by exact bf e),(λk v e=>by exact bf e)⟩
 have nq:q≠op:=λz=>by rw[z,ai] at hq;exact b8 hq
 have hlq:((((M.set ed (.dict [])).set xd (.dict [])).set op (.list [])).set q (.list ((bc us).map λt=>PV t.enc))).list? q=some ((bc us).map λt=>PV t.enc):=af ai;right;refine Hu hlq ⟨trivial,(bc us).length+1,?_⟩;refine Js.2 us _ q 0 1 ed xd op (bc us) [] [] [] [] _ _ _ _ _ hlq (by simp) d nq (λk _=>rfl) (by simp;exact nA hz) (by simp;exact nK 2 hz) (by simp;exact nA hz) λM' es' xs' y4 y5 y6 d' x' a1 a2 a3 a4=>?_;refine cH ?_ ?_
 ·show(M'.list? q).map _=_
  rw[x'.list d hlq nq,Qj,Qp (by simp)];rfl
 right;refine h M' ed xd es' xs' d'.f1 d'.f2 d'.BE d'.Fo (λa ha=>?_) hed hxd0 (a2 _ _ λk _ _=>⟨rfl,rfl⟩);have h1:a≠ed:=λz=>ha (z ▸ hed);have h2:a≠xd:=λz=>ha (z ▸ hxd0);have h3:a≠op:=λz=>by
  rw[z] at ha;exact ha (cO (cO hop))
 rw[x' a h1 h2 h3,s4 a (by rw[s3 a ha];exact ha),s3 a ha]
end
noncomputable def LV(b:Lb):V:=.tup [.int (b.goal:Int),.int (b.sW:Int),.int (b.many:Int),.bool b.loop]
noncomputable def cE(ls:List Lb):List V:=ls.reverse.map LV
theorem jU:(cE ls).length=ls.length:=by simp[cE]
theorem qu:cE (b::ls)=cE ls++[LV b]:=by simp[cE]
theorem Bp{ls:List Lb}{k:Nat}{b:Lb}(hk:ls[k]?=some b):(idx? (-1 - (k:Int)) (cE ls).length).bind (λj=>(cE ls)[j]?)=some (LV b):=zp (f:=LV) hk
theorem yj{xs:List V}{k:Nat}:bW xs none (some (k:Int))=xs.take k:=by
 unfold bW;simp only;have e:bA (k:Int) xs.length=min k xs.length:=by
  unfold bA;rw[if_neg (by exact λz=>iF (iA z (iA (Qe (k)))))];simp
 rw[e,Ss];by_cases h:k<=xs.length
 ·rw[TG h]
 ·rw[Ut (by exact nN h),RD (PK _),RD (by exact nN h)]
theorem zb{xs:List V}{k:Nat}:bW xs (some (k:Int)) none=xs.drop k:=by
 unfold bW;simp only;have e:bA (k:Int) xs.length=min k xs.length:=by
  unfold bA;rw[if_neg (by exact λz=>iF (iA z (iA (Qe (k)))))];simp
 rw[e,UG];by_cases h:k<=xs.length
 ·rw[TG h]
 ·rw[Ut (by exact nN h),UZ (PK _),UZ (by exact nN h)]
theorem FG{xs:List bS}{k:Nat}:(wl xs.reverse).take k=wl (xs.drop (xs.length - k)).reverse:=by
 unfold wl;rw[<- VD,Wc]
theorem Fj{xs:List bS}{k:Nat}(h:k<=xs.length):(wl xs.reverse).drop (xs.length - k)=wl (xs.take k).reverse:=by
 unfold wl;rw[<- VC,List.drop_reverse,Tw h]
theorem zR(h:k<=ls.length):(cE ls).take (ls.length - k)=cE (ls.drop k):=by
 unfold cE;rw[<- VD,Wc,Tw h]
structure RI (M0 M:Mem) (lp sp tr lb:Nat) (rs:RS) (k:Nat):Prop where
 ls:LS M sp lp tr rs.ak rs.loc rs.tr
 fl:M.list? lb=some (cE rs.lab)
 n1:lb≠sp
 n2:lb≠tr
 n3:lb≠lp
 fs:M0 sp=none
 ft:M0 tr=none
 fb:M0 lb=none
 ext:∀a,M0 a≠none->a≠lp->M a=M0 a
 b1:rs.ak.length<=k
 b2:rs.tr.length<=k
 b3:rs.lab.length<=k+1
section
variable{n:Nat}{c:Call}{l:Loc}{Q:V->Mem->Prop}{X:Mem->Prop}{M M0:Mem}{P:Fl->Loc->Mem->Prop}{K:Bool->Mem->Prop}
variable{lp sp tr lb:Nat}{rs:RS}{k:Nat}{x0 x1 x2 x3 x6 x8 x9 x10 x11 x13 x14 x15 x16 x17:Option V}
theorem RI.same(r:RI M0 M lp sp tr lb rs k)(s:aH M M'):RI M0 M' lp sp tr lb rs k:=
 ⟨⟨s.list r.ls.f1,s.list r.ls.f2,s.list r.ls.f3,r.ls.n1,r.ls.n2,r.ls.n3⟩,s.list r.fl,r.n1,r.n2,r.n3,r.fs,r.ft,r.fb,λa h h1=>by
  have e:=r.ext a h h1;rw[s a (by rw[e];exact h),e],r.b1,r.b2,r.b3⟩
theorem RI.back(r:RI M0 M lp sp tr lb rs k)(h:M a=none):M0 a=none\/a=lp:=by
 by_cases h1:a=lp
 ·exact .inr h1
 ·left
  induction e:M0 a using Option.casesOn with
  |none=>rfl
  |some x=>rw[r.ext a (by rw[e];simp) h1,e] at h;exact b8 h
theorem dK(f:M.list? a=some vs)(h:M q=none):q≠a:=λz=>by
 have:=aw f;rw[<- z,h] at this;exact bf this
theorem RI.new(r:RI M0 M lp sp tr lb rs k)(h:M q=none):M0 q=none:=(r.back h).resolve_right (dK r.ls.f2 h)
theorem vH(h:P .next [x0,x1,x2,x3,some (.lst sp),some (.lst tr),x6,some (.lst lb),x8,x9,x10,x11,some (.int (-1)),x13,x14,x15,x16,x17] M):
  HH c [x0,x1,x2,x3,some (.lst sp),some (.lst tr),x6,some (.lst lb),x8,x9,x10,x11,some (.int (-1)),x13,x14,x15,x16,x17] M P X:=by
 unfold HH;right;exact h
theorem Ee(r:RI M0 M lp sp tr lb rs k)(hk:k<=3000)(hj:dM d rs=some (.to rs'))(h:∀M' sp' lb' y15 y16 y17,RI M0 M' lp sp' tr lb' rs' k->P .next [x0,x1,x2,x3,some (.lst sp'),some (.lst tr),some (.int (rs'.pos:Int)),some (.lst lb'),x8,x9,x10,x11,some (.int (d:Int)),x13,x14,y15,y16,y17] M'):
  HH c [x0,x1,x2,x3,some (.lst sp),some (.lst tr),x6,some (.lst lb),x8,x9,x10,x11,some (.int (d:Int)),x13,x14,x15,x16,x17] M P X:=by
 refine eJ hj λb hb hj=>?_;refine xA (LY hj) λhz q=>?_;cases q
 have hm:b.many<=rs.ak.length:=PH (QX _ _) hz;have el:((cE rs.lab).length:Int) - (d:Int) - (if(!b.loop)=true then 1 else 0)=((rs.lab.length - (d+if b.loop then 0 else 1):Nat):Int)/\(d+if b.loop then 0 else 1)<=rs.lab.length:=by
  have hd:d < rs.lab.length:=(QJ.mp hb).1;rw[jU];induction b.loop using PU
  ·exact⟨(Int.sub_sub ..).trans (VE hd).symm,hd⟩
  ·exact⟨(Int.sub_zero _).trans (VE (UX hd)).symm,UX hd⟩
 have len:(rs.ak.take b.many++rs.ak.drop (rs.ak.length - b.sW)).length<=rs.ak.length:=by
  rw[PS,Tv,RH,Tw (PH (P8 _ _) hz),TG hm,Rr];exact hz
 generalize hu:(if b.loop then 0 else 1)=u at *
 unfold HH;have e7:=r.fl;have b1:rs.ak.length<=bh:=PH r.b1 (PH hk (by decide));have e4:=r.ls.f1;right;refine aY e7 (Bp hb) ?_;right
 try refine D6 rfl ?_
 right;rw[yj,FG];refine ju (by rw[dT,Qv,RH];exact PH (Sr _ _) b1) λM1 q1 _ s1 f1=>?_;have e41:=s1.list e4;right;rw[dT,Qv,show((rs.ak.length:Nat):Int) - (b.many:Int)=((rs.ak.length - b.many:Nat):Int) from(VE hm).symm,zb,Fj hm];refine ju (by rw[dT,Qv,Tv];exact PH (Ts _ _) b1) λM2 q2 _ s2 f2=>?_;right;refine vT (s2.list f1) f2 ?_;rw[show wl (rs.ak.drop (rs.ak.length - b.sW)).reverse++wl (rs.ak.take b.many).reverse=wl (rs.ak.take b.many++rs.ak.drop (rs.ak.length - b.sW)).reverse by simp[wl]];refine ju (by rw[dT,Qv];exact PH len b1) λM3 q3 hq3 s3 f3=>?_;have s12:=s1.trans s2;have s3:=s12.trans s3;have e73:=s3.list e7;right;rw[el.1,yj,zR el.2];refine ju (by rw[jU,RH];exact PH (Sr _ _) (PH r.b3 (PH (Qs hk) (by decide)))) λM4 q4 hq4 s4 f4=>?_;right;have r4:=r.same (s3.trans s4);exact h _ q3 q4 _ _ _ ⟨⟨s4.list f3,r4.ls.f2,r4.ls.f3,dK r.ls.f2 (s12.back hq3),dK r.ls.f3 (s12.back hq3),r.ls.n3⟩,f4,(dK f3 hq4),dK r.ls.f3 (s3.back hq4),dK r.ls.f2 (s3.back hq4),r.new (s12.back hq3),r.ft,r.new (s3.back hq4),r4.ext,PH len r.b1,r.b2,by rw[RH];exact PH (Sr _ _) r.b3⟩
end
theorem u6(hn:NN es)(h:EE es p=some e):lk es p=some (e:Int):=by
 unfold EE at h;induction hk:lk es p using Option.casesOn with
 |none=>rw[hk] at h;exact bf h
 |some v=>
  rw[hk] at h;have:=hn p v hk;simp only[Qj,Option.some.injEq] at h;congr 1;lia
theorem Mr(h:EE es p=none):lk es p=none:=by
 unfold EE at h;induction hk:lk es p using Option.casesOn with
 |none=>rfl
 |some v=>rw[hk] at h;exact b8 h
section
variable{n:Nat}{c:Call}{l:Loc}{Q:V->Mem->Prop}{X:Mem->Prop}{M M0:Mem}{P:Fl->Loc->Mem->Prop}{K:Bool->Mem->Prop}
variable{lp sp tr lb ed xd k:Nat}{rs:RS}{es xs:List (Int × Int)}{x0 x8 x13 x14 x15 x16 x17:Option V}
theorem RI.upd(r:RI M0 M lp sp tr lb rs k)(s':LS M' sp lp tr ak loc trc)(x:fy sp lp tr M M')(rs':RS)(h1:rs'.ak=ak)(h2:rs'.loc=loc)(h3:rs'.tr=trc)(h4:rs'.lab=rs.lab)(hk:k<=k')(b1:ak.length<=k')(b2:trc.length<=k'):RI M0 M' lp sp tr lb rs' k':=by
 subst h1 h2 h3;refine⟨s',?_,r.n1,r.n2,r.n3,r.fs,r.ft,r.fb,λa h h'=>?_,b1,b2,?_⟩
 ·rw[h4]
  have:=aw r.fl;exact af ((x lb (by rw[this];simp) r.n1 r.n3 r.n2).trans this)
 ·have e:=r.ext a h h'
  rw[x a (by rw[e];exact h) (λz=>h (by rw[z];exact r.fs)) h' (λz=>h (by rw[z];exact r.ft)),e]
 ·rw[h4];have:=r.b3;exact nA this (nA hk)
theorem RI.lab{ls:List Lb}(r:RI M0 M lp sp tr lb rs k)(rs':RS)(hv:vs=cE ls)(h1:rs'.ak=rs.ak)(h2:rs'.loc=rs.loc)(h3:rs'.tr=rs.tr)(h4:rs'.lab=ls)(hk:k<=k')(b3:ls.length<=k'+1):RI M0 (M.set lb (.list vs)) lp sp tr lb rs' k':=by
 subst hv h4;have b1:=r.b1;have b2:=r.b2;refine⟨?_,af ai,r.n1,r.n2,r.n3,r.fs,r.ft,r.fb,λa h h'=>(aA λz=>h (by rw[z];exact r.fb)).trans (r.ext a h h'),by rw[h1];exact nA b1 (nA hk),by rw[h3];exact nA b2 (nA hk),b3⟩;rw[h1,h2,h3];exact⟨af ((aA (Qu r.n1)).trans (aw r.ls.f1)),af ((aA (Qu r.n3)).trans (aw r.ls.f2)),af ((aA (Qu r.n2)).trans (aw r.ls.f3)),r.ls.n1,r.ls.n2,r.ls.n3⟩
structure Mk (M0:Mem) (lp ed xd:Nat) (es xs:List (Int × Int)):Prop where
 f1:M0 ed=some (.dict es)
 f2:M0 xd=some (.dict xs)
 n1:ed≠lp
 n2:xd≠lp
 BE:NN es
 Fo:NN xs
theorem Mk.e(m:Mk M0 lp ed xd es xs)(r:RI M0 M lp sp tr lb rs k):M.dict? ed=some es:=ek ((r.ext ed (by rw[m.f1];simp) m.n1).trans m.f1)
theorem Mk.x(m:Mk M0 lp ed xd es xs)(r:RI M0 M lp sp tr lb rs k):M.dict? xd=some xs:=ek ((r.ext xd (by rw[m.f2];simp) m.n2).trans m.f2)
noncomputable def sx(x0:Option V)(lp ed xd sp tr:Nat)(x6:V)(lb:Nat)(x8:Option V)(p:Nat)(t:Tok)(d:Int)(x13 x14 x15 x16 x17:Option V):Loc:=
 [x0,some (.lst lp),some (.hJ ed),some (.hJ xd),some (.lst sp),some (.lst tr),some x6,some (.lst lb),x8,some (.int (p:Int)),some (PV t.enc),some (.int (cd t.enc)),some (.int d),x13,x14,x15,x16,x17]
structure Ds (M0:Mem) (lp sp tr lb k:Nat) (z:jk) (P:Fl->Loc->Mem->Prop) (x0:Option V) (ed xd:Nat) (x8:Option V) (p:Nat) (t:Tok) (x15 x16 x17:Option V):Prop where
 next:∀M' rs' y13 y14,z = .to rs'->RI M0 M' lp sp tr lb rs' (k+1)->P .next (sx x0 lp ed xd sp tr (.int (rs'.pos:Int)) lb x8 p t (-1) y13 y14 x15 x16 x17) M'
 oP:∀M' (d:Nat) rs1 y6 y13 y14,dM d rs1=some z->RI M0 M' lp sp tr lb rs1 (k+1)->P .next (sx x0 lp ed xd sp tr y6 lb x8 p t (d:Int) y13 y14 x15 x16 x17) M'
 bk:∀(M':Mem)(l':Loc)(t':List bS),z = .res (.bk t')->M'.list? tr=some (wl t')->(∀a,M0 a≠none->a≠lp->M' a=M0 a)->P (.ret (.tup [.str "trap",.lst tr])) l' M'
theorem mO(b:Lb)(r:RI M0 M lp sp tr lb rs1 k)(hk:k<=4000)(hv:v=LV b)(rs':RS)(h1:rs'.ak=rs1.ak)(h2:rs'.loc=rs1.loc)(h3:rs'.tr=rs1.tr)(h4:rs'.lab=b::rs1.lab)(h:∀M',RI M0 M' lp sp tr lb rs' (k+1)->Q .none M'):nV lb v M Q:=by
 subst hv;have b3:=r.b3;right
 try refine fv r.fl (by rw[jU];unfold bh;exact nA b3 (nA hk)) ?_
 exact h _ (r.lab rs' (ls:=b::rs1.lab) qu.symm h1 h2 h3 h4 (by exact nZ) (by simp;exact nA b3))
theorem Ce(m:Mk M0 lp ed xd es xs)(r:RI M0 M lp sp tr lb rs k)(hk:k<=3000)(hs:hY (EE es) (EE xs) (.lz h) rs=some z)(d:Ds M0 lp sp tr lb k z P x0 ed xd x8 rs.pos (.lz h) x15 x16 x17):
  tE (aj fns (n+1)) (sx x0 lp ed xd sp tr (.int ((rs.pos:Int)+1)) lb x8 rs.pos (.lz h) (-1) x13 x14 x15 x16 x17) M P X:=by
 unfold tE sx;have e4:=r.ls.f1;have e7:=r.fl;have hE:=m.e r;induction h using H.casesOn with
 |ku=>
  obtain rfl:=PG hs;right
  try refine bJ [2,3,4] ?_
  right;refine mO ⟨rs.pos+1,rs.ak.length,0,true⟩ r (by exact nA hk) ?_ ⟨rs.pos+1,rs.ak,⟨rs.pos+1,rs.ak.length,0,true⟩::rs.lab,rs.loc,rs.tr⟩ rfl rfl rfl rfl λM' r'=>?_
  ·rw[dT,Qv];rfl
  ·right
   exact d.next M' _ _ _ rfl r'
 |dg v=>
  refine eJ (id hs) λe he hs=>?_
  ·skip
   obtain rfl:=PG hs;have hl:=u6 m.BE he;right
   try refine bJ [2,3,4] ?_
   right;refine k6 hE hl ?_;right;refine mO ⟨e+1,rs.ak.length,mv v,false⟩ r (by exact nA hk) ?_ ⟨rs.pos+1,rs.ak,⟨e+1,rs.ak.length,mv v,false⟩::rs.lab,rs.loc,rs.tr⟩ rfl rfl rfl rfl λM' r'=>?_
   ·rw[dT,Qv];induction v using PU<;>rfl
   ·right
    exact d.next M' _ _ _ rfl r'
 |iff v=>
  obtain⟨pos,ak,lab,loc,trc⟩:=rs;rcases ak with _ |⟨x,st⟩
  ·exact bf hs
  refine eJ (id hs) λe he hs=>?_;obtain rfl:=PG hs;have fin:∀{M':Mem}{p:Nat}{y13 y14:Option V},(if x.i≠0 then pos+1 else iL e (EE xs pos))=p->RI M0 M' lp sp tr lb _ (k+1)->P .next (sx x0 lp ed xd sp tr (.int (p:Int)) lb x8 pos (.lz (.iff v)) (-1) y13 y14 x15 x16 x17) M':=λh r=>by subst h;exact d.next _ _ _ _ rfl r
  have hl:=u6 m.BE he;right
  try refine bJ [2,3,4] ?_
  right;refine cR r.ls λM1 s1 x1=>?_;have b1:=r.b1;have b2:=r.b2;simp only[QY] at b1;have r1:=r.upd s1 x1 ⟨pos+1,st,lab,loc,trc⟩ rfl rfl rfl rfl (PK k) (by exact nA b1) b2;have e41:=s1.f1;have e71:=r1.fl;have hE1:=m.e r1;right;refine k6 hE1 hl ?_;right;refine mO ⟨e+1,st.length,mv v,false⟩ r1 (by exact nA hk) ?_ ⟨if x.i≠0 then pos+1 else iL e (EE xs pos),st,⟨e+1,st.length,mv v,false⟩::lab,loc,trc⟩ rfl rfl rfl rfl λM' r2=>?_
  ·rw[dT,Qv];induction v using PU<;>rfl
  ·have hX2:=m.x r2
   have hE2:=m.e r2;right;refine aJ (λq=>?_) (λq=>?_)
   ·have fin:=λM' p y13 y14 h=>@fin M' p y13 y14 ((if_neg (by simpa using q)).trans h)
    right;refine tw hX2 ?_;induction hx:EE xs pos using Option.casesOn with
    |none=>
     rw[Mr hx];right;refine k6 hE2 hl ?_;right;exact fin _ _ _ _ (congrArg (iL e) hx) r2
    |some y=>
     rw[u6 m.Fo hx];right;refine k6 hX2 (u6 m.Fo hx) ?_;right;exact fin _ _ _ _ (congrArg (iL e) hx) r2
   ·right
    exact fin (if_pos (by simpa using q)) r2
end
structure RL (jO rs:RS) (k:Nat):Prop where
 pos:rs.pos=jO.pos
 lab:rs.lab=jO.lab
 ak:rs.ak.length+k<=jO.ak.length
 tr:rs.tr=jO.tr
def OQ(jO:RS)(z:jk):Prop:=match z with
 |.to rs=>rs.pos=jO.pos/\rs.lab=jO.lab/\rs.ak.length<=jO.ak.length+1/\rs.tr.length<=jO.tr.length+1
 |.res r=>r = .bk jO.tr
def Sh(jO:RS)(z:Option jk):Prop:=match z with
 |none=>True
 |some z=>OQ jO z
theorem dc{jO:RS}(r:RL jO rs k)(h:∀x rs',RL jO rs' (k+1)->Sh jO (f x rs')):Sh jO (ib rs f):=by
 obtain⟨pos,ak,lab,loc,trc⟩:=rs;induction ak using PI with
 |nil=>trivial
 |cons x q=>exact h x ⟨pos,q,lab,loc,trc⟩ ⟨r.pos,r.lab,PH (QQ (QU q.length k 1)) r.ak,r.tr⟩
theorem RL.le{jO:RS}(r:RL jO rs k):rs.ak.length<=jO.ak.length:=PH (P8 _ _) r.ak
theorem pZ{jO:RS}(r:RL jO rs k)(hs:s.length<=rs.ak.length+1)(ht:tr.length<=rs.tr.length+1):Sh jO (some (.to ⟨rs.pos,s,rs.lab,loc,tr⟩)):=⟨r.pos,r.lab,PH hs (Qs r.le),r.tr ▸ ht⟩
theorem qh(i:I)(rs:RS):Sh rs (plainS i rs):=by
 have r:RL rs rs 0:=⟨rfl,rfl,PK _,rfl⟩;have to:∀{k:Nat}{rs':RS}{x:bS},RL rs rs' k->Sh rs (oZ rs' x):=λr=>pZ r (PK _) (P5 _);have si:∀{p:Prop}[Decidable p]{z:jk},OQ rs z->Sh rs (if p then some z else none):=λ{p} _ {z} h=>by
  by_cases q:p
  ·rw[if_pos q];exact h
  ·rw[if_neg q];trivial
 induction i using I.casesOn<;>delta plainS<;>dsimp only<;>first
  |trivial
  |exact to r
  |exact pZ r (P5 _) (P5 _)
  |exact dc r λ_ _ r=>to r
  |exact dc r λ_ _ r=>pZ r (P5 _) (P5 _)
  |exact dc r λ_ _ r=>pZ r (PK _) (QQ (PS ..))
  |exact dc r λ_ _ r=>dc r λ_ _ r=>to r
  |exact dc r λ_ _ r=>dc r λ_ _ r=>dc r λ_ _ r=>to r
  |exact dc r λ_ _ r=>si (pZ r (P5 _) (P5 _))
  |exact dc r λ_ _ r=>si (pZ r (PK _) (P5 _))
  |skip
 ·rename_i j
  induction rs.loc[j]? using Option.casesOn with
  |none=>trivial
  |some x=>exact to r
 ·refine dc r λy _ r=>dc r λx _ r=>?_
  split
  ·exact congrArg Rs.bk r.tr
  ·exact to r
theorem se(h:plainS i rs=some (.to rs')):rs'.pos=rs.pos/\rs'.lab=rs.lab/\rs'.ak.length<=rs.ak.length+1/\rs'.tr.length<=rs.tr.length+1:=by
 have:=qh i rs;rw[h] at this;exact this
theorem v8(h:plainS i rs=some (.res r)):r = .bk rs.tr:=by
 have:=qh i rs;rw[h] at this;exact this
section
variable{n:Nat}{c:Call}{l:Loc}{Q:V->Mem->Prop}{X:Mem->Prop}{M M0:Mem}{P:Fl->Loc->Mem->Prop}{K:Bool->Mem->Prop}
variable{lp sp tr lb ed xd k:Nat}{rs:RS}{es xs:List (Int × Int)}{x0 x8 x13 x14 x15 x16 x17:Option V}
theorem Gw(m:Mk M0 lp ed xd es xs)(r:RI M0 M lp sp tr lb rs k)(hs:hY (EE es) (EE xs) .rj rs=some z)(d:Ds M0 lp sp tr lb k z P x0 ed xd x8 rs.pos .rj x15 x16 x17):
  tE (aj fns (n+1)) (sx x0 lp ed xd sp tr (.int ((rs.pos:Int)+1)) lb x8 rs.pos .rj (-1) x13 x14 x15 x16 x17) M P X:=by
 unfold tE sx;have hE:=m.e r;refine eJ (id hs) λe he hs=>?_
 ·skip
  obtain rfl:=PG hs;right;right;refine k6 hE (u6 m.BE he) ?_;right;have b1:=r.b1;have b2:=r.b2;exact d.next M _ _ _ rfl (r.upd r.ls .refl ⟨e,rs.ak,rs.lab,rs.loc,rs.tr⟩ rfl rfl rfl rfl (P5 k) (by exact nA b1) (by exact nA b2))
theorem GK(r:RI M0 M lp sp tr lb rs k)(hs:hY (EE es) (EE xs) .fin rs=some z)(d:Ds M0 lp sp tr lb k z P x0 ed xd x8 rs.pos .fin x15 x16 x17):
  tE (aj fns (n+1)) (sx x0 lp ed xd sp tr (.int ((rs.pos:Int)+1)) lb x8 rs.pos .fin (-1) x13 x14 x15 x16 x17) M P X:=by
 unfold tE sx;obtain⟨pos,ak,lab,loc,trc⟩:=rs;rcases lab with _ |⟨b,ls⟩
 ·exact bf hs
 ·obtain rfl:=PG hs
  have e7:=r.fl;simp only[qu] at e7;have b3:=r.b3;simp only[QY] at b3;right;right;refine iU e7 ?_;right;exact d.next _ _ _ _ rfl (r.lab (ls:=ls) ⟨pos+1,ak,ls,loc,trc⟩ rfl rfl rfl rfl rfl (P5 k) (by exact nA b3))
set_option maxHeartbeats 4000000 in
structure PC (c:Int):Prop where
 a:Ja c [.int 2,.int 3,.int 4]=some false
 b:(c == 5)=false
 d:(c == 11)=false
 e:(c == 0)=false
 f:(c == 12)=false
 g:(c == 13)=false
 h:(c == 14)=false
 i:(c == 15)=false
theorem uI(hi:∀k,i≠.br k/\i≠.b7 k)(h0:i≠.pQ/\i≠.ret/\∀j k,i≠.hW j k):PC (cd (Tok.ins i).enc):=by
 revert hi h0;induction i using I.casesOn<;>first
  |exact λ_ _=>⟨rfl,rfl,rfl,rfl,rfl,rfl,rfl,rfl⟩
  |exact λhi _=>absurd rfl (hi _).1
  |exact λhi _=>absurd rfl (hi _).2
  |exact λ_ h=>absurd rfl h.1
  |exact λ_ h=>absurd rfl h.2.1
  |exact λ_ h=>absurd rfl (h.2.2 _ _)
theorem zS(hi:∀k,i≠.br k/\i≠.b7 k)(h0:i≠.pQ/\i≠.ret/\∀j k,i≠.hW j k)(hp:plainS i ⟨rs.pos+1,rs.ak,rs.lab,rs.loc,rs.tr⟩=some z)(r:RI M0 M lp sp tr lb rs k)(hk:k<=3000)(d:Ds M0 lp sp tr lb k z P x0 ed xd x8 rs.pos (.ins i) x15 x16 x17):
  tE (aj fns (n+1)) (sx x0 lp ed xd sp tr (.int ((rs.pos:Int)+1)) lb x8 rs.pos (.ins i) (-1) x13 x14 x15 x16 x17) M P X:=by
 unfold tE sx;have⟨c1,c2,c3,c4,c5,c6,c7,c8⟩:=uI hi h0;have b1:=r.b1;have b2:=r.b2;have hs4:rs.ak.length<=4000:=by exact nA b1 (nA hk)
 have ht4:rs.tr.length<=4000:=by exact nA b2 (nA hk)
 have ext1:∀{M':Mem},fy sp lp tr M M'->∀a,M0 a≠none->a≠lp->M' a=M0 a:=λx a h h'=>by
  have e:=r.ext a h h';rw[x a (by rw[e];exact h) (λz=>h (by rw[z];exact r.fs)) h' (λz=>h (by rw[z];exact r.ft)),e]
 induction z using jk.casesOn with
 |to rs'=>
  have sh:=se hp;simp only at sh;have fin:∀M',LS M' sp lp tr rs'.ak rs'.loc rs'.tr->fy sp lp tr M M'->P .next (sx x0 lp ed xd sp tr (.int ((rs.pos:Int)+1)) lb x8 rs.pos (.ins i) (-1) x13 x14 x15 x16 x17) M':=λM' s' x'=>by
   have:=d.next M' rs' x13 x14 rfl (r.upd s' x' rs' rfl rfl rfl sh.2.1 (P5 k) (by exact nA sh.2.2.1 (nA b1)) (by exact nA sh.2.2.2 (nA b2)));rw[sh.1] at this;exact this
  clear sh d ext1;have hw:=λQ=>ye (n:=n) (X:=X) (Q:=Q) hi h0 hp r.ls hs4 ht4;right;refine sX c1 ?_;right;refine hw _ ?_;intro M' s' x';right;exact fin M' s' x'
 |res q=>
  have:=v8 hp;subst this;have fin:∀M' l',M'.list? tr=some (wl rs.tr)->fy sp lp tr M M'->P (.ret (.tup [.str "trap",.lst tr])) l' M':=λM' l' f' x'=>d.bk M' l' _ rfl f' (ext1 x');clear d ext1;have hw:=λQ=>ye (n:=n) (X:=X) (Q:=Q) hi h0 hp r.ls hs4 ht4;right;refine sX c1 ?_;right;refine hw _ ?_;intro M' f' x';right;exact fin M' _ f' x'
theorem FQ(r:RI M0 M lp sp tr lb rs k)(hk:k<=3000)(hs:hY (EE es) (EE xs) (.ins i) rs=some z)(d:Ds M0 lp sp tr lb k z P x0 ed xd x8 rs.pos (.ins i) x15 x16 x17):
  tE (aj fns (n+1)) (sx x0 lp ed xd sp tr (.int ((rs.pos:Int)+1)) lb x8 rs.pos (.ins i) (-1) x13 x14 x15 x16 x17) M P X:=by
 have e4:=r.ls.f1;have e7:=r.fl;have b1:=r.b1;have b2:=r.b2;have r1:∀{k'},k<=k'->RI M0 M lp sp tr lb ⟨rs.pos+1,rs.ak,rs.lab,rs.loc,rs.tr⟩ k':=λh=>r.upd r.ls .refl _ rfl rfl rfl rfl h (by exact nA b1 (nA h)) (by exact nA b2 (nA h));have ext1:∀{M':Mem},fy sp lp tr M M'->∀a,M0 a≠none->a≠lp->M' a=M0 a:=λx a h h'=>by
  have e:=r.ext a h h';rw[x a (by rw[e];exact h) (λz=>h (by rw[z];exact r.fs)) h' (λz=>h (by rw[z];exact r.ft)),e]
 induction i using I.casesOn with
 |pQ=>
  obtain rfl:=PG hs;unfold tE sx;right;right;exact d.bk M _ _ rfl r.ls.f3 r.ext
 |br j=>
  unfold tE sx;right;right;exact d.oP M j _ _ _ _ hs (r1 (P5 k))
 |b7 j=>
  obtain⟨pos,ak,lab,loc,trc⟩:=rs;rcases ak with _ |⟨x,st⟩
  ·exact bf hs
  simp only[QY] at b1;unfold tE sx;right;right;refine cR r.ls λM1 s1 x1=>?_;have r2:=r.upd s1 x1 ⟨pos+1,st,lab,loc,trc⟩ rfl rfl rfl rfl (P5 k) (by exact nA b1) (by exact nA b2);right;refine aJ (λq=>?_) (λq=>?_)
  ·have q:x.i≠0:=by simpa using q
   have hs:=(if_pos q).symm.trans hs;right;exact d.oP M1 j _ _ _ _ hs r2
  ·have q:¬ x.i≠0:=by simpa using q
   obtain rfl:=PG ((if_neg q).symm.trans hs);right;exact d.next M1 _ _ _ rfl r2
 |hW i j=>
  obtain⟨pos,ak,lab,loc,trc⟩:=rs;rcases ak with _ |⟨x,st⟩
  ·exact bf hs
  simp only[QY] at b1;unfold tE sx;right;right;refine cR r.ls λM1 s1 x1=>?_;have r2:=r.upd s1 x1 ⟨pos+1,st,lab,loc,trc⟩ rfl rfl rfl rfl (P5 k) (by exact nA b1) (by exact nA b2);right;have hx:=x.lo;refine fJ (k:=1+(if(1:Int) < x.i then 1 else x.i)) (p:=(I.hW i j).enc) (x:=((if x.i=0 then i else j:Nat):Int)) ?_ ?_
  ·by_cases h0:x.i=0
   ·rw[if_pos h0,h0];rfl
   ·rw[if_neg h0]
    have:(if(1:Int) < x.i then 1 else x.i)=1:=by
     by_cases h1:(1:Int) < x.i
     ·rw[if_pos h1]
     ·rw[if_neg h1];lia
    rw[this];rfl
  ·right
   exact d.oP M1 _ _ _ _ _ hs r2
 |ret=>
  have hlab:0 < rs.lab.length:=by
   induction hl:rs.lab using PI with
   |nil=>
    exact eJ (id hs) λb hb _=>by rw[show(⟨rs.pos+1,rs.ak,rs.lab,rs.loc,rs.tr⟩:RS).lab=[] from hl] at hb;exact bf hb
   |cons b ls=>simp
  unfold tE sx;right;right;have j:=d.oP M (rs.lab.length - 1) _ (.int (rs.pos+1)) x13 x14 hs (r1 (P5 k));rw[show((rs.lab.length - 1:Nat):Int)=((cE rs.lab).length:Nat) - 1 by rw[jU];lia] at j;exact j
 |_=>exact zS (by simp) (by simp) hs r hk d
def RV(M:Mem)(v:V):Rs->Prop
 |.ok s t=>∃a b,v = .tup [.lst a,.lst b]/\M.list? a=some (wl s.reverse)/\M.list? b=some (wl t)
 |.bk t=>∃b,v = .tup [.str "trap",.lst b]/\M.list? b=some (wl t)
theorem uL(t:Tok):∃r,t.enc=cd t.enc::r:=by
 induction t using Tok.casesOn with
 |ins i=>induction i using I.casesOn<;>exact⟨_,rfl⟩
 |lz h=>induction h using H.casesOn<;>exact⟨_,rfl⟩
 |rj=>exact⟨_,rfl⟩
 |fin=>exact⟨_,rfl⟩
theorem Gp(h:dM d rs=some z):∃rs',z = .to rs':=by
 exact eJ h λb _ h=>⟨_,(LY h).2.symm⟩
theorem Bi(m:Mk M0 lp ed xd es xs)(hb:M0 bp=some (.list (toks.map λt=>PV t.enc)))(nb:bp≠lp)(h:∀M' v l',RV M' v R->(∀a,M0 a≠none->a≠lp->M' a=M0 a)->P (.ret v) l' M'):∀(f k:Nat){M:Mem}{sp tr lb:Nat}{rs:RS}{x8 x9 x10 x11 x12 x13 x14 x15 x16 x17:Option V},k+f=3000->runN (EE es) (EE xs) toks f rs=some R->RI M0 M lp sp tr lb rs k->
  ct (aj fns (n+1)) (.one 8) HC (.uu 3000) f k [some (.lst bp),some (.lst lp),some (.hJ ed),some (.hJ xd),some (.lst sp),some (.lst tr),some (.int (rs.pos:Int)),some (.lst lb),x8,x9,x10,x11,x12,x13,x14,x15,x16,x17] M P:=by
 intro f;induction f with
 |zero=>
  intro k M sp tr lb rs x8 x9 x10 x11 x12 x13 x14 x15 x16 x17 hk hr r;exact bf hr
 |succ f ih=>
  intro k M sp tr lb rs x8 x9 x10 x11 x12 x13 x14 x15 x16 x17 hk hr r;refine dY (v:=.int (k:Int)) (l1:=[some (.lst bp),some (.lst lp),some (.hJ ed),some (.hJ xd),some (.lst sp),some (.lst tr),some (.int (rs.pos:Int)),some (.lst lb),some (.int (k:Int)),x9,x10,x11,x12,x13,x14,x15,x16,x17]) ?_ rfl ?_
  ·show some (if k < 3000 then some (V.int (k:Int)) else none)=_
   rw[if_pos (by exact nQ hk)]
  have hbM:M.list? bp=some (toks.map λt=>PV t.enc):=af ((r.ext bp (by rw[hb];simp) nb).trans hb);have hr:A2 (qF (runN (EE es) (EE xs) toks f)) (EE es) (EE xs) rs (toks[rs.pos]?)=some R:=hr;have e4:=r.ls.f1;induction ht:toks[rs.pos]? using Option.casesOn with
  |none=>
   rw[ht] at hr;obtain rfl:=PG hr;have hlen:=RP.mp ht;have:HC=ae [bl (aq .ge (ab 6) (cj (ab 0))) (ae [aL (ag [(ab 4),(ab 5)])]) (ae []),bu [9,10,11,12] (ag [(ab 6),(ao (ab 0) (ab 6)),(ao (ao (ab 0) (ab 6)) (aa (.int 0))),(ba (aa (.int 1)))]),aV 6 (aB .add (ab 6) (aa (.int 1))),tE,HH]:=rfl;generalize hB:HC=B at *;subst this;right;refine cf (by simp;exact nA hlen) ?_;right;exact h M _ _ ⟨sp,tr,rfl,r.ls.f1,r.ls.f3⟩ r.ext
  |some t=>
   rw[ht] at hr;have hr:qF (runN (EE es) (EE xs) toks f) (hY (EE es) (EE xs) t rs)=some R:=hr;refine xE (QJ.mp ht) λhlt hte=>?_;have hpos:(idx? ((rs.pos:Nat):Int) (toks.map λt=>PV t.enc).length).bind (λj=>(toks.map λt=>PV t.enc)[j]?)=some (PV t.enc):=by
    unfold idx?;rw[if_pos (by exact iA (Qe (rs.pos))),if_pos (by simp;exact nA hlt),QM];simp[ht]
   refine xE (uL t) λtl hhd=>?_;have hcode:(idx? (0:Int) t.enc.length).bind (λj=>t.enc[j]?)=some (cd t.enc):=by
    rw[hhd];show(if(0:Int)<=0 then(if(0:Int) < ((tl.length+1:Nat):Int) then some (0:Int).toNat else none) else _).bind _=_
    rw[if_pos (by decide),if_pos (by exact Se.mpr (UY _))];rfl
   have:HC=ae [bl (aq .ge (ab 6) (cj (ab 0))) (ae [aL (ag [(ab 4),(ab 5)])]) (ae []),bu [9,10,11,12] (ag [(ab 6),(ao (ab 0) (ab 6)),(ao (ao (ab 0) (ab 6)) (aa (.int 0))),(ba (aa (.int 1)))]),aV 6 (aB .add (ab 6) (aa (.int 1))),tE,HH]:=rfl;generalize hB:HC=B at *;subst this;right;refine bB (by simp;exact nA hlt) ?_;right;refine aY hbM hpos ?_;right;refine aY hbM hpos ?_;right;refine fJ hcode ?_;right;induction hz:hY (EE es) (EE xs) t rs using Option.casesOn with
   |none=>rw[hz] at hr;exact bf hr
   |some z=>
    rw[hz] at hr;have D:Ds M0 lp sp tr lb k z (j7 (aj fns (n+1)) (ae [HH]) (Ba (aj fns (n+1)) (.one 8) HC (.uu 3000) f k P) (λ_=>False)) (some (.lst bp)) ed xd (some (.int (k:Int))) rs.pos t x15 x16 x17:=
     ⟨λM' rs' y13 y14 hz' r'=>by
      subst hz';exact bq (b0 (vH (bq (cJ ((ih (k+1) (by exact PN (nQ hk) (nR hk)) hr r')))))),
     λM' d rs1 y6 y13 y14 hj r'=>by
      (refine xE (Gp hj) λrs' q1q=>?_;obtain rfl:=q1q)
      exact bq (b0 (Ee r' (by exact nQ hk) hj λM2 sp' lb' y15 y16 y17 r2=>bq (cJ ((ih (k+1) (by exact PN (nQ hk) (nR hk)) hr r2))))),
     λM' l' t' hz' f' x'=>by
      subst hz';obtain rfl:=PG hr;exact sj ((h M' _ _ ⟨tr,rfl,f'⟩ x'))⟩
    induction t using Tok.casesOn with
    |ins i=>exact(show True->_ from FQ r (by exact nQ hk) hz D) trivial
    |lz hh=>exact(show True->_ from Ce m r (by exact nQ hk) hz D) trivial
    |rj=>exact(show True->_ from Gw m r hz D) trivial
    |fin=>exact(show True->_ from GK r hz D) trivial
theorem HG(hb:M.list? bp=some ((bc us++[Tok.fin]).map λt=>PV t.enc))(hl:M.list? lp=some (wl loc))(nb:bp≠lp)(hz:(bc us).length<=4000)(hR:∀E X,oo E X us 0->runN E X (bc us++[.fin]) 3000 (jO loc (bc us++[Tok.fin]).length)=some R)(h:∀M' v,RV M' v R->(∀a,M a≠none->a≠lp->M' a=M a)->Q v M'):aj fns (n+2) 50 [.lst bp,.lst lp] Q X M:=by
 refine aM (l:=[some (.lst bp),some (.lst lp),none,none,none,none,none,none,none,none,none,none,none,none,none,none,none,none]) rfl rfl rfl ?_;have eb:pR=ae [bu [2,3] (ah 48 [(ab 0)]),bu [4,5,6,7] (ag [(aG []),(aG []),(aa (.int 0)),(aG [(ag [(cj (ab 0)),(aa (.int 0)),(aa (.int 1)),(aa (.bool false))])])]),bX (.one 8) (eG (aa (.int 3000))) HC,aL (ag [(aa (.str "long")),(ab 5)])]:=rfl;rw[eb];right;refine Gi hb hz λM1 ed xd es xs f1 f2 BE Fo s1 fe fx hm=>?_
 try refine D6 rfl ?_
 have hb1:=s1.list hb;right;refine ay (by decide) λsp hsp=>?_;right;refine ay (by decide) λtr htr=>?_;have s3:=g6 (y:=.list []) hsp htr;have hb3:=s3.list hb1;right;refine ay (by simp[bh]) λlb hlb=>?_;have s4:=s3.trans (aH.new (o:=.list [.tup [.int (((bc us++[Tok.fin]).map λt=>PV t.enc).length:Nat),.int 0,.int 1,.bool false]]) hlb);have e5:(((M1.set sp (.list [])).set tr (.list [])).set lb (.list [.tup [.int (((bc us++[Tok.fin]).map λt=>PV t.enc).length:Nat),.int 0,.int 1,.bool false]])) tr=some (.list []):=(aH.new hlb).at ai;have nts:tr≠sp:=ik htr;have e4:(((M1.set sp (.list [])).set tr (.list [])).set lb (.list [.tup [.int (((bc us++[Tok.fin]).map λt=>PV t.enc).length:Nat),.int 0,.int 1,.bool false]])) sp=some (.list []):=(aH.new hlb).at ((aA (Qu nts)).trans ai);have e6:(((M1.set sp (.list [])).set tr (.list [])).set lb (.list [.tup [.int (((bc us++[Tok.fin]).map λt=>PV t.enc).length:Nat),.int 0,.int 1,.bool false]])) lb=some (.list [.tup [.int (((bc us++[Tok.fin]).map λt=>PV t.enc).length:Nat),.int 0,.int 1,.bool false]]):=ai;have nlp:∀{q:Nat},M1 q=none->q≠lp:=λ{q} hq z=>by
  have:=aw (s1.list hl);rw[<- z,hq] at this;exact bf this
 have hlb1:M1 lb=none:=s3.back hlb;have htr1:M1 tr=none:=cO htr;have nls:lb≠sp:=λz=>by rw[z,aA (Qu nts),ai] at hlb;exact b8 hlb
 have nlt:lb≠tr:=λz=>by rw[z,ai] at hlb;exact b8 hlb
 generalize hM4:((M1.set sp (.list [])).set tr (.list [])).set lb (.list [.tup [.int (((bc us++[Tok.fin]).map λt=>PV t.enc).length:Nat),.int 0,.int 1,.bool false]])=M4 at *;right;refine eH ?_;right;refine vt (by decide) ⟨trivial,3000,?_⟩;have nle:ed≠lp:=λz=>by
  have:=aw hl;rw[<- z,fe] at this;exact bf this
 have nlx:xd≠lp:=λz=>by
  have:=aw hl;rw[<- z,fx] at this;exact bf this
 have mk:Mk M1 lp ed xd es xs:=⟨ej f1,ej f2,nle,nlx,BE,Fo⟩;have r0:RI M1 M4 lp sp tr lb (jO loc (bc us++[Tok.fin]).length) 0:=
  ⟨⟨af e4,s4.list (s1.list hl),af e5,nlp hsp,Qu nts,Qu (nlp htr1)⟩,(af e6).trans (by simp[cE,jO,tf,LV]),nls,nlt,nlp hlb1,hsp,htr1,hlb1,λa ha _=>s4 a ha,PK _,PK _,by simp[jO]⟩
 refine Bi mk (aw hb1) nb (λM' v l' hv x'=>?_) 3000 0 (rs:=jO loc (bc us++[Tok.fin]).length) (by rfl) (hR _ _ hm) r0;refine sj (mn (h M' v hv λa ha h1=>?_));rw[x' a (by rw[s1 a ha];exact ha) h1,s1 a ha]
end
theorem dJ(l:List Int)(a:Int):(l.any λy=>y == a)=l.contains a:=by
 induction l with
 |nil=>rfl
 |cons x l ih=>
  simp only[TA,QG,ih];congr 1;rw[SU,beq_iff_eq,beq_iff_eq];exact⟨WL,WL⟩
section
variable{n:Nat}{c:Call}{l:Loc}{Q:V->Mem->Prop}{X:Mem->Prop}{M:Mem}{P:Fl->Loc->Mem->Prop}{K:Bool->Mem->Prop}
theorem Dx(xs:List Int)(h:K (!(xs.any λy=>y == i)) M):eL .eI (.int i) (.tup (xs.map .int)) M K:=by
 refine cw (r:=!(xs.any λy=>y == i)) ?_ h;show(vA M (.int i) (xs.map .int)).map (!·)=_
 rw[j9];rfl
theorem JU{p:List Int}{q:Nat}{qs:List (List Int)}(hq:M.list? q=some (qs.map PV))(h:K (qs.any λy=>y == p) M):eL .isin (PV p) (.lst q) M K:=by
 refine cw (r:=qs.any λy=>y == p) ?_ h;show((M.list? q).bind λys=>vA M (PV p) ys)=_;rw[hq,QM];exact qD (g:=PV) kC ma p qs
theorem gf(hp:p≠[]):(idx? (0:Int) p.length).bind (λj=>p[j]?)=some (cd p):=by
 induction p using PI with
 |nil=>exact absurd rfl hp
 |cons a p=>
  show(if(0:Int)<=0 then(if(0:Int) < ((p.length+1:Nat):Int) then some (0:Int).toNat else none) else _).bind _=_
  rw[if_pos (by decide),if_pos (by exact Se.mpr (UY _))];rfl
theorem wa(hp:p≠[])(h:Q (PV p.tail) M):J6 (p.map V.int) (some 1) none M Q:=by
 induction p using PI with
 |nil=>exact absurd rfl hp
 |cons a p=>exact C2 (by decide) (by simp;exact iA (Qe (p.length))) h
theorem Ir(e:i=j)(h:ct c t b it m k [x,y,some (.int j),z] M P):ct c t b it m k [x,y,some (.int i),z] M P:=e ▸ h
theorem JS{d:Nat}(h:d≠0):(d:Int)+0 - 1=((d - 1:Nat):Int):=by
 induction d using P0 with
 |zero=>exact absurd rfl h
 |succ e=>exact Int.add_sub_cancel (e:Int) 1
theorem GB{q:Nat}{all:List (List Int)}(hq:M.list? q=some (all.map PV)){x0 x1:Option V}:∀(r:List (List Int))(d k:Nat){x3:Option V},all.drop k=r->(∀p∈r,p≠[])->
  (∀l',P (.ret (.bool (scan r d))) l' M)->(∀l',scan r d=false->P .next l' M)->ct c (.one 3) J5 (.lst q) (r.length+1) k [x0,x1,some (.int (d:Int)),x3] M P:=by
 intro r;induction r with
 |nil=>
  intro d k x3 hk hne h hn;refine cH ?_ (hn _ rfl);show(M.list? q).map _=_;rw[hq,Qj,QE,show all[k]?=none by rw[<- Q9,hk];rfl];rfl
 |cons p r ih=>
  intro d k x3 hk hne h hn;have hp:=hne p (.head _);have ha:all[k]?=some p:=by rw[<- Q9,hk];rfl
  refine dY (v:=PV p) (l1:=[x0,x1,some (.int (d:Int)),some (PV p)]) ?_ rfl ?_
  ·show(M.list? q).map _=_
   rw[hq,Qj,QE,ha];rfl
  have hk':all.drop (k+1)=r:=by rw[<- QL,hk];rfl
  rw[scan] at h hn;have step:(([12,13,14]:List Int).contains (cd p) && p.tail.contains (d:Int))=false->ae [bl (cD [(aq .eq (ao (ab 3) (aa (.int 0))) (aa (.int 11))),(aq .eq (ab 2) (aa (.int 0)))])
    (ae [aL (aa (.bool false))])
    (ae []),aV 2 (aB .sub (aB .add (ab 2) (fi (fA .isin (ao (ab 3) (aa (.int 0))) (ag [(aa (.int 2)),(aa (.int 3)),(aa (.int 4))])))) (fi (fA .eq (ao (ab 3) (aa (.int 0))) (aa (.int 11)))))] c [x0,x1,some (.int (d:Int)),some (PV p)] M (Ba c (.one 3) J5 (.lst q) (p::r).length k P) (λ_=>False):=λq1=>by
   rw[q1] at h hn;rw[if_neg (by decide)] at h hn;have last:(cd p == 11 && d == 0)=false->ae [aV 2 (aB .sub (aB .add (ab 2) (fi (fA .isin (ao (ab 3) (aa (.int 0))) (ag [(aa (.int 2)),(aa (.int 3)),(aa (.int 4))])))) (fi (fA .eq (ao (ab 3) (aa (.int 0))) (aa (.int 11)))))] c [x0,x1,some (.int (d:Int)),some (PV p)] M (Ba c (.one 3) J5 (.lst q) (p::r).length k P) (λ_=>False):=λq2=>by
    rw[q2] at h hn;rw[if_neg (by decide)] at h hn;right;refine fJ (gf hp) ?_;right
    try refine bJ [2,3,4] ?_
    rw[dJ];right;refine fJ (gf hp) ?_;right;have ed:(d:Int)+(if([2,3,4]:List Int).contains (cd p)=true then 1 else 0) - (if(cd p == 11)=true then 1 else 0)=((if([2,3,4]:List Int).contains (cd p)=true then d+1 else if(cd p == 11)=true then d - 1 else d:Nat):Int):=by
     by_cases c1:([2,3,4]:List Int).contains (cd p)=true
     ·have:cd p≠11:=by
       intro z;rw[z] at c1;revert c1;decide
      rw[if_pos c1,if_pos c1,if_neg (by simpa using this)];rfl
     ·rw[if_neg c1,if_neg c1]
      by_cases c2:(cd p == 11)=true
      ·rw[if_pos c2,if_pos c2]
       have:d≠0:=λz=>by rw[c2,z] at q2;exact jr q2
       exact JS this
      ·rw[if_neg c2,if_neg c2];exact WH (iZ) (iZ)
    exact Ir ed (ih _ (k+1) hk' (λp' hp'=>hne p' (.tail _ hp')) h hn)
   right;refine fJ (gf hp) ?_;right;refine aJ (λc2=>?_) (λc2=>?_)
   ·right
    refine aJ (λc3=>?_) (λc3=>?_)
    ·right
     have c3:d=0:=by simpa using c3
     have:(cd p == 11 && d == 0)=true:=by rw[c2,c3];rfl
     rw[if_pos this] at h;exact(h _)
    ·refine bB rfl (cJ (bq (last ?_)))
     have c3:d≠0:=by simpa using c3
     rw[c2];simpa using c3
   ·refine bB rfl (cJ (bq (last ?_)))
    rw[c2];rfl
  unfold J5;refine b0 (LA ?_);right;refine fJ (gf hp) ?_;right
  try refine bJ [12,13,14] ?_
  rw[dJ];refine aJ (λc1=>?_) (λc1=>?_)
  ·right
   refine wa hp ?_;right
   try refine bJ p.tail ?_
   rw[dJ];refine aJ (λc2=>?_) (λc2=>?_)
   ·right
    rw[if_pos (by rw[c1,c2];rfl)] at h;exact(h _)
   ·exact bB rfl (cJ (bq (step (by rw[c1,c2];rfl))))
  ·exact bB rfl (cJ (bq (step (by rw[c1];rfl))))
theorem vj{bp b:Nat}{ps:List (List Int)}(hb:M.list? bp=some (ps.map PV))(hne:∀p∈ps,p≠[])(hz:ps.length<=5000)(h:∀M',aH M M'->Q (.bool (scan (ps.drop (b+1)) 0)) M'):aj fns (n+1) 51 [.lst bp,.int (b:Int)] Q X M:=by
 refine aM (l:=[some (.lst bp),some (.int (b:Int)),none,none]) rfl rfl rfl ?_;have eb:ig=ae [aV 2 (aa (.int 0)),bX (.one 3) (g5 (ck (ab 0) (some (aB .add (ab 1) (aa (.int 1)))) none)) J5,aL (aa (.bool false))]:=rfl;rw[eb];refine b0 ?_;right;refine eH ?_;right;rw[show((b:Int)+1)=((b+1:Nat):Int) by rfl,zb,<- VC];refine ay (by simp;unfold bh;exact nA hz) λr hr=>?_;have s:=aH.new (o:=.list ((ps.drop (b+1)).map PV)) hr;right;refine cZ (af ai) ⟨trivial,(ps.drop (b+1)).length+1,?_⟩;refine GB (af ai) (ps.drop (b+1)) 0 0 rfl (λp hp=>hne p (List.mem_of_mem_drop hp)) (λl'=>sj (mn (h _ s))) λl' hs=>?_;have:=h _ s;rw[hs] at this;right;exact this
theorem Ij:∀{k:Nat}{x y:List Int},uy R ps=true->ps[k]?=some x->ps[k+1]?=some y->R x y=false:=by
 induction ps with
 |nil=>exact λ_ h1 _=>bf h1
 |cons a l ih=>
  intro k x y h h1 h2;induction l using PI with
  |nil=>exact bf h2
  |cons b r=>
   rw[eR] at h;induction k using P0 with
   |zero=>exact PG h1 ▸ PG h2 ▸ ec (ax h).1
   |succ k=>exact ih (ax h).2 h1 h2
theorem G8:∀{k:Nat}{x y:List Int},fP ps=true->ps[k]?=some x->ps[k+1]?=some y->([2,3].contains (cd x) && !scan (ps.drop (k+1)) 0)=false:=by
 induction ps with
 |nil=>exact λ_ h1 _=>bf h1
 |cons a l ih=>
  intro k x y h h1 h2;induction l using PI with
  |nil=>exact bf h2
  |cons b r=>
   rw[vC] at h;induction k using P0 with
   |zero=>exact PG h1 ▸ ec (ax h).1
   |succ k=>exact ih (ax h).2 h1 h2
noncomputable def J7:List (List Int):=[[33,32],[32,33],[34,33],[32,34],[34,34]]
theorem jn(l:List (Int × Int))(a b:Int):(l.map λp=>[p.1,p.2]).any (λq=>q == [a,b])=l.contains (a,b):=by
 induction l with
 |nil=>rfl
 |cons p l ih=>
  rw[RX,TA,ih,QG];refine congrArg (· || l.contains (a,b)) ?_
  rw[SU,beq_iff_eq,beq_iff_eq];exact⟨λh=>Prod.ext (Q5 h).1.symm (Q5 (Q5 h).2).1.symm,λh=>by rw[<- h]⟩
theorem JA(c1:(x.tail == y.tail)=true)(h1:bad 2 x y=false):(J7.any λq=>q == [cd x,cd y])=false:=by
 refine(jn [(33,32),(32,33),(34,33),(32,34),(34,34)] (cd x) (cd y)).trans ?_;replace h1:(x.tail == y.tail && _)=false:=h1;rw[c1,Tx] at h1;exact h1
theorem FL{bp jp last k:Nat}{ps:List (List Int)}{x y:List Int}{x4 x5:Option V}(hb:M.list? bp=some (ps.map PV))(hj:M.list? jp=some (J7.map PV))(hne:∀p∈ps,p≠[])(hz:ps.length<=5000)(hx:ps[k]?=some x)(hy:ps[k+1]?=some y)(hl:last < 6)(h1:bad last x y=false)(h4:last=4->([2,3].contains (cd x) && !scan (ps.drop (k+1)) 0)=false)(h:∀M',aH M M'->P .next [some (.lst bp),some (.int (last:Int)),some (.lst jp),some (.int (k:Int)),some (.int (cd x)),some (.int (cd y))] M'):
  leB (aj fns (n+1)) [some (.lst bp),some (.int (last:Int)),some (.lst jp),some (.int (k:Int)),x4,x5] M P X:=by
 have hxn:=hne x (TB hx);have hyn:=hne y (TB hy);have idx:∀{j:Nat}{p:List Int},ps[j]?=some p->(idx? (j:Int) (ps.map PV).length).bind (λi=>(ps.map PV)[i]?)=some (PV p):=λ{j p} hp=>by
  have hj:=(QJ.mp hp).1;unfold idx?;rw[if_pos (by exact iA (Qe (j))),if_pos (by simp;exact nA hj),QM];simp[hp]
 have e1:((k:Int)+1)=((k+1:Nat):Int):=by rfl
 have hl':=NM last hl;unfold leB;right;refine aY hb (idx hx) ?_;right;refine fJ (gf hxn) ?_;right;rw[e1];right;refine aY hb (idx hy) ?_;right;refine fJ (gf hyn) ?_;rcases hl' with rfl |rfl |rfl |rfl |rfl |rfl
 ·right
  try refine bJ [0,12,14,15] ?_
  rw[dJ];refine aJ (λc1=>?_) (λc1=>?_)
  ·right
   refine Dx [5,11] ?_;rw[dJ];have:(!([5,11]:List Int).contains (cd y))=false:=by
    unfold bad at h1;rw[c1] at h1;simpa using h1
   rw[this];right;exact h M (.refl M)
  ·right
   exact h M (.refl M)
 ·right
  refine aJ (λc1=>?_) (λc1=>?_)
  ·right
   try refine bJ [32,65,34,69,106,107,27] ?_
   rw[dJ];have:([32,65,34,69,106,107,27]:List Int).contains (cd x)=false:=by
    unfold bad at h1;rw[c1] at h1;simpa using h1
   rw[this];right;exact h M (.refl M)
  ·right
   exact h M (.refl M)
 ·right
  refine aY hb (idx hx) ?_;right;refine wa hxn ?_;right;rw[e1];right;refine aY hb (idx hy) ?_;right;refine wa hyn ?_;right;refine zk ?_;refine aJ (λc1=>?_) (λc1=>?_)
  ·right
   refine JU (p:=[cd x,cd y]) hj ?_;rw[JA c1 h1];right;exact h M (.refl M)
  ·right
   exact h M (.refl M)
 ·have hb3:(cd x == 1)=false/\((([2,3,4,5]:List Int).contains (cd x)) && cd y == 11)=false/\(cd x == 4 && cd y == 5)=false:=by
   unfold bad at h1;simp only[Su] at h1;exact⟨h1.1.1,h1.1.2,h1.2⟩
  right;refine bB hb3.1 ?_;right
  try refine bJ [2,3,4,5] ?_
  rw[dJ];have tail:∀{Q1 Q2:Prop},Q2->(cd x == 4)=true->(if(cd y == 5)=true then Q1 else Q2):=λ{Q1 Q2} q c1=>by
   have:=hb3.2.2;rw[c1] at this;rw[if_neg (by simpa using this)];exact q
  refine aJ (λc1=>?_) (λc1=>?_)
  ·have c2:(cd y == 11)=false:=by have:=hb3.2.1;rw[c1] at this;simpa using this
   right;refine aJ (λc3=>?_) (λc3=>?_)
   ·right
    have c4:(cd y == 5)=false:=by have:=hb3.2.2;rw[c3] at this;simpa using this
    refine bB c4 ?_;right;exact h M (.refl M)
   ·right
    exact h M (.refl M)
  ·right
   refine aJ (λc3=>?_) (λc3=>?_)
   ·right
    have c4:(cd y == 5)=false:=by have:=hb3.2.2;rw[c3] at this;simpa using this
    refine bB c4 ?_;right;exact h M (.refl M)
   ·right
    exact h M (.refl M)
 ·right
  try refine bJ [2,3] ?_
  rw[dJ];refine aJ (λc1=>?_) (λc1=>?_)
  ·right
   refine vj hb hne hz λM' s'=>?_;have:scan (ps.drop (k+1)) 0=true:=by have:=h4 rfl;rw[c1] at this;simpa using this
   rw[this];right;exact h M' s'
  ·right
   exact h M (.refl M)
 ·right
  refine aJ (λc1=>?_) (λc1=>?_)
  ·right
   try refine bJ [69,4,13,14] ?_
   rw[dJ];have:([69,4,13,14]:List Int).contains (cd y)=false:=by
    unfold bad at h1;rw[c1] at h1;simpa using h1
   rw[this];right;exact h M (.refl M)
  ·right
   exact h M (.refl M)
theorem Fz{bp jp last:Nat}{ps:List (List Int)}(hne:∀p∈ps,p≠[])(hz:ps.length<=5000)(hl:last < 6)(ha:uy (bad last) ps=true)(h4:last=4->fP ps=true):
  ∀(f k:Nat){M:Mem}{x3 x4 x5:Option V},k+f=ps.length->M.list? bp=some (ps.map PV)->M.list? jp=some (J7.map PV)->(∀M' l',aH M M'->P .next l' M')->
  ct (aj fns (n+1)) (.one 3) leB (.uu (ps.length - 1)) (f+1) k [some (.lst bp),some (.int (last:Int)),some (.lst jp),x3,x4,x5] M P:=by
 intro f;induction f with
 |zero=>
  intro k M x3 x4 x5 hk hb hj h;refine cH ?_ (h M _ (.refl M));show some (if k < ps.length - 1 then _ else none)=_
  rw[if_neg (by exact λz=>nF (nA z (nA (Sr (ps.length) (1)) (nR hk))))]
 |succ f ih=>
  intro k M x3 x4 x5 hk hb hj h;by_cases hlt:k < ps.length - 1
  ·refine dY (v:=.int (k:Int)) (l1:=[some (.lst bp),some (.int (last:Int)),some (.lst jp),some (.int (k:Int)),x4,x5]) ?_ rfl ?_
   ·show some (if k < ps.length - 1 then some (V.int (k:Int)) else none)=_
    rw[if_pos hlt]
   have hx:ps[k]?=some ps[k]:=Ql (SW hlt (Sr _ _));have hy:ps[k+1]?=some ps[k+1]:=Ql (Nat.add_lt_of_lt_sub hlt);exact FL hb hj hne hz hx hy hl (Ij ha hx hy) (λz=>G8 (h4 z) hx hy) λM' s=>(ih (k+1) (by exact PN (nQ hk) (nR hk)) (s.list hb) (s.list hj) λM2 l' s2=>h M2 l' (s.trans s2))
  ·refine cH ?_ (h M _ (.refl M))
   show some (if k < ps.length - 1 then _ else none)=_
   rw[if_neg hlt]
theorem vF(hb:M.list? bp=some (ps.map PV))(hne:∀p∈ps,p≠[])(hz:ps.length<=5000)(h0:0 < ps.length)(hl:last < 6)(ha:uy (bad last) ps=true)(h4:last=4->fP ps=true)(h:∀M',aH M M'->Q (.bool false) M'):aj fns (n+2) 52 [.lst bp,.int (last:Int)] Q X M:=by
 refine aM (l:=[some (.lst bp),some (.int (last:Int)),none,none,none,none]) rfl rfl rfl ?_;have eb:mP=ae [aV 2 (aG [(ag [(aa (.int 33)),(aa (.int 32))]),(ag [(aa (.int 32)),(aa (.int 33))]),(ag [(aa (.int 34)),(aa (.int 33))]),(ag [(aa (.int 32)),(aa (.int 34))]),(ag [(aa (.int 34)),(aa (.int 34))])]),bX (.one 3) (eG (aB .sub (cj (ab 0)) (aa (.int 1)))) leB,aL (aa (.bool false))]:=rfl;rw[eb];refine b0 ?_;right;refine ay (by simp[bh]) λjp hjp=>?_;have s:=aH.new (o:=.list (J7.map PV)) hjp;have hb1:(M.set jp (.list (J7.map PV))).list? bp=some (ps.map PV):=s.list hb;show j7 _ _ _ _ _ _ (M.set jp (.list (J7.map PV)));refine bq (b0 (eH ?_));right;refine vt (by simp<;>unfold bh<;>lia) ?_
 have e:((((ps.map PV).length:Nat):Int) - 1).toNat=ps.length - 1:=by simp<;>omega
 rw[e];refine⟨trivial,ps.length+1,Fz hne hz hl ha h4 ps.length 0 (by exact PN (nZ) (nZ)) hb1 (af ai) λM' l' s'=>?_⟩;right;exact h M' (s.trans s')
theorem sf(h:M.list? a=some vs)(e:kT (toD M k) vs=some ds):toD M (k+1) (.lst a)=some (.list ds):=by
 show((M.list? a).bind λxs=>(kT (toD M k) xs).map PySem.PyData.list)=_;rw[h,QM,e];rfl
theorem yi{α:Type}{k:α->RW}(h:∀a,SJ (k a) (k a)=true)(xs:List α):Rz (xs.map k) (xs.map k)=true:=by
 induction xs with
 |nil=>rfl
 |cons x xs ih=>exact congr (congrArg and (h x)) ih
theorem rB(h:toD M 5 v=some d)(g:toD M 5 w=some d)(e:SJ d d=true)(n:eP M v w=none\/eP M v w=some true):qW M v w=some true:=by
 unfold qW;rcases n with n |n<;>rw[n]
 exact(xJ h g).trans (congrArg some e)
theorem Bm{a b:Nat}{qs:List (List Int)}(ha:M.list? a=some (qs.map PV))(hb:M.list? b=some (qs.map PV))(h:K false M):eL .ne (.lst a) (.lst b) M K:=by
 refine cw (r:=false) (congrArg (WX (!·)) (rB (v:=.lst a) (w:=.lst b) (sf ha (gv kC qs)) (sf hb (gv kC qs)) (yi (α:=List Int) (k:=λq=>.tuple (q.map .int)) (λq=>show Rz _ _=true from(ma q q).trans (beq_self_eq_true q)) qs) ?_)) h
 show(M.list? a).bind (λxs=>(M.list? b).bind λys=>mw xs ys)=_\/(M.list? a).bind (λxs=>(M.list? b).bind λys=>mw xs ys)=_;rw[ha,hb];induction qs using PI
 ·exact .inr rfl
 ·exact .inl rfl
theorem kM(h:M.list? a=some (wl xs)):toD M (k+2) (.lst a)=some (.list (xs.map λw=>.int w.i)):=sf h (gv (λ_=>rfl) xs)
theorem Cs(xs:List bS):Rz (xs.map λw=>.int w.i) (xs.map λw=>.int w.i)=true:=yi (k:=λw:bS=>.int w.i) (λw=>beq_self_eq_true w.i) xs
theorem md(h:toD M k v=some a)(g:toD M k w=some b):toD M (k+1) (.tup [v,w])=some (.tuple [a,b]):=by
 show(Uh (toD M k v) λd=>((toD M k w).bind λe=>some [e]).map (d::·)).map VX=_
 rw[h,g];rfl
theorem RV.eq(hv:RV M v R)(hw:RV M w R):qW M v w=some true:=by
 induction R using Rs.casesOn with
 |ok s t=>
  refine cI hv λa b e ha hb=>cI hw λa' b' e' ha' hb'=>?_;rw[e,e'];exact rB (md (kM ha) (kM hb)) (md (kM ha') (kM hb')) (congr (congrArg and (Cs _)) (congr (congrArg and (Cs t)) rfl)) (.inl rfl)
 |bk t=>
  refine aT hv λb e hb=>aT hw λb' e' hb'=>?_;rw[e,e'];exact rB (md (a:=.str (R7 "trap")) rfl (kM hb)) (md rfl (kM hb')) (by show((R7 "trap" == R7 "trap") && (Rz _ _ && true))=true;rw[beq_self_eq_true,Cs];rfl) (.inl rfl)
theorem RV.keep(h:RV M v R)(s:∀a,M a≠none->M' a=M a):RV M' v R:=by
 have go:∀{a:Nat}{vs:List V},M.list? a=some vs->M'.list? a=some vs:=λ{a vs} ha=>af ((s a (by rw[aw ha];simp)).trans (aw ha));induction R using Rs.casesOn with
 |ok s' t=>
  refine cI h λa b hv ha hb=>?_;exact⟨a,b,hv,go ha,go hb⟩
 |bk t=>
  refine aT h λb hv hb=>?_;exact⟨b,hv,go hb⟩
theorem G9{B d q b:Nat}{all:List Nat}(hz:B<=400000)(hn:2 * d+9<=n){y0 y1 y2 y3 y4 y5 y7:Option V}:∀(ns:List Nat){M:Mem}{ts:List T}{o:List Nat}{k:Nat}{x8 x9 x10:Option V},(∀i∈ns,i < 6)->all.drop k=ns->M.list? q=some ((all.map λ(i:Nat)=>(i:Int)).map .int)->q∉o->LT M ts b o->dep ts<=d->mu ts<=B->
  (∀M' o' z,LT M' (passes ns ts) b o'->Upd o M o' M'->P .next [y0,y1,y2,y3,y4,y5,some (.lst b),y7,z,x9,x10] M')->
  ct (aj fns n) (.one 8) Lz (.lst q) (ns.length+1) k [y0,y1,y2,y3,y4,y5,some (.lst b),y7,x8,x9,x10] M P:=by
 intro ns;induction ns with
 |nil=>
  intro M ts o k x8 x9 x10 hi hk hq nq p hd hm h;refine cH ?_ (h M o _ p (.refl _ _));show(M.list? q).map _=_;rw[hq,Qj,Qp (by have:=congrArg Rl hk;simp at this |-;exact nA (nS (all.length) (k)) (nQ this))]
 |cons i ns ih=>
  intro M ts o k x8 x9 x10 hi hk hq nq p hd hm h;have ha:all[k]?=some i:=by rw[<- Q9,hk];rfl
  refine dY (v:=.int (i:Int)) (l1:=[y0,y1,y2,y3,y4,y5,some (.lst b),y7,some (.int (i:Int)),x9,x10]) ?_ rfl ?_
  ·show(M.list? q).map _=_
   rw[hq,Qj];simp[ha]
  unfold Lz;right;refine xD hz (hi i (.head _)) hd hm hn p λM1 o1 p1 u1=>?_;right;have tm:=oj i ts;refine(ih (λj hj=>hi j (.tail _ hj)) (by rw[<- QL,hk];rfl) (u1.hU hq nq) (u1.eI (by rw[aw hq];simp) nq) p1 (by exact nA tm.2 (nA hd)) (by exact nA tm.1 (nA hm)) λM2 o2 z p2 u2=>?_);exact h M2 o2 z p2 (u1.trans u2)
noncomputable def Kr:List MS:=[aV 6 (ah 16 [(ab 5)]),bl (aq .ne (ah 18 [(ab 6)]) (ab 5))
  (ae [aL (aa (.bool false))])
  (ae []),aV 7 (bR (aq .lt (ab 2) (aa (.int 2))) (dP (aB .mod (aB .add (ab 3) (ab 11)) (aa (.int 6))) (eG (aa (.int 6))) none) (aG [(aB .sub (ab 2) (aa (.int 2)))])),bX (.one 8) (g5 (ab 7)) Lz,bu [9,10] (ag [(ah 18 [(ab 6)]),(ao (ab 7) (ba (aa (.int 1))))]),aL (pX (fA .eq (ah 50 [(ab 9),(fC (ab 4))]) (ah 50 [(ab 5),(fC (ab 4))])) (mz (ah 52 [(ab 9),(ab 10)])))]
theorem uB(us:List T):(flat us++[[11]]).map PV=(bc us++[Tok.fin]).map λt=>PV t.enc:=by
 rw[<- jC.2 us];simp[V9,Ui,Tok.enc]
theorem lx(ns:List Nat)(i:Nat)(ts:List T):passes (ns++[i]) ts=dQ i (passes ns ts):=by
 induction ns generalizing ts with
 |nil=>rfl
 |cons j ns ih=>exact ih _
theorem tS(ns:List Nat):∀ts:List T,mu (passes ns ts)<=mu ts/\dep (passes ns ts)<=dep ts:=by
 induction ns with
 |nil=>exact λts=>⟨PK _,PK _⟩
 |cons j ns ih=>
  intro ts;have h1:=oj j ts;have h2:=ih (dQ j ts);exact⟨PH h2.1 h1.1,PH h2.2 h1.2⟩
theorem FF(us:List T):∀p∈flat us++[[11]],p≠[]:=λp hp=>by
 rw[<- jC.2 us] at hp;rcases P1.mp hp with hp |hp
 ·(refine aT (SH.mp hp) λt _ q2q=>?_;obtain rfl:=q2q)
  refine xE (uL t) λr hr=>?_;rw[hr];simp
 ·rw[PL.mp hp];simp
theorem RV.cmp(hv:RV M v R)(hw:RV M w R):yO .eq v w M=some true:=by
 have e:=hv.eq hw;induction v using V.casesOn with
 |int i=>
  induction R using Rs.casesOn with
  |ok=>refine sd hv λa b h _=>?_;cases h
  |bk=>refine aT hv λb h _=>?_;cases h
 |_=>exact e
theorem nums(hw:0<=which/\which < 8)(h:∀(ns:List Nat) r,ns≠[]->(∀i∈ns,i < 6)->M r=none->Q (.lst r) (M.set r (.list ((ns.map λ(i:Nat)=>(i:Int)).map .int)))):
  bR (aq .lt (ab 2) (aa (.int 2))) (dP (aB .mod (aB .add (ab 3) (ab 11)) (aa (.int 6))) (eG (aa (.int 6))) none) (aG [(aB .sub (ab 2) (aa (.int 2)))]) c [y0,y1,some (.int which),some (.int turn),y4,y5,y6,none,none,none,none] M Q X:=by
 right;refine aJ (λq=>?_) (λq=>?_)
 ·refine fH ?_
  right;refine vt (by decide) ⟨trivial,?_⟩;refine kx (vs:=[.int 0,.int 1,.int 2,.int 3,.int 4,.int 5]) (f:=λv=>match v with |.int i=>.int (Rh (turn+i) 6) |v=>v) (λk=>?_) (λv hv R hR=>?_) (by simp[bh]) ?_
  ·show some (if k < 6 then some (V.int (k:Int)) else none)=_
   by_cases hk:k < 6
   ·rw[if_pos hk]
    rcases NM k hk with rfl |rfl |rfl |rfl |rfl |rfl<;>rfl
   ·rw[if_neg hk,Qp (by simp;exact nN hk)]
  ·have:∃i,v = .int i:=by
    simp only[PJ,P6,or_false] at hv;rcases hv with rfl |rfl |rfl |rfl |rfl |rfl<;>exact⟨_,rfl⟩
   (refine xE this λi q1q=>?_;obtain rfl:=q1q)
   show aB _ _ _ _ [y0,y1,some (.int which),some (.int turn),y4,y5,y6,none,none,none,none,some (.int i)] _ _ _;right;exact hR
  ·have fmn:∀i:Int,∃k:Nat,k < 6/\Rh (turn+i) 6=k:=λi=>by
    have:=fm (v:=turn+i) 6 (by decide);exact⟨(Rh (turn+i) 6).toNat,(Int.toNat_lt this.1).mpr this.2.1,(SO this.1).symm⟩
   refine aT (fmn 0) λk0 h0 e0=>?_;refine aT (fmn 1) λk1 h1 e1=>?_;refine aT (fmn 2) λk2 h2 e2=>?_;refine aT (fmn 3) λk3 h3 e3=>?_;refine aT (fmn 4) λk4 h4 e4=>?_;refine aT (fmn 5) λk5 h5 e5=>?_;simp only[RX,Wb];rw[e0,e1,e2,e3,e4,e5];refine ay (by simp[bh]) λr hr=>?_;refine h [k0,k1,k2,k3,k4,k5] r (by simp) (λi hi=>?_) hr;simp only[PJ,P6,or_false] at hi;rcases hi with rfl |rfl |rfl |rfl |rfl |rfl<;>assumption
 ·have q:¬ which < 2:=by simpa using q
  right;obtain⟨k,hk⟩:∃k:Nat,which - 2=k:=⟨(which - 2).toNat,(SO (Int.sub_nonneg_of_le (VJ.mp q))).symm⟩;rw[hk];refine ay (by simp[bh]) λr hr=>?_;refine h [k] r (by simp) (λi hi=>?_) hr;rw[PL.mp hi];exact RF.mp (hk ▸ Int.sub_right_lt_of_lt_add (b:=6) (c:=2) hw.2)
theorem G0(hw:0<=which/\which < 8)(g:aN [1] B body)(hB:B<=2900)(hl5:loc.length=5)(hmu:mu body<=1000)(hd:dep body<=d)(hn:2 * d+9<=n+2)(hout:M.list? out=some ((flat body++[[11]]).map PV))(hlp:M.list? lp=some (wl loc))(hX:X=λ_=>False)(hP:∀l' M',P (.ret (.bool true)) l' M'):
  ae Kr (aj fns (n+2)) [y0,y1,some (.int which),some (.int turn),some (.lst lp),some (.lst out),none,none,none,none,none] M P X:=by
 have hfl:=cG.2 body;refine xE (vP g hB hl5) λR hR=>?_;unfold Kr;refine b0 ?_;right;refine sP hout (by exact nA hfl (nA hmu)) λM1 b o p1 s1 hfr=>?_;have hout1:=s1.list hout;right;refine qj hd (by exact nA hn) p1 (by exact nA hfl (nA hmu)) λr hr=>?_;have s2:aH M1 (Bd M1 r (flat body++[[11]])):=aH.new hr;right;refine Bm (fF) (s2.list hout1) ?_;generalize Bd M1 r (flat body++[[11]])=M2 at *;refine nums hw λns q hne hns hq=>?_;have s3:=aH.new (o:=.list ((ns.map λ(i:Nat)=>(i:Int)).map .int)) hq;have hlq:(M2.set q (.list ((ns.map λ(i:Nat)=>(i:Int)).map .int))).list? q=some ((ns.map λ(i:Nat)=>(i:Int)).map .int):=af ai;have p3:=s3.lt (s2.lt p1);have nqo:q∉o:=λz=>(s2.lt p1).alloc q z hq;have s03:=s1.trans (s2.trans s3);generalize M2.set q (.list ((ns.map λ(i:Nat)=>(i:Int)).map .int))=M3 at *;refine bq (b0 (eH ?_));right;refine cZ hlq ⟨trivial,ns.length+1,?_⟩;refine G9 (B:=1000) (d:=d) (by decide) (by exact nA hn) ns hns rfl hlq nqo p3 hd hmu λM4 o4 z p4 u4=>?_;have tm:=tS ns body;have hlq4:=u4.hU hlq nqo;have noo:∀{a:Nat},M a≠none->a∉o:=λha z=>ha (hfr _ z);have keep4:∀a,M a≠none->M4 a=M a:=λa ha=>by
  have e:=s03 a ha;rw[u4.ext a (by rw[e];exact ha) (noo ha),e]
 have hout4:M4.list? out=some ((flat body++[[11]]).map PV):=af ((keep4 out (by rw[aw hout];simp)).trans (aw hout));have hlp4:M4.list? lp=some (wl loc):=af ((keep4 lp (by rw[aw hlp];simp)).trans (aw hlp));have hfl2:=cG.2 (passes ns body);refine bq (b0 ?_);right;refine qj (PH tm.2 hd) (by exact nA hn) p4 (by exact nA hfl2 (nA tm.1 (nA hmu))) λr9 hr9=>?_;have s5:aH M4 (Bd M4 r9 (flat (passes ns body)++[[11]])):=aH.new hr9;have h9:(Bd M4 r9 (flat (passes ns body)++[[11]])).list? r9=some ((flat (passes ns body)++[[11]]).map PV):=fF;have hlq5:=s5.list hlq4;have hout5:=s5.list hout4;have hlp5:=s5.list hlp4;generalize Bd M4 r9 (flat (passes ns body)++[[11]])=M5 at *;obtain⟨ni,i,rfl⟩:∃ni i,ns=ni++[i]:=by
  rcases QB ns with rfl |⟨ni,i,e⟩
  ·exact absurd rfl hne
  ·exact⟨ni,i,by rw[e];simp⟩
 have hlast:M5.list? q=some ((ni.map λ(i:Nat)=>(i:Int)).map .int++[.int (i:Int)]):=by rw[hlq5];simp
 right;refine aY hlast jv ?_;right;have tl:∀us:List T,(bc us).length=(flat us).length:=λus=>by
  have:=congrArg Rl (jC.2 us)
  simpa using this
 refine C4 hlp5 ?_;right;refine ay (by rw[dT];unfold bh;exact nQ hl5) λl1 hl1=>?_;have s6:=aH.new (o:=.list (wl loc)) hl1;have h96:=s6.list h9;have hq6:=s6.list hlast;have hout6:=s6.list hout5;have hlp6:=s6.list hlp5;have hl16:(M5.set l1 (.list (wl loc))).list? l1=some (wl loc):=af ai;have al:∀{a:Nat}{vs:List V},M5.list? a=some vs->a≠l1:=λ{a vs} ha z=>by
  have:=aw ha;rw[z,hl1] at this;exact bf this
 generalize M5.set l1 (.list (wl loc))=M6 at *;right;refine HG (us:=passes (ni++[i]) body) (loc:=loc) (R:=R) (by rw[h96,uB]) hl16 (al h9) (by rw[tl];exact nA hfl2 (nA tm.1 (nA hmu))) (λE Y hm=>hR _ (nj _ _) E Y hm) λM7 v hv x7=>?_;have k7:∀{a:Nat}{vs:List V},M6.list? a=some vs->a≠l1->M7.list? a=some vs:=λ{a vs} ha hne'=>af ((x7 a (by rw[aw ha];simp) hne').trans (aw ha));have h97:=k7 h96 (al h9);have hq7:=k7 hq6 (al hlast);have hout7:=k7 hout6 (al hout5);have hlp7:=k7 hlp6 (al hlp5);right;refine C4 hlp7 ?_;right;refine ay (by rw[dT];unfold bh;exact nQ hl5) λl2 hl2=>?_;have s8:=aH.new (o:=.list (wl loc)) hl2;have h98:=s8.list h97;have hq8:=s8.list hq7;have hout8:=s8.list hout7;have hl28:(M7.set l2 (.list (wl loc))).list? l2=some (wl loc):=af ai;have al2:∀{a:Nat},M7 a≠none->a≠l2:=λ{a} ha z=>ha (z ▸ hl2);generalize M7.set l2 (.list (wl loc))=M8 at *;right;refine HG (us:=body) (loc:=loc) (R:=R) (by rw[hout8,uB]) hl28 (al2 (by rw[aw hout7];simp)) (by rw[tl];exact nA hfl (nA hmu)) (λE Y hm=>hR _ (Ref.refl _) E Y hm) λM9 w hw x9=>?_;have k9:∀a,M7 a≠none->M9 a=M7 a:=λa ha=>by
  have e:=s8 a ha;rw[x9 a (by rw[e];exact ha) (al2 ha),e]
 have h99:M9.list? r9=some ((flat (passes (ni++[i]) body)++[[11]]).map PV):=af ((k9 r9 (by rw[aw h97];simp)).trans (aw h97));right;refine cw (r:=true) ((hv.keep k9).cmp hw) ?_;right;have hlf:=Cm i (hns i (by simp)) (passes ni body);rw[lx] at h99;refine vF h99 (FF _) (by rw[lx] at hfl2 tm;simp;exact nA hfl2 (nA tm.1 (nA hmu))) (by simp) (hns i (by simp)) hlf.1 hlf.2 λM10 s10=>?_;right;exact hP _ _
theorem ON:CC [1]=23:=rfl
theorem OB:ee [1]=1:=rfl
theorem E9(hn:200<=n):∀(f:Nat){M:Mem}{tape:List Int}{acc:List T}{e:Nat},tape.length < f->tape.length+e<=59->G2 M tp out tape (flat acc)->aC [1] (100+25 * e) acc->mu acc<=60+14 * e->dep acc<=3+e->
  (∀M' tape' acc' e',G2 M' tp out tape' (flat acc')->iB tp out M M'->tape'.length+e'<=59->aC [1] (100+25 * e') acc'->mu acc'<=60+14 * e'->dep acc'<=3+e'->P .next [y0,some (.lst tp),y2,y3,y4,some (.lst out),y6,y7,y8,y9,y10] M')->
  fj (aj fns n) MT MG f [y0,some (.lst tp),y2,y3,y4,some (.lst out),y6,y7,y8,y9,y10] M P:=by
 intro f;induction f with
 |zero=>
  intro M tape acc e hf _ _ _ _ _ _;exact(nF (nA hf)).elim
 |succ f ih=>
  intro M tape acc e hf he g gd hm hd h;refine qE ?_;unfold MT;have hfl:=cG.2 acc;have ht0:=g.ft;right;refine ay (by decide) λr hr=>?_;have s:=aH.new (o:=.list []) hr;have g1:=s.g2 g;right;refine gA (s.list ht0) (af ai) ?_;have ho1:=g1.fo;generalize M.set r (.list [])=M1 at *;refine aJ (λq=>?_) (λq=>?_)
  ·have hne:0 < tape.length:=by
    induction tape using PI with
    |nil=>exact cy q
    |cons _ _=>simp
   right;refine aJ (λq2=>?_) (λq2=>?_)
   ·unfold MG
    right;refine ay (by simp[bh]) λlb hlb=>?_;have s2:=aH.new (o:=.list [.int 1]) hlb;have ap:=g1.apart hlb;have g2:=s2.g2 g1;right;refine(yh tape.length).2 n (by exact nK 2 he (nA hn)) _ tp out lb tape (flat acc) [1] _ _ _ ⟨PK _,by simp,by simp;exact nK 2 he,by exact nA hfl (nK 100 he (nA hm)),g2,af ai,ap.1,ap.2⟩ λM3 tape3 t3 c3 r3=>?_;right;have l3:=r3.len;have m3:=r3.mu;have d3:=r3.dep;have e3:=r3.good;rw[ON] at e3;rw[OB] at d3;have g3:=r3.g;rw[<- aP] at g3;refine(ih (tape:=tape3) (acc:=acc++t3) (e:=e+c3) (by exact nA l3.2 (nA (nT (tape.length) (1) (nA hne)) (nA hf))) (by exact nR l3.1 (nA he)) g3 ((gd.seq e3).mono (by exact nK 2 (nT (tape.length) (1) (nA hne)) (Oy 2 l3.1 (nK 2 l3.2)))) (by rw[aK];exact nA hm (nA m3 (nK 2 (nT (tape.length) (1) (nA hne)) (Oy 2 l3.1 (nK 2 l3.2))))) (by rw[aI];exact Qb.mpr ⟨nA hd,nA d3⟩) λM4 tape4 acc4 e4 g4 x4 h1 h2 h3 h4=>?_);exact h M4 tape4 acc4 e4 g4 (s.ext2.trans (s2.ext2.trans (r3.ext.trans x4))) h1 h2 h3 h4
   ·right
    exact h M1 tape acc e g1 s.ext2 he gd hm hd
  ·right
   exact h M1 tape acc e g1 s.ext2 he gd hm hd
end
theorem Lp(script:List Int)(r:Nat)(hz:script.length<=63):gT (aj fns 220) ((Qi 11 none).set 0 (some (.lst r))) (Mem.set (λ_=>none) r (.list (script.map .int))) (λfl _ _=>fl = .ret (.bool true)) (λ_=>False):=by
 show gT (aj fns 220) [some (.lst r),none,none,none,none,none,none,none,none,none,none] _ _ _;have h0:(Mem.set (λ_=>none) r (.list (script.map .int))).list? r=some (script.map .int):=af ai;generalize Mem.set (λ_=>none) r (.list (script.map .int))=M at *;have hz':(script.map V.int).reverse.length<=63:=by rw[Qv,Qc];exact hz
 right;refine ju (PH hz' (by decide)) λM1 tp _ _ ht1=>?_;rw[<- List.map_reverse] at ht1;right;refine w_next ht1 λM2 t2 v2 ht2 _ l2 _=>?_;right;refine w_next ht2 λM3 t3 v3 ht3 _ l3 _=>?_;right;refine w_next ht3 λM4 t4 v4 ht4 _ l4 _=>?_;right;refine jd ?_;right;refine w_next ht4 λM5 t5 v5 ht5 _ l5 _=>?_;have lt5:t5.length<=59:=PH l5 (SA (PH l4 (SA (PH l3 (SA (PH l2 (SA (by rw[Qv];exact hz:script.reverse.length<=63) 1)) 1)) 1)) 1);clear l2 l3 l4 l5 ht1 ht2 ht3 ht4 h0 hz hz';right;refine jd ?_;right;rw[jL,jL];refine ju (vs:=wl [wr (v4+1),wr (v5+1),wr 0,wr 0,wr 0]) (QA rfl) λM6 lp hlp s6 hl6=>?_;right;refine ju (vs:=[[32,0],[16,0],[26],[2,-64],[2,-64],[32,0],[13,1],[11],[65,7],[33,1]].map PV) (by decide) λM7 out hout s7 ho7=>?_;have nto:tp≠out:=λz=>dK (s6.list ht5) hout z.symm;have g7:G2 M7 tp out t5 [[32,0],[16,0],[26],[2,-64],[2,-64],[32,0],[13,1],[11],[65,7],[33,1]]:=⟨s7.list (s6.list ht5),ho7,nto⟩;have hl7:=s7.list hl6;have nlo:lp≠out:=λz=>dK hl6 hout z.symm;have nlt:lp≠tp:=dK ht5 hlp;have len5:[wr (v4+1),wr (v5+1),wr 0,wr 0,wr 0].length=5:=rfl;generalize [wr (v4+1),wr (v5+1),wr 0,wr 0,wr 0]=loc at *;clear s6 s7 ht5 hlp hout hl6 nto;refine bq (b0 ?_);right;refine zo [11] g7 rfl (by decide) λM8 g8 x8=>?_;have ho8:=g8.fo;right;refine je [[32,0],[4,-64],[5],[65,3],[33,2],[11]] g8 rfl (by decide) (by decide) λM9 g9 x9=>?_;have ho9:=g9.fo;right
 refine je [[2,-64],[2,-64],[65,1],[14,0,1],[11],[65,9],[33,3],[11]] g9 rfl (by decide) (by decide) λM10 g10 x10=>?_;have ho10:=g10.fo;right;refine je [[2,-64],[65,1],[13,0],[65,8],[33,3],[11]] g10 rfl (by decide) (by decide) λM11 g11 x11=>?_;have ho11:=g11.fo;right;refine je [[2,-64],[65,0],[13,0],[32,3],[65,5],[106],[33,3],[11]] g11 rfl (by decide) (by decide) λM12 g12 x12=>?_;right;have hl12:=(x8.trans (x9.trans (x10.trans (x11.trans x12)))).list hl7 nlt nlo;have g12:G2 M12 tp out t5 (flat JI):=g12;clear hl7 ho7 ho8 ho9 ho10 ho11 g7 g8 g9 g10 g11 x8 x9 x10 x11 x12;refine⟨60,E9 (n:=220) (by exact nZ) 60 (tape:=t5) (acc:=JI) (e:=0) (Wa lt5) lt5 g12 BP (by decide) (by decide) λM13 t13 acc e g13 x13 he gd hm hd=>?_⟩;have hl13:=x13.list hl12 nlt nlo;refine bq (b0 ?_);right;refine ju (by simp[bh]) λM14 lb hlb s14 hl14=>?_;have ap:=g13.apart hlb;have g14:=s14.g2 g13;have hfa:=cG.2 acc;right;refine((yh t13.length).1 220 (by exact nK 2 he)).1 _ tp out lb t13 (flat acc) [1] _ _ _ ⟨PK _,by simp,by simp;exact nK 2 he,by exact nA hfa (nK 100 he (nA hm)),g14,hl14,ap.1,ap.2⟩ λM15 t15 tv cv rv=>?_;have l15:=rv.len;have m15:=rv.mu;have d15:=rv.dep;have e15:=rv.good;rw[ON] at e15;rw[OB] at d15;have ho15:=rv.g.fo;have q15:=rv.room;right;refine je [[32,1],[106],[32,2],[106],[32,3],[106],[11]] rv.g rfl (by decide) (PH (P7 (PH q15 (by exact nA hfa (nA hm (nK 12 (QQ (WL l15.1)) (nK 14 he))):_<=990)) 7) (by decide)) λM16 g16 x16=>?_
 have hl16:=(s14.ext2.trans (rv.ext.trans x16)).list hl13 nlt nlo;have gb:aN [1] (100+25 * e+(1+23 * cv+6)) (acc++(tv++ke)):=gd.Ml (zF e15);have hout16:M16.list? out=some ((flat (acc++(tv++ke))++[[11]]).map PV):=by
  have e1:flat (acc++(tv++ke))++[[11]]=flat acc++flat tv++[[32,1],[106],[32,2],[106],[32,3],[106],[11]]:=by
   simp[aP,ke,flat,eT,I.enc]
  rw[e1];exact g16.fo
 have hw:=fm (v:=v2) 8 (by decide);refine bq ?_;exact G0 (n:=218) (d:=64) ⟨hw.1,hw.2.1⟩ gb (by exact nK 25 he (nK 23 (QQ (WL l15.1)))) len5 (by rw[aK,aK];have:mu ke=6:=rfl;exact nA hm (nA m15 (nQ this (nK 14 he (nK 12 (QQ (WL l15.1))))))) (by rw[aI,aI];have:dep ke=0:=rfl;exact Qb.mpr ⟨nA hd (nA he),Qb.mpr ⟨nA d15 (nR l15.1 (nA he)),nQ this⟩⟩) (by exact nZ) hout16 hl16 rfl λ_ _=>rfl
end
section
noncomputable def OT(d:Data):Option Rn:=match d with |.func f=>some f |_=>none
theorem JE(h:OT d=some f):d = .func f:=by
 induction d using T5<;>first |exact bf h |exact congrArg Data.func (PG h)
noncomputable def Oo(K:Frag)(a:Addr):Option Rn:=(K.lookup a).bind λo=>OT o.data
noncomputable def fdOf(K:Frag)(a:Addr):Rn:=(Oo K a).getD default
noncomputable def E4(K:Frag)(a:Addr):Bool:=(Oo K a).isSome
theorem BR{K:Frag}(h:E4 K a=true):∃oc od sl,K.lookup a=some ⟨oc,od,.func (fdOf K a),sl⟩:=by
 refine(Qt.mp h).elim λf e=>?_;refine(Qh.mp e).elim λo q=>?_;have z:fdOf K a=f:=by unfold fdOf;rw[e];rfl
 exact⟨o.cls,o.dict,o.slots,by rw[z,q.1,<- JE q.2]⟩
noncomputable def bodyOf(fd:Rn):Option (List Sp × Rb):=match fd.body with |.stmts b=>some (b,fd.scope) |_=>none
noncomputable def PA(fd:Rn):List Sp:=match fd.body with |.stmts b=>b |_=>[]
noncomputable def jR(sc:Rb):List Qd->Nat->Bool
 |[],_=>true
 |x::r,i=>((bz sc).lookup x == some i) && (sc.names.lookup x == some .local || sc.names.lookup x == some .cell) && jR sc r (i+1)
theorem tN:∀{l:List Qd}{i:Nat},jR sc l i=true->∀(j:Nat) x,l[j]?=some x->(bz sc).lookup x=some (i+j)/\(sc.names.lookup x=some .local\/sc.names.lookup x=some .cell):=by
 intro l;induction l with
 |nil=>
  intro _ _ j x e;exact bf e
 |cons y r ih=>
  intro i h j x e;unfold jR at h;simp only[Qy,TH,beq_iff_eq] at h;induction j using P0 with
  |zero=>obtain rfl:=PG e;exact⟨h.1.1,h.1.2⟩
  |succ j=>
   have:=ih h.2 j x e;rw[show i+(j+1)=i+1+j by exact PN (nZ) (nZ)];exact this
noncomputable def sr:List Qd->Bool
 |[]=>true
 |x::r=>!r.contains x && sr r
theorem qq:∀{l:List Qd},sr l=true->l.Nodup
 |[],_=>List.nodup_nil
 |x::r,h=>by
  unfold sr at h;simp only[Qy,V6,List.contains_eq_mem,decide_eq_false_iff_not] at h;exact U0.mpr ⟨h.1,qq h.2⟩
noncomputable def wX(K:Frag)(a:Addr)(params:List Qd)(vE:Nat):Bool:=
 E4 K a && (fdOf K a).globals == mainGlobals && (fdOf K a).builtins == TU && (fdOf K a).closure.isEmpty && (bz (fdOf K a).scope).length == vE && jR (fdOf K a).scope params 0 &&
  sr ((R6 0 (fdOf K a).scope.names []).map (·.1)) && !(fdOf K a).scope.isCoroutine && !(fdOf K a).scope.isGenerator && (fdOf K a).scope.kind == .function && WN K (fdOf K a).code (fdOf K a).qualname && decide (params.length<=vE) && (bodyOf (fdOf K a)).isSome
theorem Ai(h:(bodyOf fd).isSome=true):∃b,fd.body = .stmts b:=by
 unfold bodyOf at h;induction q:fd.body using FuncBody.casesOn with
 |stmts b=>exact⟨b,rfl⟩
 |_=>rw[q] at h;exact cy h
theorem CL{G:GX}{K:Frag}{k a:Nat}{params:List Qd}{np vE:Nat}{look:Option (List Sp × Rb)}(hF:G.dS k=a)(hK:G.K=K)(hg:G.glob=j5)(hc:wX K a params vE=true)(he:look=bodyOf (fdOf K a))(ht:Lx look=b)(hb:∀vals:List Value,vals.length=np->Wd (fdOf K a) ⟨vals,[]⟩=pure (params.zip vals))(hn:params.length=np):
  ∃fd body params,lA G k ⟨np,vE,b⟩ fd body params:=by
 have a13:=ax hc;have a12:=ax a13.1;have a11:=ax a12.1;have a10:=ax a11.1;have a9:=ax a10.1;have a8:=ax a9.1;have a7:=ax a8.1;have a6:=ax a7.1;have a5:=ax a6.1;have a4:=ax a5.1;have a3:=ax a4.1;have a2:=ax a3.1;subst hK hn he ht;refine(Ai a13.2).elim λbody hbody=>?_;have hbo:bodyOf (fdOf G.K a)=some (body,(fdOf G.K a).scope):=by unfold bodyOf;rw[hbody]
 have c6:=tN a6.2;refine⟨fdOf G.K a,body,params,⟨by rw[hF];exact BR a2.1,a11.2,hbody,beq_iff_eq.mp a2.2,beq_iff_eq.mp a3.2,List.isEmpty_iff.mp a4.2,?_,(beq_iff_eq.mp a5.2).symm,rfl,of_decide_eq_true a12.2,λs X vals h=>W3 (hb vals h),λi x e=>?_,λx hx=>?_,qq a7.2,ec a8.2,ec a9.2,beq_iff_eq.mp a10.2⟩⟩
 ·rw[hbo,hg];rfl
 ·have:=(c6 i x e).1
  rwa [TQ] at this
 ·obtain⟨i,hi,e⟩:=List.mem_iff_getElem.mp hx
  exact(c6 i x (by rw[Ql hi,e])).2
end
section
noncomputable def Ls(x:Value):Option Int:=match x with |.int i _=>some i |_=>none
noncomputable def DM(x:Value):Option Addr:=match x with |.ref a=>some a |_=>none
noncomputable def Ms(x:Value):Option Qd:=match x with |.str s _=>some s |_=>none
noncomputable def KP(x:Value):Bool:=match x with |.type s=>s == "tuple" |_=>false
noncomputable def Jh(d:Data):Option (Array Value):=match d with |.seq its _=>some its |_=>none
noncomputable def HU(d:Data):Option ClassData:=match d with |.cls cd=>some cd |_=>none
theorem EJ(h:Ls x=some i):∃t,x = .int i t:=by
 induction x using SP<;>first |exact bf h |exact⟨_,congrArg (Value.int · _) (PG h)⟩
theorem sk(h:DM x=some i):x = .ref i:=by
 induction x using SP<;>first |exact bf h |exact congrArg Value.ref (PG h)
theorem ET(h:Ms x=some i):∃t,x = .str i t:=by
 induction x using SP<;>first |exact bf h |exact⟨_,congrArg (Value.str · _) (PG h)⟩
theorem Gj(h:KP x=true):x = .type "tuple":=by
 induction x using SP<;>first |exact cy h |exact congrArg UW (beq_iff_eq.mp h)
theorem FK(h:Jh d=some its):∃n,d = .seq its n:=by
 induction d using T5<;>first |exact bf h |exact⟨_,congrArg (Data.seq · _) (PG h)⟩
theorem Hb{cd:ClassData}(h:HU d=some cd):d = .cls cd:=by
 induction d using T5<;>first |exact bf h |exact congrArg Data.cls (PG h)
noncomputable def Dl(dS:Nat->Addr)(v:V)(x:Value):Bool:=match v with
 |.int i=>Ls x == some i
 |.fn k=>DM x == some (dS k)
 |_=>false
noncomputable def xB(dS:Nat->Addr)(vs:List V)(xs:List Value):Bool:=match vs with
 |[]=>match xs with
  |[]=>true
  |_::_=>false
 |v::vs=>match xs with
  |[]=>false
  |x::xs=>Dl dS v x && xB dS vs xs
noncomputable def IL(K:Frag)(dS:Nat->Addr)(vs:List V)(a:Addr):Bool:=match K.lookup a with
 |none=>false
 |some o=>KP o.cls && match Jh o.data with
  |none=>false
  |some its=>xB dS vs its.toList && decide (vs.length<=1000)
noncomputable def EH(K:Frag)(dS:Nat->Addr)(v:V)(x:Value):Bool:=match v with
 |.str s=>Ms x == some (PR s)
 |.tup vs=>match DM x with
  |none=>false
  |some a=>IL K dS vs a
 |v=>Dl dS v x
theorem s9(e:Dl G.dS v x=true):aF G h as v x:=by
 induction v using V.casesOn with
 |int i=>obtain⟨t,rfl⟩:=EJ (beq_iff_eq.mp e);exact .int _ _
 |fn k=>rw[sk (beq_iff_eq.mp e)];exact .fn _
 |_=>exact cy e
theorem pH{G:GX}{h:Qk}{as:List Addr}:∀{vs:List V}{xs:List Value},xB G.dS vs xs=true->aE G h as vs xs
 |[],[],_=>.nil
 |[],_::_,e=>cy e
 |_::_,[],e=>cy e
 |v::vs,x::xs,e=>.cons (s9 (ax e).1) (pH (ax e).2)
theorem Hd(X:G.K.In h)(e:IL G.K G.dS vs a=true):aF G h [] (.tup vs) (.ref a):=by
 unfold IL at e;induction q:G.K.lookup a using Option.casesOn with
 |none=>rw[q] at e;exact cy e
 |some o=>
  rw[q] at e;have e:=ax e;induction q2:Jh o.data using Option.casesOn with
  |none=>rw[q2] at e;exact cy e.2
  |some its=>
   rw[q2] at e;obtain⟨n,hd⟩:=FK q2;have e2:=ax e.2;have r:aE G h [] vs its.toList:=pH e2.1;exact .tup ⟨o,X _ _ q,Gj e.1,n,hd⟩ P6 (by rw[<- r.length];exact PH (of_decide_eq_true e2.2) (QA rfl)) r
theorem EY(X:G.K.In h)(e:EH G.K G.dS v x=true):aF G h [] v x:=by
 induction v using V.casesOn with
 |str s=>obtain⟨t,rfl⟩:=ET (beq_iff_eq.mp e);exact .str _ _
 |tup vs=>
  induction q:DM x using Option.casesOn with
  |none=>unfold EH at e;simp only[q] at e;exact cy e
  |some a=>unfold EH at e;simp only[q] at e;rw[sk q];exact Hd X e
 |_=>exact s9 e
noncomputable def DW(K:Frag)(x:Qd)(C:Addr):Bool:=nsIn K mainGlobals x == some (some (.ref C))
noncomputable def wF(K:Frag)(dS:Nat->Addr)(x:Qd)(v:V):Bool:=match nsIn K mainGlobals x with
 |none=>false
 |some o=>match o with
  |none=>false
  |some val=>EH K dS v val
noncomputable def BN(K:Frag)(dS:Nat->Addr)(C TC:Addr)(x:Qd)(v:V):Bool:=match v with
 |.obj n=>match n with
  |0=>DW K x C
  |k+1=>match k with
   |0=>DW K x TC
   |_+1=>false
 |v=>wF K dS x v
theorem A5(X:G.K.In G.base)(h:wF G.K G.dS x v=true):∃val,nsIn G.K mainGlobals x=some (some val)/\aF G G.base [] v val:=by
 unfold wF at h;induction q:nsIn G.K mainGlobals x using Option.casesOn with
 |none=>rw[q] at h;exact cy h
 |some o=>induction o using Option.casesOn with
  |none=>rw[q] at h;exact cy h
  |some val=>rw[q] at h;exact⟨val,rfl,EY X h⟩
theorem zU(X:G.K.In G.base)(h:BN G.K G.dS G.C G.TC x v=true):
  (v = .obj 0/\nsIn G.K mainGlobals x=some (some (.ref G.C)))\/(v = .obj 1/\nsIn G.K mainGlobals x=some (some (.ref G.TC)))\/∃val,nsIn G.K mainGlobals x=some (some val)/\aF G G.base [] v val:=by
 induction v using V.casesOn with
 |obj n=>
  rcases n with _ |_ |n
  ·exact .inl ⟨rfl,beq_iff_eq.mp h⟩
  ·exact .inr (.inl ⟨rfl,beq_iff_eq.mp h⟩)
  ·exact cy h
 |_=>exact .inr (.inr (A5 X h))
noncomputable def rE(K:Frag)(dS:Nat->Addr)(C TC:Addr):List (Qd × V)->Bool
 |[]=>true
 |(x,v)::r=>BN K dS C TC x v && rE K dS C TC r
theorem wu(X:G.K.In G.base):∀{l:List (Qd × V)},rE G.K G.dS G.C G.TC l=true->∀x v,l.lookup x=some v->
  (v = .obj 0/\nsIn G.K mainGlobals x=some (some (.ref G.C)))\/(v = .obj 1/\nsIn G.K mainGlobals x=some (some (.ref G.TC)))\/∃val,nsIn G.K mainGlobals x=some (some val)/\aF G G.base [] v val:=by
 intro l;induction l with
 |nil=>
  intro _ x v e;exact bf e
 |cons pq r ih=>
  obtain⟨y,w⟩:=pq;intro h x v e;have h:=ax h;rw[QN] at e;induction q:(x == y) using PU with
  |true=>rw[q] at e;obtain rfl:=PG e;rw[beq_iff_eq.mp q];exact zU X h.1
  |false=>rw[q] at e;exact ih h.2 x v e
noncomputable def CM(K:Frag):List (Nat × Addr)->Bool
 |[]=>VG K (.ref 65)
 |(_,a)::r=>VG K (.ref a) && CM K r
theorem uj{K:Frag}:∀{l:List (Nat × Addr)},CM K l=true->∀k,VG K (.ref ((l.lookup k).getD 65))=true
 |[],h,k=>h
 |(j,a)::r,h,k=>by
  have h:=ax h;rw[QN];induction k == j using PU with
  |true=>exact h.1
  |false=>exact uj h.2 k
noncomputable def Mb(l:List (Nat × Nat × Nat))(n:Nat):Pos:=⟨(l.getD n (0,0,0)).1,(l.getD n (0,0,0)).2.1,(l.getD n (0,0,0)).1,(l.getD n (0,0,0)).2.2⟩
noncomputable def Gx:Nat->Pos:=Mb [(213,8,12),(213,8,18),(213,21,26),(213,8,26),(214,8,12),(214,8,18),(214,21,26),(214,8,26),(215,8,12),(215,8,19),(215,22,28),(215,8,28)]
noncomputable def xP:Nat->Pos:=Mb [(5,8,17),(5,8,26),(5,27,31),(5,33,36),(5,8,37),(5,8,37),(6,8,12),(6,8,16),(6,19,22),(6,8,22)]
noncomputable def qT(sc:Rb):Bool:=sc.names.all λx=>x.2 != .cell
theorem nI(h:qT sc=true):∀x∈sc.names,x.2≠.cell:=λx hx=>by
 have:=QZ.mp h x hx
 simpa using this
noncomputable def Cv(sc:Rb)(l:List Qd):Bool:=l.all λx=>sc.names.lookup x == some .local
theorem tb(h:Cv sc l=true):∀x∈l,sc.names.lookup x=some .local:=λx hx=>beq_iff_eq.mp (QZ.mp h x hx)
noncomputable def Mj(TC:Addr)(l:List Value):Bool:=match l with
 |[]=>false
 |x::l=>x == .ref TC && match l with
  |[]=>false
  |y::l=>(DM y).isSome && l == [.type "Exception",.type "BaseException",.type "object"]
theorem EC(h:Mj TC l=true):∃b,l=q8 TC b:=by
 rcases l with _ |⟨x,_ |⟨y,l⟩⟩
 ·exact cy h
 ·exact cy (ax h).2
 ·have h:=ax h
  have h2:=ax h.2;obtain⟨b,hb⟩:=Qt.mp h2.1;exact⟨b,by rw[beq_iff_eq.mp h.1,sk hb,beq_iff_eq.mp h2.2]⟩
noncomputable def rI(K:Frag)(TC:Addr):Bool:=match K.lookup TC with
 |none=>false
 |some o=>match HU o.data with
  |none=>false
  |some cd=>Mj TC cd.mro && (cd.hasDict && (!cd.abstract && (!cd.hasDel && (o.slots.toList[4]?).join == some (.builtin "Exception.__new__"))))
theorem wk{K:Frag}(h:rI K TC=true):∃oc od cd sl b,K.lookup TC=some ⟨oc,od,.cls cd,sl⟩/\cd.mro=q8 TC b/\cd.hasDict=true/\cd.abstract=false/\cd.hasDel=false/\(sl.toList[4]?).join=some (.builtin "Exception.__new__"):=by
 unfold rI at h;induction q:K.lookup TC using Option.casesOn with
 |none=>rw[q] at h;exact cy h
 |some o=>
  rw[q] at h;obtain⟨oc,od,dt,sl⟩:=o;induction q2:HU dt using Option.casesOn with
  |none=>simp only[q2] at h;exact cy h
  |some cd=>
   simp only[q2] at h;obtain rfl:=Hb q2;have h:=ax h;have h1:=ax h.2;have h2:=ax h1.2;have h3:=ax h2.2;obtain⟨b,hb⟩:=EC h.1;exact⟨oc,od,cd,sl,b,rfl,hb,h1.1,ec h2.1,ec h3.1,beq_iff_eq.mp h3.2⟩
end
section
noncomputable abbrev pW:Rq:=Ra.row.toRowW.1
noncomputable def oS(x:String)(t:Nat):Value:=.str (PR x) t
noncomputable def oT(l:List Value):Obj:=⟨.type "tuple",none,.seq ⟨l⟩,⟨[]⟩⟩
noncomputable def oF(l:List Value):Obj:=⟨.none,none,.fields ⟨l⟩,⟨[]⟩⟩
noncomputable def oX(c:String)(l:List Value):Obj:=⟨.type c,none,.fields ⟨l⟩,⟨[]⟩⟩
noncomputable def oE(P:Sq)(k:String)(t:Nat)(v:Value):SD:=⟨QS P (PR k),oS k t,v⟩
noncomputable def oD(l:List SD)(n:Nat):Obj:=⟨.type "dict",none,.dict ⟨l⟩ n,⟨[]⟩⟩
noncomputable def oC(a:Nat)(n q:Qd)(t ln na fl:Nat)(b:Bool)(x y z:Value)(T:Nat):Obj:=oX "code" [.str n t,.str q (t+1),oS "/claim/cut.py" (t+2),.int ln 0,.int na 0,.int 0 0,.int 0 0,.int fl 0,.ref a,.bool b,.int 181 0,.ref (a+1),.none,x,y,z,.int T 0,.int ln 0,oS "/claim/cut.py" (T+1)]
noncomputable def oG(c d:Addr)(m:String)(t:Nat):Obj:=⟨.type "frame",none,.plain,⟨[some (.ref c),some (.ref 3),some (.ref d),none,some (oS m t),none,some (.ref 0)]⟩⟩
noncomputable def oK(l:Array (Option Value))(c:ClassData):Obj:=⟨.type "type",none,.cls c,l⟩
noncomputable def oN:List (Qd × Tj)->Nat->List Value
 |[],_=>[]
 |x::r,t=>match x.2 with
  |.local=>.str x.1 t::oN r (t+1)
  |_=>oN r t
noncomputable def sF(s:Sp):Option (Qd × Arguments × List Sp × List PO × Rb × Pos):=match s with
 |.FunctionDef n a b d _ _ sc _ _ p=>some (n,a,b,d,sc,p)
 |_=>none
noncomputable def sC(s:Sp):List Sp:=match s with
 |.ClassDef _ _ _ b _ _ _ _ _ _ _=>b
 |_=>[]
noncomputable def oA(x:Qd × Arguments × List Sp × List PO × Rb × Pos)(q:Qd)(g:Addr)(d m c:Value):Data:=.func {name:=x.1,qualname:=q,params:=x.2.1,body:=.stmts x.2.2.1,scope:=x.2.2.2.2.1,globals:=g,closure:=[],defaults:=d,kwdefaults:=.none,pyModule:=m,code:=c}
noncomputable def oU(a:Addr)(l:List PO):Value:=match l with
 |[]=>.none
 |_::_=>.ref (a - 1)
noncomputable def oB(v:Bool)(a t:Nat)(q:Qd->Qd)(m:Value)(s:Sp)(R:List Obj):List Obj:=match sF s with
 |some x=>match v with
  |true=>oT []::oF []::oT (oN x.2.2.2.2.1.names (t+3))::oT []::⟨.none,none,oA x (q x.1) 0 .none .none .none,⟨[]⟩⟩::oC a x.1 (q x.1) t (x.2.2.2.2.2.line - x.2.2.2.1.length) x.2.1.args.length 3 true (.ref (a+2)) (.ref (a+3)) (.ref (a+4)) (t+3+(oN x.2.2.2.2.1.names 0).length)::⟨.type "function",none,oA x (q x.1) 3 (oU a x.2.1.defaults) m (.ref (a+5)),⟨[]⟩⟩::R
  |false=>oT []::oF []::⟨.none,none,oA x (q x.1) 0 .none .none .none,⟨[]⟩⟩::oC a x.1 (q x.1) t (x.2.2.2.2.2.line - x.2.2.2.1.length) x.2.1.args.length 3 true .none .none (.ref (a+2)) (t+3)::⟨.type "function",none,oA x (q x.1) 3 (oU a x.2.1.defaults) m (.ref (a+3)),⟨[]⟩⟩::R
 |none=>R
noncomputable def sT(k:Nat):Sp:=(pW.main.body.drop k).headD (.Pass default)
noncomputable def cT(c k:Nat):Sp:=((sC (sT c)).drop k).headD (.Pass default)
noncomputable def DB:Value:=oS "wasmcore.faults" 187
noncomputable def bo:Value:=oS "wasmcore.arith" 250
noncomputable def iJ:Value:=oS "wasmcore.pieces" 710
noncomputable def cL:Value:=oS "wasmcore.passes" 811
noncomputable def eA:Value:=oS "law_nm0152_01" 993
noncomputable def fE:List (Nat × Addr)->List Value
 |[]=>[]
 |x::r=>.int x.1 0::.int 0 0::.ref x.2::fE r
noncomputable def fL:List Value:=fE [(2,20),(7,40),(9,52),(27,64),(29,71),(31,78),(33,85),(35,92),(37,99),(48,106),(59,113),(65,120),(67,127),(69,134),(71,141),(74,148),(81,155),(85,162),(90,169),(94,176),(96,183),(98,190),(100,197),(102,204),(104,211),(106,218),(109,225),(111,232),(113,239),(115,246),(117,253),(119,260),(121,267),(123,274),(125,281),(127,288),(129,295),(136,305),(142,312),(148,319),(152,326),(156,333),(159,340),(173,347),(210,355),(226,397),(243,404),(252,411),(257,418),(265,423),(274,431),(280,438),(287,445),(289,452),(291,459),(298,464),(306,469),(319,476),(322,483),(330,490),(346,497),(354,504),(363,511),(368,516),(376,523),(386,530),(403,537),(413,544),(428,551),(437,558),(452,565),(464,572),(466,579),(495,586),(498,593),(513,600),(531,607),(551,614),(564,621),(590,628),(625,635),(634,642),(651,649),(664,654)]
noncomputable def mE(P:Sq)(m:Value):List SD:=oE P "__name__" 165 m::[oE P "__doc__" 166 .none,oE P "__package__" 167 .none,oE P "__loader__" 168 (.builtin "__main__.__loader__#opaque"),oE P "__spec__" 169 .none,oE P "__annotations__" 170 (.ref 6),oE P "__builtins__" 171 (.ref 4),oE P "__file__" 173 (oS "/claim/cut.py" 172),oE P "__cached__" 174 .none,oE P "WasmFault" 217 (.ref 31),oE P "Trap" 233 (.ref 44),oE P "Misused" 249 (.ref 56),oE P "DIVIDE_BY_ZERO" 253 (oS "integer divide by zero" 252),oE P "OVERFLOW" 255 (oS "integer overflow" 254),oE P "I32_EQZ_arith" 257 (.int 69 256),oE P "I32_EQ" 259 (.int 70 258),oE P "I64_EQZ" 261 (.int 80 260),oE P "I64_EQ" 263 (.int 81 262),oE P "I32_CLZ" 265 (.int 103 264),oE P "I32_ADD" 267 (.int 106 266),oE P "I64_CLZ" 269 (.int 121 268),oE P "I64_ADD" 271 (.int 124 270),oE P "WRAP" 273 (.int 167 272),oE P "EXTEND_S" 275 (.int 172 274),oE P "EXTEND_U" 277 (.int 173 276),oE P "I32_EXTEND8" 279 (.int 192 278),oE P "I64_EXTEND8" 281 (.int 194 280),oE P "unsigned" 289 (.ref 65),oE P "signed" 297 (.ref 72),oE P "least_signed" 304 (.ref 79),oE P "widened" 313 (.ref 86),oE P "eqz" 321 (.ref 93),oE P "clz" 331 (.ref 100),oE P "ctz" 341 (.ref 107),oE P "popcnt" 350 (.ref 114),oE P "add" 359 (.ref 121),oE P "sub" 368 (.ref 128),oE P "mul" 377 (.ref 135),oE P "toward_nought" 386 (.ref 142),oE P "div_s" 397 (.ref 149),oE P "div_u" 406 (.ref 156),oE P "rem_s" 417 (.ref 163),oE P "rem_u" 426 (.ref 170),oE P "bits_and" 435 (.ref 177),oE P "bits_or" 444 (.ref 184),oE P "bits_xor" 453 (.ref 191),oE P "shl" 462 (.ref 198),oE P "shr_s" 471 (.ref 205),oE P "shr_u" 480 (.ref 212),oE P "rotl" 490 (.ref 219),oE P "rotr" 499 (.ref 226),oE P "eq" 508 (.ref 233),oE P "ne" 517 (.ref 240),oE P "lt_s" 526 (.ref 247),oE P "lt_u" 535 (.ref 254),oE P "gt_s" 544 (.ref 261),oE P "gt_u" 553 (.ref 268),oE P "le_s" 562 (.ref 275),oE P "le_u" 571 (.ref 282),oE P "ge_s" 580 (.ref 289),oE P "ge_u" 589 (.ref 296),oE P "COUNTS" 590 (.ref 297),oE P "COMPARES" 591 (.ref 298),oE P "REST" 592 (.ref 299),oE P "FIRST_DIVISION" 594 (.int 3 593),oE P "LAST_DIVISION" 596 (.int 6 595),oE P "place_in" 606 (.ref 306),oE P "narrow_of" 613 (.ref 313),oE P "is_unary" 620 (.ref 320),oE P "is_binary" 627 (.ref 327),oE P "can_trap" 635 (.ref 334),oE P "reckon1" 645 (.ref 341),oE P "reckon2" 655 (.ref 348),oE P "UNREACHABLE" 657 (.int 0 656),oE P "NOP" 659 (.int 1 658),oE P "BLOCK" 661 (.int 2 660),oE P "LOOP" 663 (.int 3 662),oE P "IF" 665 (.int 4 664),oE P "ELSE" 667 (.int 5 666),oE P "END" 669 (.int 11 668),oE P "BR" 671 (.int 12 670),oE P "BR_IF" 673 (.int 13 672),oE P "BR_TABLE" 675 (.int 14 674),oE P "RETURN" 677 (.int 15 676),oE P "RETURN_CALL" 679 (.int 18 678),oE P "RETURN_CALL_INDIRECT" 681 (.int 19 680),oE P "DROP" 683 (.int 26 682),oE P "SELECT" 685 (.int 27 684),oE P "SELECT_KINDS" 687 (.int 28 686),oE P "LOCAL_GET" 689 (.int 32 688),oE P "LOCAL_SET" 691 (.int 33 690),oE P "LOCAL_TEE" 693 (.int 34 692),oE P "GLOBAL_GET" 695 (.int 35 694),oE P "MEMORY_SIZE" 697 (.int 63 696),oE P "I32_CONST" 699 (.int 65 698),oE P "I64_CONST" 701 (.int 66 700),oE P "REF_NULL" 703 (.int 208 702),oE P "REF_IS_NULL" 705 (.int 209 704),oE P "REF_FUNC" 707 (.int 210 706),oE P "TABLE_SIZE" 709 (.int 64528 708),oE P "LAST" 712 (.ref 349),oE P "Piece" 766 (.ref 387),oE P "pieces_of" 777 (.ref 398),oE P "put_pieces" 786 (.ref 405),oE P "body_of" 794 (.ref 412),oE P "is_named" 804 (.ref 419),oE P "lower_labels" 810 (.ref 424),oE P "I32_EQZ_passes" 814 (.int 69 813),oE P "PUTS" 815 (.ref 425),oE P "takes_of" 822 (.ref 432),oE P "neutral_of" 830 (.ref 439),oE P "constant_of" 837 (.ref 446),oE P "constant" 845 (.ref 453),oE P "widths_of" 853 (.ref 460),oE P "reckoned" 859 (.ref 465),oE P "fold_number" 865 (.ref 470),oE P "chosen_label" 874 (.ref 477),oE P "fold_select" 882 (.ref 484),oE P "fold_choice" 892 (.ref 491),oE P "fold_last" 899 (.ref 498),oE P "fold_pieces" 909 (.ref 505),oE P "never_ends" 917 (.ref 512),oE P "never_goes_on" 923 (.ref 517),oE P "cut_dead" 933 (.ref 524),oE P "put_drop" 943 (.ref 531),oE P "cut_drops" 953 (.ref 538),oE P "join_last" 962 (.ref 545),oE P "join_locals" 972 (.ref 552),oE P "cut_empty" 982 (.ref 559),oE P "open_blocks" 992 (.ref 566),oE P "_law_next" 1001 (.ref 573),oE P "_law_value" 1013 (.ref 580),oE P "_law_list" 1024 (.ref 587),oE P "_law_jump" 1037 (.ref 594),oE P "_law_nested" 1048 (.ref 601),oE P "_law_do" 1060 (.ref 608),oE P "_law_marks" 1073 (.ref 615),oE P "_law_plain" 1087 (.ref 622),oE P "_law_run" 1111 (.ref 629),oE P "_law_is_named" 1121 (.ref 636),oE P "_law_left" 1133 (.ref 643),oE P "_law_pass" 1141 (.ref 650),oE P "law" 1147 (.ref 655)]
noncomputable def sE(P:Sq):List SD:=[oE P "type.__subclasses__.Exception.0" 214 (.int 31 0),oE P "type.__subclasses__.Exception.n" 215 (.int 1 0)]
noncomputable def oQ(P:Sq)(j:Nat):List Obj:=oT []::
 oF (fL.take j)::
 oC 11 (.ofString "<module>") (.ofString "<module>") 182 1 0 0 false .none .none .none 185::
 oG 13 3 "__main__" 164::
 oT [.type "Exception"]::
 oX "builtin_function_or_method" [.builtin "type.__prepare__",.type "type"]::
 oD [oE P "__module__" 196 (oS "wasmcore.faults" 187),oE P "__qualname__" 198 (oS "WasmFault" 197),oE P "__firstlineno__" 200 (.int 2 199),oE P "__init__" 208 (.ref 28),oE P "__static_attributes__" 210 (.ref 29)] 5::
 oT []::
 oF [.int 4 0,.int 4 0,.ref 27]::
 oC 18 (.ofString "WasmFault") (.ofString "WasmFault") 191 2 0 0 false .none .none .none 194::
 oG 20 17 "wasmcore.faults" 187::
 oB true 22 201 (λ_=>.ofString "WasmFault.__init__") DB (cT 1 0) (oT [oS "why" 209]::
 oD [oE P "__module__" 196 (oS "wasmcore.faults" 187),oE P "__firstlineno__" 200 (.int 2 199),oE P "__init__" 208 (.ref 28),oE P "__static_attributes__" 210 (.ref 29),oE P "__weakref__" 212 (.ref 32),oE P "__doc__" 213 .none] 3::
 oK ⟨[some (.ref 15),none,some (oS "WasmFault" 189),some (oS "WasmFault" 197),some (.builtin "Exception.__new__"),some (.bool true)]⟩ {name:=.ofString "WasmFault",bases:=[.type "Exception"],mro:=[.ref 31,.type "Exception",.type "BaseException",.type "object"],ns:=30,qualname:=.ofString "WasmFault",subclasses:=[.ref 44,.ref 56]}::
 oX "getset_descriptor" [oS "__weakref__" 211,.ref 31,.builtin "ExceptionGroup.__weakref__",.none]::
 oX "super" [.ref 31,.ref 31,.ref 31]::
 oX "builtin_function_or_method" [.builtin "object.__init_subclass__",.ref 31]::
 oT [.ref 31]::
 oX "builtin_function_or_method" [.builtin "type.__prepare__",.type "type"]::
 oD [oE P "__module__" 225 (oS "wasmcore.faults" 187),oE P "__qualname__" 227 (oS "Trap" 226),oE P "__firstlineno__" 229 (.int 7 228),oE P "__static_attributes__" 230 (.ref 42)] 4::
 oT []::
 oF []::
 oC 38 (.ofString "Trap") (.ofString "Trap") 220 7 0 0 false .none .none .none 223::
 oG 40 37 "wasmcore.faults" 187::
 oT []::
 oD [oE P "__module__" 225 (oS "wasmcore.faults" 187),oE P "__firstlineno__" 229 (.int 7 228),oE P "__static_attributes__" 230 (.ref 42),oE P "__doc__" 231 .none] 2::
 oK ⟨[some (.ref 35),none,some (oS "Trap" 218),some (oS "Trap" 226),some (.builtin "Exception.__new__"),some (.bool true)]⟩ {name:=.ofString "Trap",bases:=[.ref 31],mro:=[.ref 44,.ref 31,.type "Exception",.type "BaseException",.type "object"],ns:=43,qualname:=.ofString "Trap"}::
 oX "super" [.ref 44,.ref 44,.ref 44]::
 oX "builtin_function_or_method" [.builtin "object.__init_subclass__",.ref 44]::
 oT [.ref 31]::
 oX "builtin_function_or_method" [.builtin "type.__prepare__",.type "type"]::
 oD [oE P "__module__" 241 (oS "wasmcore.faults" 187),oE P "__qualname__" 243 (oS "Misused" 242),oE P "__firstlineno__" 245 (.int 9 244),oE P "__static_attributes__" 246 (.ref 54)] 4::
 oT []::
 oF []::
 oC 50 (.ofString "Misused") (.ofString "Misused") 236 9 0 0 false .none .none .none 239::
 oG 52 49 "wasmcore.faults" 187::
 oT []::
 oD [oE P "__module__" 241 (oS "wasmcore.faults" 187),oE P "__firstlineno__" 245 (.int 9 244),oE P "__static_attributes__" 246 (.ref 54),oE P "__doc__" 247 .none] 2::
 oK ⟨[some (.ref 47),none,some (oS "Misused" 234),some (oS "Misused" 242),some (.builtin "Exception.__new__"),some (.bool true)]⟩ {name:=.ofString "Misused",bases:=[.ref 31],mro:=[.ref 56,.ref 31,.type "Exception",.type "BaseException",.type "object"],ns:=55,qualname:=.ofString "Misused"}::
 oX "super" [.ref 56,.ref 56,.ref 56]::
 oX "builtin_function_or_method" [.builtin "object.__init_subclass__",.ref 56]::
 oB true 59 282 id bo (sT 20) (oB true 66 290 id bo (sT 21) (oB true 73 298 id bo (sT 22) (oB true 80 305 id bo (sT 23) (oB true 87 314 id bo (sT 24) (oB true 94 322 id bo (sT 25) (oB true 101 332 id bo (sT 26) (oB true 108 342 id bo (sT 27) (oB true 115 351 id bo (sT 28) (oB true 122 360 id bo (sT 29) (oB true 129 369 id bo (sT 30) (oB true 136 378 id bo (sT 31) (oB true 143 387 id bo (sT 32) (oB true 150 398 id bo (sT 33) (oB true 157 407 id bo (sT 34) (oB true 164 418 id bo (sT 35) (oB true 171 427 id bo (sT 36) (oB true 178 436 id bo (sT 37) (oB true 185 445 id bo (sT 38) (oB true 192 454 id bo (sT 39) (oB true 199 463 id bo (sT 40) (oB true 206 472 id bo (sT 41) (oB true 213 481 id bo (sT 42) (oB true 220 491 id bo (sT 43) (oB true 227 500 id bo (sT 44) (oB true 234 509 id bo (sT 45) (oB true 241 518 id bo (sT 46) (oB true 248 527 id bo (sT 47) (oB true 255 536 id bo (sT 48) (oB true 262 545 id bo (sT 49) (oB true 269 554 id bo (sT 50) (oB true 276 563 id bo (sT 51) (oB true 283 572 id bo (sT 52) (oB true 290 581 id bo (sT 53) (oT [.ref 100,.ref 107,.ref 114]::
 oT [.ref 233,.ref 240,.ref 247,.ref 254,.ref 261,.ref 268,.ref 275,.ref 282,.ref 289,.ref 296]::
 oT [.ref 121,.ref 128,.ref 135,.ref 149,.ref 156,.ref 163,.ref 170,.ref 177,.ref 184,.ref 191,.ref 198,.ref 205,.ref 212,.ref 219,.ref 226]::
 oB true 300 597 id bo (sT 59) (oB true 307 607 id bo (sT 60) (oB true 314 614 id bo (sT 61) (oB true 321 621 id bo (sT 62) (oB true 328 628 id bo (sT 63) (oB true 335 636 id bo (sT 64) (oB true 342 646 id bo (sT 65) (oT [.int 0 656,.int 12 670,.int 14 674,.int 15 676,.int 18 678,.int 19 680]::
 oT []::
 oX "builtin_function_or_method" [.builtin "type.__prepare__",.type "type"]::
 oD [oE P "__module__" 720 (oS "wasmcore.pieces" 710),oE P "__qualname__" 722 (oS "Piece" 721),oE P "__firstlineno__" 724 (.int 210 723),oE P "__init__" 734 (.ref 364),oE P "code" 742 (.ref 372),oE P "parts" 748 (.ref 377),oE P "labels" 755 (.ref 384),oE P "__static_attributes__" 759 (.ref 385)] 8::
 oT []::
 oF [.int 212 0,.int 4 0,.ref 363,.int 218 0,.int 4 0,.ref 370,.int 221 0,.int 4 0,.ref 376,.int 224 0,.int 4 0,.ref 383]::
 oC 353 (.ofString "Piece") (.ofString "Piece") 715 210 0 0 false .none .none .none 718::
 oG 355 352 "wasmcore.pieces" 710::
 oT [.none,.none]::
 oB true 358 725 (λ_=>.ofString "Piece.__init__") iJ (cT 95 0) (oB true 365 735 (λ_=>.ofString "Piece.code") iJ (cT 95 1) (oX "property" [.ref 371,.none,.none,.none,oS "code" 742,.bool false]::
 oB false 373 743 (λ_=>.ofString "Piece.parts") iJ (cT 95 2) (oB true 378 749 (λ_=>.ofString "Piece.labels") iJ (cT 95 3) (oT [oS "first" 756,oS "plain" 757,oS "second" 758]::
 oD [oE P "__module__" 720 (oS "wasmcore.pieces" 710),oE P "__firstlineno__" 724 (.int 210 723),oE P "__init__" 734 (.ref 364),oE P "code" 742 (.ref 372),oE P "parts" 748 (.ref 377),oE P "labels" 755 (.ref 384),oE P "__static_attributes__" 759 (.ref 385),oE P "__dict__" 761 (.ref 388),oE P "__weakref__" 763 (.ref 389),oE P "__doc__" 764 .none] 4::
 oK ⟨[none,none,some (oS "Piece" 713),some (oS "Piece" 721),some (.builtin "object.__new__"),some (.bool true)]⟩ {name:=.ofString "Piece",bases:=[.type "object"],mro:=[.ref 387,.type "object"],ns:=386,qualname:=.ofString "Piece"}::
 oX "getset_descriptor" [oS "__dict__" 760,.ref 387,.builtin "function.__dict__",.builtin "function.__dict__#set"]::
 oX "getset_descriptor" [oS "__weakref__" 762,.ref 387,.builtin "ExceptionGroup.__weakref__",.none]::
 oX "super" [.ref 387,.ref 387,.ref 387]::
 oX "builtin_function_or_method" [.builtin "object.__init_subclass__",.ref 387]::
 oB true 392 767 id iJ (sT 96) (oB true 399 778 id iJ (sT 97) (oB true 406 787 id iJ (sT 98) (oB true 413 795 id iJ (sT 99) (oB false 420 805 id iJ (sT 100) (oT [.int 32 688,.int 35 694,.int 65 698,.int 66 700,.int 63 696,.int 64528 708,.int 208 702,.int 210 706]::
 oB true 426 816 id cL (sT 104) (oB true 433 823 id cL (sT 105) (oB true 440 831 id cL (sT 106) (oB true 447 838 id cL (sT 107) (oB true 454 846 id cL (sT 108) (oB false 461 854 id cL (sT 109) (oB false 466 860 id cL (sT 110) (oB true 471 866 id cL (sT 111) (oB true 478 875 id cL (sT 112) (oB true 485 883 id cL (sT 113) (oB true 492 893 id cL (sT 114) (oB true 499 900 id cL (sT 115) (oB true 506 910 id cL (sT 116) (oB false 513 918 id cL (sT 117) (oB true 518 924 id cL (sT 118) (oB true 525 934 id cL (sT 119) (oB true 532 944 id cL (sT 120) (oB true 539 954 id cL (sT 121) (oB true 546 963 id cL (sT 122) (oB true 553 973 id cL (sT 123) (oB true 560 983 id cL (sT 124) (oB true 567 995 id eA (sT 126) (oB true 574 1002 id eA (sT 127) (oB true 581 1014 id eA (sT 128) (oB true 588 1025 id eA (sT 129) (oB true 595 1038 id eA (sT 130) (oB true 602 1049 id eA (sT 131) (oB true 609 1061 id eA (sT 132) (oB true 616 1074 id eA (sT 133) (oB true 623 1088 id eA (sT 134) (oB true 630 1112 id eA (sT 135) (oB true 637 1122 id eA (sT 136) (oB true 644 1134 id eA (sT 137) (oB false 651 1142 id eA (sT 138) ([])))))))))))))))))))))))))))))))))))))))))))))))))))))))))))))))))))))))))))))))))))))
noncomputable def oL(P:Sq)(k j:Nat)(m:Value):List Obj:=boot_o_0 P::boot_o_1 P::⟨.none,none,.dict ⟨sE P⟩ 2,⟨[]⟩⟩::oD ((mE P m).take k) k::boot_o_4 P::boot_o_5 P::boot_o_6 P::boot_o_7 P::boot_o_8 P::boot_o_9 P::boot_o_10 P::oQ P j
noncomputable def Fi:List Obj->List Obj × List Obj
 |[]=>([],[])
 |x::r=>(x::(Fi r).2,(Fi r).1)
noncomputable def Mz:Nat->List Obj->BT
 |0,_=>.nil
 |n+1,l=>match l with
  |[]=>.nil
  |o::r=>.node o (Mz n (Fi r).1) (Mz n (Fi r).2)
noncomputable def sS(P:Sq)(n k j:Nat)(m:Value)(t:Nat)(os:OsState):SharedT:=⟨Mz 10 ((oL P k j m).take n),n,{},⟨[]⟩,{},t,os⟩
noncomputable def eV:Vs:={scope:=pW.main.scope,locals:=mainNs,globals:=mainNs,cells:=[],code:=.ref 13,frame:=some 14}
end
set_option maxHeartbeats 0
section
noncomputable def pB:List Sp:=behindTheImports pW
noncomputable def pC:Code:=.body (behindTheImports pW) eV
noncomputable def pF:List Frame:=[topFrame ⟨0,0,0,0⟩]
noncomputable def tA(P:Sq)(os:OsState):SharedT:=⟨Mz 10 (boot_o_0 P::boot_o_1 P::boot_o_2 P::boot_o_3 P::boot_o_4 P::boot_o_5 P::boot_o_6 P::boot_o_7 P::boot_o_8 P::boot_o_9 P::boot_o_10 P::(oQ P 0).take 4),15,{},⟨[]⟩,{},187,os⟩
noncomputable def hA(P:Sq)(os:OsState):PM:=⟨⟨⟨boot_o_0 P::boot_o_1 P::boot_o_2 P::boot_o_3 P::boot_o_4 P::boot_o_5 P::boot_o_6 P::boot_o_7 P::boot_o_8 P::boot_o_9 P::boot_o_10 P::(oQ P 0).take 4⟩,{}⟩,⟨[]⟩,{},187,os⟩
noncomputable def hZ(P:Sq):Qk:=⟨⟨oL P 143 252 eA⟩,{}⟩
theorem KU(w:Rf):(λos=>topGo treeTable pW w 11 (some (.ref 6)) 12 ⟨boot_heap w.params,⟨[]⟩,boot_drawn,boot_toks,os⟩ (topStub pW))=λos=>some (hA w.params os,⟨denote treeTable pC,pC,⟨0,0,0,0⟩,pF⟩):=by rw[Fast.te15667345088766844465,Qq,Fast.te11892475500146522536];kernel_rfl
theorem Kc(w:Rf):(λos=>segRun treeTable pW w 11 (some (.ref 6)) 1 1 (hA w.params os) (blockOf pB eV pC ⟨0,0,0,0⟩ pF))=λos=>some (.next,(tA w.params os).abs,pC,⟨0,0,0,0⟩):=by rw[Fast.te14374325043358763698,Qq];kernel_rfl
theorem Mo(w:Rf):(λos=>Vq treeTable pW w 11 (some (.ref 6)) 1 664 (tA w.params os) (UH ((pB.drop 0).take 4) eV pC ⟨0,0,0,0⟩ pF))=λos=>some (.next,sS w.params 59 12 9 DB 250 os,pC,⟨9,0,10,8⟩):=by rw[QR,Qq];kernel_rfl
theorem Lq(w:Rf):(λos=>Vq treeTable pW w 11 (some (.ref 6)) 1 797 (sS w.params 59 12 9 DB 250 os) (UH ((pB.drop 4).take 37) eV pC ⟨9,0,10,8⟩ pF))=λos=>some (.next,sS w.params 206 48 72 bo 472 os,pC,⟨102,0,103,54⟩):=by rw[QR,Qq];kernel_rfl
theorem KW(w:Rf):(λos=>Vq treeTable pW w 11 (some (.ref 6)) 1 767 (sS w.params 206 48 72 bo 472 os) (UH ((pB.drop 41).take 30) eV pC ⟨102,0,103,54⟩ pF))=λos=>some (.next,sS w.params 349 78 132 bo 666 os,pC,⟨185,0,185,2⟩):=by rw[QR,Qq];kernel_rfl
theorem KV(w:Rf):(λos=>Vq treeTable pW w 11 (some (.ref 6)) 1 605 (sS w.params 349 78 132 bo 666 os) (UH ((pB.drop 71).take 25) eV pC ⟨185,0,185,2⟩ pF))=λos=>some (.next,sS w.params 392 102 135 iJ 767 os,pC,⟨210,0,225,75⟩):=by rw[QR,Qq];kernel_rfl
theorem Lc(w:Rf):(λos=>Vq treeTable pW w 11 (some (.ref 6)) 1 639 (sS w.params 392 102 135 iJ 767 os) (UH ((pB.drop 96).take 23) eV pC ⟨210,0,225,75⟩ pF))=λos=>some (.next,sS w.params 525 124 195 cL 934 os,pC,⟨376,0,385,18⟩):=by rw[QR,Qq];kernel_rfl
theorem La(w:Rf):(λos=>Vq treeTable pW w 11 (some (.ref 6)) 1 638 (sS w.params 525 124 195 cL 934 os) (UH ((pB.drop 119).take 20) eV pC ⟨376,0,385,18⟩ pF))=λos=>some (.next,sS w.params 656 143 252 eA 1148 os,pC,⟨664,0,686,103⟩):=by rw[QR,Qq];kernel_rfl
theorem LU(w:Rf):(λos=>topRun treeTable pW w 11 (some (.ref 6)) 2 (sS w.params 656 143 252 eA 1148 os).abs ⟨doneF .next,pC,⟨664,0,686,103⟩,pF⟩)=λos=>some ⟨hZ w.params,⟨[]⟩,{},1148,os⟩:=by rw[Fast.te14082659384304107361,Qq];kernel_rfl
theorem i7{w:Rf}{os:OsState}{n N:Nat}{s s':OsState->SharedT}{r:PM}{a b:Pos}(i j:Nat)(h:(λos=>Vq treeTable pW w 11 (some (.ref 6)) 1 n (s os) (UH ((pB.drop i).take j) eV pC a pF))=λos=>some (.next,s' os,pC,b))(k:topRun treeTable pW w 11 (some (.ref 6)) N (s' os).abs (restOf (pB.drop (i+j)) eV pC b pF)=some r):topRun treeTable pW w 11 (some (.ref 6)) (n+N) (s os).abs (restOf (pB.drop i) eV pC a pF)=some r:=by
 have:=piece_app (segRun_of (congrFun h os)) (Rv ▸ k)
 rwa [List.take_append_drop] at this
theorem Cg(w:Rf)(os:OsState):topRun treeTable pW w 11 (some (.ref 6)) 4125 ⟨boot_heap w.params,⟨[]⟩,boot_drawn,boot_toks,os⟩ (topStub pW)=some ⟨hZ w.params,⟨[]⟩,{},1148,os⟩:=
 go_top (congrFun (KU w) os) (piece_block (congrFun (Kc w) os) (i7 0 4 (Mo w) (i7 4 37 (Lq w) (i7 41 30 (KW w) (i7 71 25 (KV w) (i7 96 23 (Lc w) (i7 119 20 (La w) (congrFun (LU w) os))))))))
end
set_option maxHeartbeats 0
section
noncomputable def kA:List Nat:=[2,3,15,27,28,29,30,31,32,35,42,43,44,64,65,71,72,78,79,85,86,92,93,99,100,106,107,113,114,120,121,127,128,134,135,141,142,148,149,155,156,162,163,169,170,176,177,183,184,190,191,197,198,204,205,211,212,218,219,225,226,232,233,239,240,246,247,253,254,260,261,267,268,274,275,281,282,288,289,295,296,297,298,299,305,306,312,313,319,320,326,327,333,334,340,341,347,348,349,357,363,364,370,371,372,376,377,383,384,385,386,387,388,389,397,398,404,405,411,412,418,419,423,424,425,431,432,438,439,445,446,452,453,459,460,464,465,469,470,476,477,483,484,490,491,497,498,504,505,511,512,516,517,523,524,530,531,537,538,544,545,551,552,558,559,565,566,572,573,579,580,586,587,593,594,600,601,607,608,614,615,621,622,628,629,635,636,642,643,649,650,654,655]
noncomputable def kZ:List Obj->Nat->List Nat->Frag
 |[],_,_=>[]
 |o::r,i,l=>match l with
  |[]=>[]
  |a::t=>match Nat.beq i a with
   |true=>(i,o)::kZ r (i+1) t
   |false=>kZ r (i+1) (a::t)
@[irreducible] noncomputable def kK(P:Sq):Frag:=kZ (oL P 143 252 eA) 0 kA
theorem ze(P:Sq):kA=(kK P).map (·.1):=by kernel_rfl
noncomputable def kV:Rq:={pW with main:={pW.main with body:=(pW.main.body.drop 1).take 3++((pW.main.body.drop 5).take 88++((pW.main.body.drop 94).take 7++((pW.main.body.drop 102).take 23++pW.main.body.drop 126)))}}
noncomputable def kL:List Qd:=[PR "COUNTS",PR "COMPARES",PR "REST",PR "LAST",PR "Piece",PR "PUTS"]
noncomputable def kW:List (Qd × WData):=[(PR "LAST",Xj [RN 0,RN 12,RN 14,RN 15,RN 18,RN 19]),(PR "PUTS",Xj [RN 32,RN 35,RN 65,RN 66,RN 63,RN 64528,RN 208,RN 210])]
noncomputable def kX(s:PM):Bool:=xlAt kV kW s && recOk Ra.row.toRowW.records s
theorem K7(w:Rf):(λos:OsState=>(staticsOk (importedModules pW.main.body) (boot_heap w.params) (hZ w.params) && namesBound pW (hZ w.params) && gensDone ⟨hZ w.params,⟨[]⟩,{},1148,os⟩ && laidKept (boot_heap w.params) (hZ w.params)))=λ_=>true:=by kernel_rfl
noncomputable def hS(P:Sq)(os:OsState):PM:=⟨hZ P,⟨[]⟩,{},1148,os⟩
theorem Mv(w:Rf):(λos:OsState=>(kHook kK kA ze).obs (hS w.params os))=λ_=>(kHook kK kA ze).val w:=by kernel_rfl
theorem Ku(w:Rf):((boot_heap w.params).isNs mainGlobals && (⟨[]⟩:Array WM).size == 0,(boot_heap w.params).objs.size,(boot_heap w.params).nsMap mainGlobals "__annotations__")=(true,11,some (.ref 6)):=by kernel_rfl
theorem LP:opening pW=plainProg pW.main.scope.names:=by kernel_rfl
theorem Mq(s:PM):fenceModules? pW s=some s:=by kernel_rfl
theorem Hh:Xe kV kL=kL:=by rw[Fast.te821141287760084731];kernel_rfl
theorem Ld:ownsOf kV=[]:=by kernel_rfl
theorem I9(w:Rf):(λos:OsState=>seen ((recsOf kV).map (·.name)) (ownsOf kV) [] (hS w.params os))=λ_=>expectedOf kV:=by rw[Ld,Fast.te5160383126252970620];kernel_rfl
theorem H5(w:Rf):(λos:OsState=>(hS w.params os).heap.bltView)=λ_=>bltViewBooted:=by kernel_rfl
theorem IW(w:Rf):(λos:OsState=>(hS w.params os).heap.keysOk (Xe kV kL) ((recsOf kV).map (·.name)) ((litsOf kV).map (·.1)) ((clssOf kV (Xe kV kL)).map (·.name)))=λ_=>true:=by rw[Hh,Fast.te10880121769531294198];kernel_rfl
theorem Jd(w:Rf):(λos:OsState=>((hS w.params os).heap.accountedOkI (importedModules pW.main.body) && (hS w.params os).heap.isNs mainGlobals && (hS w.params os).heap.isNs TU && tablesOk kV (hS w.params os).heap))=λ_=>true:=by rw[Fast.te14722251495701143533,Fast.te10994771534591457954];kernel_rfl
theorem I8(w:Rf):(λos:OsState=>kX (hS w.params os))=λ_=>true:=by kernel_rfl
theorem IJ(w:Rf):(λos:OsState=>tabsOk kV (hS w.params os))=λ_=>true:=by rw[Fast.te479339242167458305];kernel_rfl
theorem I3(w:Rf):(λos:OsState=>pinSeenD kV (drecsOf kV) (hS w.params os))=λ_=>pinGoodD (drecsOf kV):=by rw[Fast.te16090120013241838585];kernel_rfl
theorem Ik(w:Rf):(λos:OsState=>plainSeenE kV (Xe kV kL) (hS w.params os))=λ_=>plainGoodE kV (Xe kV kL):=by rw[Hh,Fast.te2386780881361962483];kernel_rfl
theorem JX(w:Rf):(λos:OsState=>plainSeenD kV kL (hS w.params os))=λ_=>plainGoodD kV kL:=by kernel_rfl
theorem EP(w:Rf):(λos:OsState=>wideSeen kV (hS w.params os))=λ_=>wideGood kV:=by rw[Fast.te7317090234206586261];kernel_rfl
theorem G1(w:Rf):(λos:OsState=>clsSeenW kV kL (hS w.params os))=λ_=>clsGoodW kV kL:=by rw[Fast.te7369524293546568484];kernel_rfl
theorem Lh{a b c d e f g:Bool}(h:a=true)(k:(b && c && d && e)=true)(l:f=true)(m:g=true:=by rfl):(a && b && c && d && e && f && g)=true:=by
 subst h l m
 simpa only [Tx,Up] using k
theorem Kd(w:Rf)(os:OsState):openSeen kV kL (importedModules pW.main.body) kX true (hS w.params os)=openGood kV kL:=
 R9 (congrFun (I9 w) os) (R9 (congrFun (H5 w) os) (R9 (Lh (congrFun (IW w) os) (congrFun (Jd w) os) (congrFun (I8 w) os)) (R9 (congrFun (IJ w) os) (R9 (congrFun (I3 w) os) (R9 (congrFun (Ik w) os) (R9 (congrFun (JX w) os) (R9 (congrFun (EP w) os) (congrFun (G1 w) os))))))))
theorem Om:LeftO pW kV kL kX (Hook.obs (kHook kK kA ze)) (Hook.val (kHook kK kA ze)) 8334 true:=
 LeftO.of_pieces (boot_open LP (by decide) Mq) Ku Cg (by decide) λw=>funext λos=>R9 (congrFun (K7 w) os) (R9 (Kd w os) (congrFun (Mv w) os))
noncomputable abbrev lW:OpenLaw:=Ra
noncomputable abbrev qP:Rq:=lW.row.prog
theorem s2:(qP.boundNames.all λn=>!worldNames.contains n)=true:=by kernel_rfl
theorem s3:noRoadLSs {strict:=!(importedModules qP.main.body).all cThrough.contains,foot:=none,bare:=(["vars","dir","locals"]:List Qd).filter (readsOut qP qP.main.body)} qP.main.body=true:=by rw[T6];kernel_rfl
theorem s4:Wr qP qP.main.body (λ_ n=>attrL n)=true:=by rw[RG];kernel_rfl
theorem s1:namesResolve qP=true:=by rw[Fast.te8377067652309620493];kernel_rfl
theorem Pq:noRoadLSs {strict:=true,foot:=some lW.bound',writes:=lW.writes,may:=lW.may} lW.footing=true:=by rw[T6];kernel_rfl
theorem Pe:Wr lW.prog lW.above (λ_ n=>!lW.own.contains n)=true:=by rw[RG];kernel_rfl
theorem O8:Wr lW.prog lW.footing (λsc n=>sc.kind == .module || sc.names.lookup n != some .globalExplicit)=true:=by rw[RG];kernel_rfl
theorem Py:Wr lW.prog lW.footing (λsc n=>(!(["type","isinstance","issubclass","getattr","hasattr"]:List Qd).contains n || sc.names.lookup n == some .globalImplicit) &&
  (lW.may != some n || sc.kind == .module || sc.names.lookup n == some .globalImplicit))=true:=by rw[RG];kernel_rfl
theorem Ol:Ws Ra=true:=by
 unfold Ws OpenRow.wellSaid OpenRow.partSaid looksOpen;rw[s1,s2,s3,s4,Pq,Pe,O8,Py]
 kernel_rfl
end
section
noncomputable def fT:List (Addr × List String × Nat):=[(65,["x","bits"],2),(72,["x","bits"],2),(93,["x","bits"],2),(121,["x","y","bits"],3),(128,["x","y","bits"],3),(156,["x","y","bits"],3),(306,["code","first32","first64","many"],4),(313,["code"],1),(320,["code"],1),(327,["code"],1),(334,["code"],2),(341,["code","x"],4),(348,["code","x","y"],4),(371,["self"],1),(377,["self"],1),(384,["self"],1),(398,["body"],5),(405,["pieces","body"],3),(412,["pieces"],2),(419,["pieces","depth"],4),(424,["pieces","depth"],4),(432,["code"],1),(439,["code"],2),(446,["piece"],1),(453,["bits","number"],2),(460,["code"],2),(465,["code","numbers"],6),(470,["found"],5),(477,["labels","number"],3),(484,["found","number"],2),(491,["found"],4),(498,["found"],1),(505,["pieces"],4),(512,["pieces"],2),(517,["piece"],1),(524,["pieces"],4),(531,["found"],4),(538,["pieces"],4),(545,["found"],3),(552,["pieces"],4),(559,["pieces"],4),(566,["pieces"],4),(573,["tape"],1),(580,["tape","out","depth","labels"],6),(587,["tape","out","depth","labels"],5),(594,["tape","out","pick","labels"],7),(601,["tape","out","pick","depth","labels"],5),(608,["tape","out","depth","labels"],6),(615,["body"],7),(622,["plain","stack","places","trace"],8),(629,["body","places"],18),(636,["body","begin"],4),(643,["body","last"],6),(650,["number","pieces"],2),(655,["script"],11)]
noncomputable def en:Nat->List Addr->List (Nat × Addr)
 |_,[]=>[]
 |n,a::l=>(n,a)::en (n+1) l
noncomputable def L1:List (Nat × Addr):=en 0 (fT.map (·.1))++en 100 [100,107,114,135,149,163,170,177,184,191,198,205,212,219,226,233,240,247,254,261,268,275,282,289,296]
noncomputable def wg(k:Nat):Addr:=(L1.lookup k).getD 65
noncomputable def Og(K:Frag):Nat->List (Addr × List String × Nat)->Bool
 |_,[]=>true
 |k,x::r=>(wg k == x.1 && wX K x.1 (x.2.1.map PR) x.2.2) && Og K (k+1) r
theorem HW{K:Frag}:∀{l:List (Addr × List String × Nat)}{n:Nat},Og K n l=true->∀k x,Iv l k=some x->wg (n+k)=x.1/\wX K x.1 (x.2.1.map PR) x.2.2=true:=by
 intro l;induction l with
 |nil=>exact λ_ _ _ e=>bf e
 |cons y r ih=>
  intro n h k x e;induction k using P0 with
  |zero=>exact PG e ▸ ⟨beq_iff_eq.mp (ax (ax h).1).1,(ax (ax h).1).2⟩
  |succ k=>exact Nat.succ_add_eq_add_succ n k ▸ ih (ax h).2 k x e
theorem Fx{α β:Type}{f:α->β}:∀{l:List α}{k:Nat}{y:β},Iv (l.map f) k=some y->∃x,Iv l k=some x/\f x=y:=by
 intro l;induction l with
 |nil=>exact λe=>bf e
 |cons a l ih=>
  intro k y e;induction k using P0 with
  |zero=>exact⟨a,rfl,PG e⟩
  |succ k=>exact ih e
theorem JK{α β:Type}{f g:α->β}:∀{l:List α},l.map f=l.map g->∀{k:Nat}{x:α},Iv l k=some x->f x=g x:=by
 intro l;induction l with
 |nil=>exact λ_ _ _ e=>bf e
 |cons a l ih=>
  intro h k x e;induction k using P0 with
  |zero=>exact PG e ▸ (Q5 h).1
  |succ k=>exact ih (Q5 h).2 e
theorem G7(l:List Value):(UM l.length).map (λi=>l.getD i .none)=l:=List.ext_getElem (by rw[Qc,List.length_range]) λi _ h=>by rw[List.getElem_map,List.getElem_range,List.getD_eq_getElem?_getD,Ql h];rfl
section
variable(P:Sq)
theorem N9:Og (kK P) 0 fT=true:=by kernel_rfl
theorem MU:fT.map (λx=>(⟨x.2.1.length,x.2.2,Lx (bodyOf (fdOf (kK P) x.1))⟩:Fn))=Jq:=by kernel_rfl
theorem N0(v:Nat->Value):fT.map (λx=>Wd (fdOf (kK P) x.1) ⟨(UM x.2.1.length).map v,[]⟩)=fT.map (λx=>pure ((x.2.1.map PR).zip ((UM x.2.1.length).map v))):=by kernel_rfl
theorem Bj{G:GX}(hK:G.K=kK P)(hF:G.dS=wg)(hg:G.glob=j5):∀k f,fns k=some f->∃fd body params,lA G k f fd body params:=by
 intro k f e;have e:Iv Jq k=some f:=e;rw[<- MU P] at e;refine aT (Fx e) λx h1 h2=>?_;have q:=HW (N9 P) k x h1;subst h2;refine CL (a:=x.1) (look:=bodyOf (fdOf (kK P) x.1)) (by rw[hF];exact TQ k ▸ q.1) hK hg q.2 rfl rfl (λvals h=>?_) (Qc _);have:=JK (N0 P λi=>vals.getD i .none) h1
 rwa [<- h,G7] at this
end
end
set_option maxHeartbeats 8000000
section
noncomputable abbrev gX(prog:Rq)(w:Rf)(P:Sq)(base:Qk)(p:Rq)(loose:List Qd)(mg mb:Qd->Option Value)(os:OsState):GX:=⟨prog,w,kK P,base,p,loose,mg,mb,387,44,wg,j5,os,⟨[]⟩⟩
noncomputable def BU(K:Frag)(a:Addr):Bool:=E4 K a && WN K (fdOf K a).code (fdOf K a).qualname && qT (fdOf K a).scope && !(fdOf K a).scope.isCoroutine && !(fdOf K a).scope.isGenerator && (fdOf K a).scope.kind == .function
theorem tM{K:Frag}{a:Addr}(h:BU K a=true):E4 K a=true/\WN K (fdOf K a).code (fdOf K a).qualname=true/\qT (fdOf K a).scope=true/\(fdOf K a).scope.isCoroutine=false/\(fdOf K a).scope.isGenerator=false/\(fdOf K a).scope.kind = .function:=
 have h:=ax h;have g:=ax h.1;have f:=ax g.1;have e:=ax f.1;have d:=ax e.1
 ⟨d.1,d.2,e.2,ec f.2,ec g.2,beq_iff_eq.mp h.2⟩
section
variable(P:Sq)
theorem Jg:rE (kK P) wg 387 44 j5=true:=by kernel_rfl
theorem Mg:CM (kK P) L1=true:=by kernel_rfl
theorem Pm:((["plain","first","second"]:List Qd).all λx=>Sj (kK P) (.ref 387) x == some none)=true:=by kernel_rfl
theorem Pc:(plainGet (kK P) 387 "plain" && Ur (kK P) 387 && Wf (kK P) 387 && makesIn (kK P) 387 && VG (kK P) (.ref 387))=true:=by kernel_rfl
theorem O5:(([("parts",14),("labels",15)]:List (Qd × Nat)).all λx=>Sj (kK P) (.ref 387) x.1 == some (some (.ref (wg x.2))) && isFn (kK P) (.ref (wg x.2)))=true:=by kernel_rfl
theorem Pp:(Sj (kK P) (.ref 387) "code",We (kK P) (.ref 372) "__get__",takesIn (kK P) (.ref 372),recIn (kK P) 372 "property")=(some (some (.ref 372)),some (some (.builtin "property.__get__")),some true,some [.ref 371,.none,.none,.none,.str "code" 742,.bool false]):=by kernel_rfl
theorem Ph:((["plain","first","second"]:List Qd).all λx=>W7 (kK P) 387 x == some none)=true:=by kernel_rfl
theorem Pb:(Sj (kK P) (.ref 387) "__setattr__",Sj (kK P) (.ref 387) "__init__",Wg (kK P) (.ref 364))=(some (some (.builtin "object.__setattr__")),some (some (.ref 364)),some (.type "function")):=by kernel_rfl
theorem Fq:(BU (kK P) 364 && Cv (fdOf (kK P) 364).scope ["self","plain","first","second"])=true:=by kernel_rfl
theorem Fy:(fdOf (kK P) 364).body = .stmts (mQ Gx):=by kernel_rfl
theorem EL(x:Addr)(v:Value)(S:Setting):peek (kK P) S (Wd (fdOf (kK P) 364) ⟨[.ref x,v],[]⟩)=some (du x v .none):=by kernel_rfl
theorem FD(x:Addr)(v u:Value)(S:Setting):peek (kK P) S (Wd (fdOf (kK P) 364) ⟨[.ref x,v,u],[]⟩)=some (du x v u):=by kernel_rfl
theorem Pz:((["len","any","tuple","list","int","min","range","enumerate"]:List Qd).all λx=>nsIn (kK P) mainGlobals x == some none)=true:=by kernel_rfl
theorem JM:rI (kK P) 44=true:=by kernel_rfl
theorem Px:(We (kK P) (.ref 44) "__call__",instIn (kK P) (.ref 44) (.type "type"),UB (kK P) (.ref 44) (.ref 44),UB (kK P) (.ref 44) (.type "Exception"),UB (kK P) (.ref 44) (.type "AttributeError"),UB (kK P) (.ref 44) (.type "NameError"),UB (kK P) (.ref 44) (.type "BaseException"),UB (kK P) (.ref 44) (.type "object"),instIn (kK P) (.ref 44) (.type "tuple"))=(some (some (.builtin "type.__call__")),some true,some true,some true,some false,some false,some true,some true,some false):=by kernel_rfl
theorem Pk:(Wg (kK P) (.ref 44),VG (kK P) (.ref 44),Sj (kK P) (.ref 44) "__setattr__",Sj (kK P) (.ref 44) "why",nsIn (kK P) mainGlobals "Exception",Sj (kK P) (.ref 44) "__init__",Wg (kK P) (.ref 28))=(some (.type "type"),true,some (some (.builtin "object.__setattr__")),some none,some none,some (some (.ref 28)),some (.type "function")):=by kernel_rfl
theorem Fs:(BU (kK P) 28 && Cv (fdOf (kK P) 28).scope ["self","why"])=true:=by kernel_rfl
theorem EZ:(fdOf (kK P) 28).body = .stmts (iG xP):=by kernel_rfl
theorem EO(x:Addr)(v:Value):Wd (fdOf (kK P) 28) ⟨[.ref x,v],[]⟩=pure (dI x v):=by kernel_rfl
theorem BZ(s:PM)(x:Addr)(v:Value):Vn s (fdOf (kK P) 28) ⟨[.ref x,v],[]⟩ (dI x v):=by
 have h:=EO P x v;generalize fdOf (kK P) 28=fd at h |-;exact W3 h
theorem zE:(fdOf (kK P) 28).scope.names.lookup ("Exception":Qd)=some .globalImplicit:=by kernel_rfl
theorem A9:(fdOf (kK P) 28).globals=mainGlobals:=by kernel_rfl
theorem AH:(fdOf (kK P) 28).builtins=TU:=by kernel_rfl
theorem AM:((xP 1).endLine == (xP 4).line)=true:=by kernel_rfl
theorem F9{α β γ:Type}{a a':α}{b b':β}{c c':γ}(h:(a,b,c)=(a',b',c')):a=a'/\b=b'/\c=c':=⟨congrArg Prod.fst h,congrArg (λx=>x.2.1) h,congrArg (λx=>x.2.2) h⟩
section
variable{prog:Rq}{w:Rf}{base:Qk}{p:Rq}{loose:List Qd}{mg mb:Qd->Option Value}{os:OsState}
theorem Jy(X:(kK P).In base)(T:UI p loose mg mb base):CZ (gX prog w P base p loose mg mb os):=
 have q:=ax (Pc P);have q2:=ax q.1;have q3:=ax q2.1;have q4:=ax q3.1;have c:=F9 (Pp P);have d:=Xi c.2.2;have e:=F9 (Pb P);have f:=ax (Fq P);have g:=tM f.1
 ⟨X,T,λx v e=>wu (G:=gX prog w P base p loose mg mb os) X (Jg P) x v e,λx hx=>⟨q4.1,q4.2,none,beq_iff_eq.mp (QZ.mp (Pm P) x hx),rfl⟩,uj (Mg P),
  λx k h=>have r:=ax (QZ.mp (O5 P) _ h);⟨q4.1,beq_iff_eq.mp r.1,r.2⟩,⟨q4.1,q4.2,_,_,c.1,c.2.1,d.1,d.2⟩,
  ⟨e.1,q3.2,q4.2,λx hx=>beq_iff_eq.mp (QZ.mp (Ph P) x hx)⟩,
  ⟨q2.2,q.2,_,_,_,e.2.1,e.2.2,⟨BR g.1,g.2.1,Fy P,λs X x v M _ _ _ q=>(W4 (M:=M) X (EL P x v _)).here q,λs X x v u M _ _ _ q=>(W4 (M:=M) X (FD P x v u _)).here q,nI g.2.2.1,tb f.2,g.2.2.2.1,g.2.2.2.2.1,g.2.2.2.2.2⟩⟩,
  λx hx=>beq_iff_eq.mp (QZ.mp (Pz P) x hx)⟩
theorem vS:l0 (gX prog w P base p loose mg mb os):=by
 have a:=F9 (Px P);have b:=F9 a.2.2;have c:=F9 b.2.2;have c2:=F9 c.2.2;have d:=F9 (Pk P);have e:=F9 d.2.2;have e2:=F9 e.2.2;have f:=ax (Fs P);have g:=tM f.1;have T0:=wk (JM P);refine cN (id T0) λoc od cd sl b' e1 e2' e3 e4 e5 e6=>?_;have hcls:W6 (kK P) 44=some cd:=by unfold W6;rw[e1]
 exact⟨⟨T0,a.1,a.2.1,b.1,b.2.1,c.1,c.2.1⟩,⟨⟨cd,b',hcls,e2',e3,e4,e5⟩,e.1,e.2.1,c2.2.1⟩,⟨c2.2.2,⟨_,_,_,_,e1⟩,c2.1,b.1⟩,d.1,d.2.1,e2.1,_,_,_,e2.2.1,e2.2.2,⟨BR g.1,g.2.1,EZ P,λs _ x v=>BZ P s x v,nI g.2.2.1,tb f.2,zE P,A9 P,AH P,AM,g.2.2.2.1,g.2.2.2.2.1,g.2.2.2.2.2⟩⟩
end
end
end
section
noncomputable def NH(script:List Int)(r:Nat):Mem:=Mem.set (λ_=>none) r (.list (script.map .int))
noncomputable def NJ(r:Nat):Loc:=(Qi 11 none).set 0 (some (.lst r))
theorem xY{G:GX}{h:Qk}{as:List Addr}{its:List Value}{ns:List Int}(q:IntsAre its ns):aE G h as (ns.map .int) its:=by
 induction q with
 |nil=>exact .nil
 |cons n t r ih=>exact .cons (.int n t) ih
noncomputable def dB:Rb:=match sF (sT 138) with |some x=>x.2.2.2.2.1 |none=>default
noncomputable def zG:List Sp:=match sF (sT 138) with |some x=>x.2.2.1 |none=>[]
theorem jG:dB.kind = .function:=by kernel_rfl
theorem tQ(L:Nat):R6 L dB.names []=[((PR "turn"),L)]:=by kernel_rfl
theorem zJ:(bz dB).length=11:=by kernel_rfl
theorem qZ:(dB.names.lookup (PR "script"),(bz dB).lookup (PR "script"),HQ (PR "script"))=(some .local,some 0,false):=by kernel_rfl
theorem wD:dB.names.all (λx=>x.2 != .cell || x.1 == PR "turn")=true:=by kernel_rfl
theorem F2:∃k0 np np2 p pos pos2 pk,zG = .Assign [.Name (PR "script") np] (.Subscript (.Name (PR "script") np2) (.Slice none (some (.Constant (.int 63) k0 pk)) none p) pos) pos2::zG.tail:=⟨_,_,_,_,_,_,_,rfl⟩
theorem EG:Cj j5 dB zG.tail=gT:=by kernel_rfl
theorem Ka(l:List WData):Ra.row.claim.post l (.bool true) l=true:=by
 first
 |kernel_rfl!
 |(show(Xk _ _ _ && WTm.holds _ _ _)=true;simp[WTm.holds,Xk])
noncomputable def Aa:Nat:=220
def FZ:Prop:=∀(script:List Int)(r:Nat),script.length<=63->gT (aj fns Aa) (NJ r) (NH script r) (λfl _ _=>fl = .ret (.bool true)) (λ_=>False)
theorem MR(JW:FZ){prog:Rq}{w:Rf}{s₁:PM}{mg mb:Qd->Option Value}{p:Rq}{loose:List Qd}(KX:(kK w.params).In s₁.heap)(T:UI p loose mg mb s₁.heap){script:List Int}{items:List Value}{w3:Addr}(hL:s₁.heap.IsList w3 items.toArray)(hI:IntsAre items script)(hn:¬ (63:Int) < script.length)(hg:s₁.gens = #[]){fa:Addr}{cd:Value}{name:Qd}{h₁:Qk}{tk:Nat}{m:Qd->Option Value}(F:Fr s₁.heap s₁.heap.objs.size h₁ m)(hm:m (PR "script")=some (.ref w3)){ob:Obj}{cv:Option Value}(hob:ob.data = .cell cv)(hcell:News s₁.heap s₁.heap.objs.size h₁ [(s₁.heap.objs.size+1,ob)]){Q:Xg->PM->Prop}{E:Value->PM->Prop}(hQ:∀s',(∀b o,s₁.heap.get? b=some o->s'.heap.get? b=some o)->s'.os=s₁.os->s'.gens = #[]->Q (.ret (.bool true)) s'):
  P2 (model prog w) (callerA.deeper (envOfC name dB s₁.heap.objs.size fa cd)) (execs zG (envOfC name dB s₁.heap.objs.size fa cd)) Q E ⟨h₁,s₁.gens,s₁.drawn,tk,s₁.os⟩:=by
 let G:GX:=gX prog w w.params s₁.heap p loose mg mb s₁.os;have g:CZ G:=Jy w.params KX T;have R:gZ G:=Ey (vS w.params);have hcall:qQ G Aa (aj fns Aa):=Ip g R (Bj w.params rfl rfl rfl) Aa;let env:=envOfC name dB s₁.heap.objs.size fa cd;have hcells:env.cells=[((PR "turn"),s₁.heap.objs.size+1)]:=by
  exact tQ _
 let c:WC:={G:=G,n:=Aa,call:=aj fns Aa,fr:=⟨env,[]⟩,A:=callerA.deeper env,cx:=⟨dB,bz dB,j5⟩,env:=env,h0:=h₁,eQ:=[],xs:=[s₁.heap.objs.size,s₁.heap.objs.size+1],X:=λ_=>False};refine kr (hcell _ (.head _)) λc1 c2 c3=>?_;have hns:=F.ns;have ok:c.OK:=by
  refine⟨g,hcall,⟨rfl,jG⟩,⟨rfl,rfl,?_,?_⟩,rfl,jG,rfl,rfl,rfl,rfl,λb q=>?_⟩
  ·show 1+claimMargin+1+3 * 220 < 980;decide
  ·show 4+3+20 * 220 < 9700;decide
  ·rcases PJ.mp q with rfl |q
   ·refine cY hns λo _ _ e _=>?_
    show h₁.get? s₁.heap.objs.size≠none;rw[e];exact λz=>by exact b8 z
   ·rcases PJ.mp q with rfl |q
    ·show h₁.get? _≠none
     rw[c1];exact λz=>by exact b8 z
    ·cases q
 have only:∀y a,env.cells.lookup y=some a->y=PR "turn"/\a=s₁.heap.objs.size+1:=λy a hl=>by
  rw[hcells,QN] at hl;split at hl
  ·rename_i q;obtain rfl:=PG hl;exact⟨beq_iff_eq.mp q,rfl⟩
  ·exact bf hl
 have so:pJ c:=by
  refine⟨rfl,rfl,.head _,λy a hk hl=>?_,λy z a _ _ h1 h2=>?_,λy z i h1 h2=>gK h1 h2,λy i h=>lM h⟩
  ·rw[(only y a hl).2];exact .tail _ (.head _)
  ·rw[(only y a h1).1,(only z a h2).1]
 have at0:At c ⟨h₁,s₁.gens,s₁.drawn,tk,s₁.os⟩ m [] (λ_=>none) (Qi 11 none):=by
  refine⟨⟨F,Vv (by show dB.kind≠_;rw[jG];decide) rfl hns (bL _) trivial,(λb q=>by cases q),⟨λa=>a,⟨(λa o e=>by exact bf e),(λa p f s e=>by exact bf e),(λa p f s b p' f' s' e=>by exact bf e)⟩⟩,rfl,hg⟩,⟨zJ.symm,λy i v hy hv=>?_,λy hy=>?_,?_⟩,.refl⟩
  ·rw[UA] at hv
   split at hv<;>cases hv
  ·have hy:dB.names.lookup y=some .cell:=hy
   have ht:y=PR "turn":=by
    have:=QZ.mp wD _ (mem_of_lookup hy)
    simpa using this
   subst ht;exact⟨s₁.heap.objs.size+1,cv,by show env.cells.lookup _=_;rw[hcells];rfl,P6,λq=>by
    have q:s₁.heap.objs.size+1∈[s₁.heap.objs.size]:=q;simp at q,c3,ob,c1,hob⟩
  ·refine cY hns λo _ _ e _=>?_
   show h₁.get? s₁.heap.objs.size≠none;rw[e];exact λz=>by exact b8 z
 obtain⟨k0,np,np2,p0,pos,pos2,pk,hB⟩:=F2;obtain⟨l1,l2,l3⟩:_/\_/\_:=by have:=qZ;simpa only [WY] using this
 rw[hB];have hil:items.length=script.length:=by
  have:=(xY (G:=G) (h:=h₁) (as:=[]) hI).length;rw[Qc] at this;exact this.symm
 refine wpAny_mono (Q:=Q) (E:=c.E) ?_ (λ_ _ z=>z) (λe s' z=>?_)
 ·refine RM (AI ok so at0 (i:=0) (by show Cx.loc ⟨dB,bz dB,j5⟩ _=_;unfold Cx.loc;rw[if_neg (by rw[l3];decide)];simp only[l1];exact l2) l1 hm hL (by lia) (xY hI) λs1 m1 as1 D a1 hD=>?_)
  have hmini:=JW script D (by lia);rw[<- EG] at hmini;refine(qV R 60).ss ⟨dB,bz dB,j5⟩ zG.tail c rfl rfl ok so s1 m1 as1 _ _ (λfl _ _=>fl = .ret (.bool true)) _ a1 hmini λfl rv s3 m3 as3 M3 l3 a3 hfr q=>?_;subst q;cases hfr with
  |ret rr=>
   cases rr
   exact hQ s3 a3.inv.F.keep a3.inv.os a3.inv.gens
 ·refine gr z λ_ _ _ _ _ _ _ hX _=>?_
  exact hX.elim
end
set_option maxHeartbeats 0
section
noncomputable def O6:DefRec:=⟨PR "law",⟨[],[⟨PR "script",none,⟨664,8,664,14⟩⟩],none,[],[],none,[]⟩,zG,dB,⟨664,0,686,103⟩⟩
end
end Nm.Internal
set_option autoImplicit false
theorem PySem.Challenge.cw_nm0152_01_holds : PySem.Challenge.rw_nm0152_01.Holds := by
 w_on
 refine holds_law Nm.Internal.Ol fun said => ?_
 refine holds_open (q := Nm.Internal.kV) (loose := Nm.Internal.kL) (Xt := Nm.Internal.kX) (XP := XL Nm.Internal.kV Nm.Internal.kW) (Yf := Hook.obs (kHook Nm.Internal.kK Nm.Internal.kA Nm.Internal.ze)) (Ya := Hook.val (kHook Nm.Internal.kK Nm.Internal.kA Nm.Internal.ze)) (YP := Hook.says (kHook Nm.Internal.kK Nm.Internal.kA Nm.Internal.ze)) (N := 8334) Nm.Internal.Om (Hook.of (kHook Nm.Internal.kK Nm.Internal.kA Nm.Internal.ze)) (Hook.keeps (kHook Nm.Internal.kK Nm.Internal.kA Nm.Internal.ze)) (fun s e => xl_of s (Bool.and_eq_true_iff.mp e).1) XL.keeps (d := Nm.Internal.O6) (kwd := []) (by kernel_rfl) (by kernel_rfl) (by kernel_rfl) (fun s e => recFacts_of (Bool.and_eq_true_iff.mp e).2) (by rfl) (by first | assumption | decide +kernel) (by decide +kernel) ⟨rfl, rfl, rfl, rfl, rfl, by decide +kernel⟩ ?hw ?hc
 case hw => exact ⟨[.list []], by decide +kernel, by decide +kernel⟩
 case hc =>
  intro w s₀ s₁ mg mb G Y fa o pm cd doc dV kV ho hd hcd hD hmg hg args vals as hpre hlay hrd hwl hlo
  have KX := kIn_of Y
  refine Ground.open G ?_
  intro T B D TE TW
  have TA := at_of_top T
  clear hmg
  wrow_args hpre hlay hrd hwl hlo
  all_goals (
   first | refine callC_kw (enter_call ?_) | refine enter_call ?_
   w_top on
   try refine codeAny_mono ?_ (fun _ _ g => GoodW.toG g)
   have K0 := below_caller (Top.heap T)
   w_call any ho hd hcd hD T F
   clear hd TA
   k_drop
   skip)
  rename_i sc hs hlay0 hL1 hr1 hl2 w5 w4 w3 w2 w1 hL ra w1' r0 hI hr hcond' hc2 h₁ tk₁ wob right N0 X0
  refine Nm.Internal.MR Nm.Internal.Lp KX (topRead_of T) hL hI hcond' hg F rfl right N0 (fun s' k1 k2 k3 => ⟨.inl ⟨.bool true, .bool true, [], rfl, ?_, .bool true, ?_, ?_⟩, k1, k2, k3⟩)
  · intro cls; rfl
  · exact Nm.Internal.Ka _
  · intro _; exact ⟨List.nodup_nil, fun a ha => by cases ha⟩
