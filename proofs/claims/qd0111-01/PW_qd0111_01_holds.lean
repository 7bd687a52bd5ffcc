import PyProof.Rows.All
import Wide.All
import OpenK.AllK
import Wide.FinOn
import KE.KDictOf
import KE.KRevSl
import KE.KStateDown
import PyProof.ExcInit
import PyProof.ExcBaseAll.Exception
import PyProof.InstStoreFacts
import KE.KFromBytes
import KE.KTryDeep
import PyProof.StationsW
import Lean
import PySem.Challenge.RW_qd0111_01
set_option linter.all false
set_option genCtorIdx false
set_option maxRecDepth 100000
set_option Elab.async false
set_option genSizeOf false
namespace Mine.Internal
open Classical renaming byContradiction→Np,em→Tb
open Option.some renaming inj→Nq
open _root_ renaming Option→Nr,congrArg→NC,of_decide_eq_true→ND,decide_eq_true→NF,if_pos→NP,decide_eq_false→N0,if_neg→N4,decide_eq_decide→O4,cond_false→O7,cond_true→Pc,beq_eq_false_iff_ne→PU,of_decide_eq_false→P7,Array→Qe,String→Rc,beq_self_eq_true→Ru,False→RA,Decidable→SI,if_false→UK,bne_self_eq_false→UT
open Nat renaming le_trans→Nt,le_refl→NI,lt_of_le_of_lt→NL,succ_le_succ→NX,le_of_lt→NY,le_succ→NZ,add_le_add_left→N2,le_of_eq→N8,zero_le→Oe,add_le_add→Of,exists_eq_succ_of_ne_zero→Oi,le_add_right→Oj,lt_of_lt_of_le→On,zero_add→Ow,add_assoc→OA,lt_irrefl→OD,le_of_ble_eq_true→OH,succ_pos→OJ,add_le_add_right→OK,lt_succ_self→OM,le_of_lt_succ→ON,lt_of_succ_lt_succ→OT,lt_or_eq_of_le→OW,add_comm→O2,lt_of_succ_lt→O8,succ_add→Ph,lt_succ_of_le→Pi,add_lt_add_right→PA,not_lt→PD,lt_trans→PE,ne_of_gt→PH,le_succ_of_le→PO,le_of_succ_le→PQ,lt_add_of_pos_right→PR,not_lt_zero→PS,le_of_succ_le_succ→PY,sub_self→PZ,succ_lt_succ→P5,min_eq_left→Qc,le_add_left→Qd,add_sub_cancel'→Qi,lt_or_ge→Qt,sub_le→QC,lt_of_not_le→QF,le_of_not_lt→QG,mul_le_mul_left→QK,add_lt_add_left→QO,add_sub_cancel_left→Q5,exists_eq_add_of_le→Q6,ne_of_lt→Re,le_of_add_right_le→Ro,min_le_right→Rv,lt_of_le_of_ne→Sf,add_right_comm→Si,lt_trichotomy→Sp,succ_le_of_lt→Sv,succ_ne_self→SW,succ_ne_zero→S8,sub_le_iff_le_add'→Tj,le_antisymm→Tn,succ→TC,not_succ_le_self→TU,max_le→Uw,sub_add_cancel→UI,add_succ→U3,lt_succ_of_lt→U6,sub_sub_self→Vh,strongRecOn→VG
open List renaming length_append→Nu,length_map→Nw,getElem?_eq_some_iff→NA,getElem?_eq_getElem→NB,mem_append→NG,map_cons→NJ,mem_of_getElem?→NN,all_eq_true→NO,append_nil→NQ,append_assoc→NR,getElem?_cons_succ→NS,getElem?_cons_zero→NU,mem_cons→NW,map_append→N1,mem_singleton→N3,set_cons_succ→N5,set_cons_zero→N6,sublist_append_right→Oh,getElem?_set_self→Ol,getElem?_set_ne→Oo,mem_map→Op,map_nil→Os,mem_iff_getElem?→Oy,mem_of_mem_drop→OB,length_set→OC,getElem?_append_left→OE,filterMap_append→OF,getElem?_append_right→OG,getElem?_map→OO,map_map→OP,mem_cons_of_mem→OS,nodup_append→OU,length_take_of_le→OV,mem_cons_self→OY,getElem?_eq_none→O0,mem_map_of_mem→O1,length_cons→O5,length_drop→Pa,lookup_cons→Pb,getElem_of_mem→Pd,range→Pf,mem_of_mem_take→Pj,mem_filterMap→Pk,nodup_cons→Pl,mem_flatMap→Po,singleton_sublist→Pp,pairwise_iff_getElem→Pq,flatMap_cons→Pv,map_congr_left→PJ,getElem?_drop→PK,drop_append_of_le_length→PM,length_range→PP,range_succ_eq_map→PW,length→P1,range'→P3,concat_eq_append→P9,sublist_append_left→Qg,length_take_le→Qk,mem_range→Qp,append_cons→Qr,zipIdx_cons→Qs,nil_append→Qv,eq_nil_or_concat→Qz,take_append_drop→QA,range'_succ→QD,filterMap_cons→QL,getElem?_take_of_lt→QR,mem_filter→QW,sublist_append_iff→Q7,set_eq_take_append_cons_drop→Q9,drop_zero→Rh,nodup_nil→Rj,getElem_cons_drop→Rp,dropLast_eq_take→Rq,mem_append_right→Rr,isEmpty_iff→Rt,any_cons→Rz,length_dropLast→RC,eq_nil_of_length_eq_zero→RD,range_eq_range'→RG,getLast?_concat→RH,length_take_le'→RI,map_eq_cons_iff→RJ,find?_cons→RK,length_nil→RL,forIn_cons→RN,of_mem_zip→RP,getElem?_concat_length→RX,isPrefixOf_iff_prefix→R2,zip_cons_cons→Sd,getElem_range→Se,pairwise_cons→Sj,map_dropLast→Ss,pairwise_map→Su,drop_nil→Sw,map_take→SA,filterMap_cons_none→SD,filterMap_cons_some→SG,length_filterMap_le→SH,length_take→SL,length_eq_zero_iff→SN,prefix_iff_eq_take→SP,pairwise_singleton→S0,map→S7,pairwise_of_forall→S9,range_succ→Tt,length_singleton→Tw,length_filter_le→Tx,dropLast_sublist→Tz,replicate→TA,mem_append_left→TL,getElem?_zipIdx→TP,dropLast_concat→TV,pairwise_append→TW,length_reverse→T7,reverse_append→T9,flatMap_append→Ua,filter_sublist→Ub,map_drop→Uu,zip_nil_right→UC,contains_cons→UD,reverse_cons→UJ,size_toArray→UN,getElem_take→UX,map_set→U4,ext_getElem?→U5,not_mem_nil→Vb,take_length→Vc,getElem_mem→Vg,filter_cons→Vn,flatMap_map→Vo,nil_sublist→Vp,map_id→Vx,zip_append→VC,mem_zipIdx→VH,drop_take→VQ
open PySem renaming Value→Nv,Shared→Nx,wpAny_bind→Ny,wpAny→NH,wpAny_pure→NM,Comprehension→N9,Program→Ob,wpAny_mono→Oc,Around→Od,mainGlobals→Og,callEnvC→Om,wpAny_holding→Ou,wpAny_execs_cons→Ov,strKind→Oz,FuncData→OL,wpAny_standAt→OR,wpAny_assignInOrder_more→OZ,wpAny_Call_ofName→Pt,wpAny_loadPart_at→Pu,Scope→Px,World→Pz,codeAny→PB,wpAny_truthy_bool→PF,wpAny_assign_Name→PG,DictEntry→PN,sizeLine→PV,ClassData→P4,wpAny_call→P6,letOwnedTupleGo→Qa,wpAny_execs_nil→Qb,plainObj_wpAny_Assign_Attribute→Qh,Result→Qx,wpAny_isSubtype_exc→QM,getitemInPython→QU,sysModules→QX,sliceBounds→QY,getMethod_builtin→Ri,wpAny_Expr_any→Rl,valueAt→Ry,wpAny_letTemporaryGo→RB,typeLookup→R0,builtinsNs→R7,wpAny_Constant_int→R8,wpAny_Constant_str→R9,wpAny_assign_Tuple→Sb,wpAny_pyIter_list→Sm,wpAny_Return_some→Sq,wpAny_getItem_list_slice→Sx,cLine→SJ,compareOp→SK,noFill_tuple_add→SM,wpAny_list_append_plain→SV,strKind_is→Ta,concat_meets→Tc,wpAny_pyNext_list_item→Te,notedBy→Th,cameBackBy→Ti,ExcBaseFacts→Tl,wpAny_pyNext_list_end→Tu,wpAny_loadName_local→TD,sliceRange_one→TE,Operator→TF,wpAny_loadPart→TR,sizeLine_eq→TS,codeAny_call_builtin→TT,Keyword→TY,OsState→TZ,wpAny_Constant_bool→T6,seq_tuple_add→Ud,Const→Ue,wpAny_UnaryOp→Uf,evalPart_none→Ug,PyData→Uv,call_meets→Ux,arm_eval_Subscript→UA,sliceBounds_plain→UM,slot_list_setitem→UP,wpAny_pyIter_enum→UR,NameKind→US,wpAny_newObj_type→UU,wpAny_Assign_Name→UW,wpAny_askSetting→Vf,wpAny_lookBehind→Vj,pastItsLine_dict→Vk,wpAny_madeBy_exc→Vl,wpAny_Try_except→Vm,codeAny_builtin→Vz,codeAny_of_tree→VB,sliceRange→VP,typeIs_str→VS,refuseLoop_ref→V1,call→V3
open Bool renaming and_eq_true_iff→Nz,noConfusion→O3,or_eq_true_iff→Pe,or_eq_false_iff→PL,false_eq_true→Qu,and_eq_false_iff→Rs,true_or→Td,decide_or→VK,and_false→V0
open LawfulBEq renaming eq_of_beq→NE
open PySem.Str renaming ofString→NK
open Option renaming bind→NT,isSome_iff_exists→Oq,isNone_iff_eq_none→OI,map→Pr,bind_eq_some_iff→Py,length_toList_le→Q8,map_eq_some_iff→Ra,map_some→RO,none→Sl,bind_some→S6,isNone_none→Uy
open PySem.Heap renaming get?_push_of_some→NV,lt_size→N7,get?_push_size→Oa,SameBut→Pn,get?_update_self→Qy,get?_update_ne→QN,size_push→Rk,get?_push_at→UY,hide_ne→UZ,FlyingW→U0,hide_self→V2
open Int renaming natCast_nonneg→Ot,toNat_natCast→Pg,ofNat_lt→PC,fmod_nonneg_of_pos→PI,fmod_lt_of_pos→P8,eq_ofNat_of_zero_le→Ql,natCast_succ→Qo,le_of_lt→QH,natCast_pos→QV,le_refl→RF,le_trans→RW,lt_of_lt_of_le→RZ,add_sub_cancel→Sa,natCast_ne_zero→Uc,add_comm→UL,ofNat_le→U7,ne_of_gt→U8,lt_trans→U9,pow_succ→Va,natCast_zero→Ve,mul_one→Vr,natCast_sub→VE,natCast_add→VF,not_lt→VN,le_add_one→V4
open Array renaming getElem?_toList→Ox,length_toList→OQ,getElem?_eq_getElem→Sk,toList_append→T3,toList_push→UQ,any_toList→Vi
open List.cons renaming inj→OX
open PySem.Calls renaming Name_function_global→O6,spliced_cons→O9,spliced_nil→Ps,loadGlobal_global→Qn,loadGlobal_builtin→QQ
open ForInStep renaming yield→Pm
open List.Sublist renaming refl→Pw,cons_cons→Tm
open PySem.Env renaming kindOf→PT
open Nat.succ renaming inj→PX
open PySem.PyData renaming canLayAll0→Qf,eqv→QB,depthAll→QS,keyHash→Rn,canLay0→VL
open PySem.W renaming SharedT→Qj,instObj→Rb,looks_findIn→Tk,dictOf→TB,looks_clsIn→Vu,mg_none_of→VU,cellsFrom_some→VY,codeRec_of→VZ
open PyProof.Rows renaming wpAny_operate'→Qm,neg_int→TK,isnot_none_gen→VI,getItem_tuple→VO,callWith_type→VV,floordiv_int→V6,is_none_gen→V7
open PySem.Heap.UpToSlots renaming of_keeps→Qq
open PySem.NameKind renaming free→Qw,cell→Uh
open PySem.F renaming excBase_Exception→QI,args_tuple_add_2→QP,entry_tuple_add→QZ,plainAttrs_list→Q3,slot_tuple_add→Rf,slot_list_index→SQ,entry_str_split→SR,slot_str_split→Tf,slot_dict_get→Tv
open PySem.Builtin.Str renaming strKind→QJ,occurrences→Q2,spaceWords→Rg,strSliceIndices→RV,partsBetween→Sy
open PySem.Value renaming ref→Q1,isStrOf_shape→T4,str→Wj
open PySem.Builtin.Range renaming rangeSize→Q4,small→RU
open List.Nodup renaming length_le_of_subset→Rx,mem_erase_iff→Wb
open PySem.Around renaming frames_deeper→RE
open PySem.Expr.Tuple renaming elim→RM
open PySem.Expr.Attribute renaming elim→RQ
open PySem.Expr.Subscript renaming elim→RS
open PySem.SeqAt renaming shaped→RY,readOf→Uz,notIn_tuple_reads→Vq,notIn_list_reads→Vy,in_tuple_reads→VM,in_list_reads→V5,list_indexAt→Wa
open PySem.Code renaming quiet_builtin→R1,builtin→UO
open PySem.Expr.Constant renaming elim→R3
open PySem.Expr.Name renaming elim→R4
open PySem.Expr.ListComp renaming elim→R6
open PySem.Stmt.Continue renaming elim→Sc
open PySem.Expr.UnaryOp renaming elim→Sn
open PySem.Expr.Compare renaming elim→So
open PySem.W.BT renaming get_node→Sr
open PySem.Builtin.Dict renaming updateFrom→SO,addKeywords→V8,selfAndRest→V9
open PySem.Expr.BoolOp renaming elim→SU
open PySem.Stmt.Assign renaming elim→SY
open PySem.Stmt.Return renaming elim→SZ
open PySem.Expr.Slice renaming elim→To
open PySem.Expr.BinOp renaming elim→Tp
open PySem.Expr.IfExp renaming elim→Tq
open PySem.Stmt.While renaming elim→Tr
open PySem.Stmt.Raise renaming elim→Ts
open PySem.Const.str renaming elim→TG
open PySem.Expr.List renaming elim→TH
open PySem.Expr.Dict renaming elim→TI
open PySem.Expr.Call renaming elim→TJ
open PySem.Stmt.Expr renaming elim→TM
open PySem.Data.func renaming elim→TN
open PySem.Value.ref renaming elim→TO
open PySem.Value.str renaming elim→TQ
open Ne renaming symm→TX
open PySem.Builtin.Int renaming intBits→T0
open PySem.Heap.SameBut renaming update→T5
open PySem.Heap.FunFrames renaming cons→T8
open PySem.Stmt.For renaming elim→Ui
open PySem.Stmt renaming Continue→Uj,Assign→Vs,Return→Vt,While→VW,Raise→VX,Expr→Wf,For→Wg,Try→Wh,If→Wi
open PySem.Stmt.Try renaming elim→Uk
open PySem.Data.seq renaming elim→Ul
open PySem.Data.cls renaming elim→Um
open PySem.W.Fast renaming tw10156331382660048174→Un,tw11892475500146522536→Uo,tw14364793385576792824→Up,te10156331382660048174→Uq,te11892475500146522536→Ur,te14364793385576792824→Ut,tw6613529449190102663→UE,te6613529449190102663→UF,tw4187177175401517315→UG,te4187177175401517315→UH
open PySem.Heap.IsSliceOf renaming new→UB
open PySem.Stmt.If renaming elim→UV
open PySem.DictEntry renaming refKey→Vd
open PySem.Within renaming cons→Vv
open PySem.Builtin.BaseException renaming bexcPut→Vw
open PySem.Heap.DictOf renaming new→VA
open PySem.Challenge renaming pw_qd0111_01→VD
open PySem.Builtin.List renaming listSubscript?→VJ
open PySem.Txt renaming startswith→VR
open PySem.Obj renaming mapSeq→VT
section
open PySem
set_option tactic.hygienic false
section
set_option genSizeOf false
set_option genInjectivity false
abbrev Sg:=List Nat
set_option genCtorIdx true in
inductive iJ|line|ins|reg|imm|rel|register
 deriving DecidableEq
set_option genCtorIdx true in
inductive gV|labels|instruction|name|operands|prefix_|kind|register|worth|number|size
 deriving DecidableEq
set_option genCtorIdx true in
inductive D7|told|symbol
 deriving DecidableEq
set_option genCtorIdx false in
set_option genInjectivity true in
inductive V where
 |none
 |bool (b:Bool)
 |int (i:Int)
 |str (s:Sg)
 |tup (vs:List V)
 |lst (vs:List V)
 |dct (ks:List Sg) (vs:List V)
 |inst (c:iJ) (vs:List V)
noncomputable instance:Inhabited V:=⟨.none⟩
noncomputable def V.el {α:Type} (d:α) (b:Bool→α) (i:Int→α) (s:Sg→α) (t l:List V→α) (k:List Sg→List V→α) (c:iJ→List V→α) (v:V):α:=V.casesOn (motive_1:=fun _=>α) v d b i s t l k c
noncomputable def V.none?:V→Bool:=V.el true (fun _=>false) (fun _=>false) (fun _=>false) (fun _=>false) (fun _=>false) (fun _ _=>false) fun _ _=>false
noncomputable def V.int?:V→Nr Int:=V.el .none (fun _=> .none) .some (fun _=> .none) (fun _=> .none) (fun _=> .none) (fun _ _=> .none) fun _ _=> .none
noncomputable def V.str?:V→Nr Sg:=V.el .none (fun _=> .none) (fun _=> .none) .some (fun _=> .none) (fun _=> .none) (fun _ _=> .none) fun _ _=> .none
noncomputable def V.lst?:V→Nr (List V):=V.el .none (fun _=> .none) (fun _=> .none) (fun _=> .none) (fun _=> .none) .some (fun _ _=> .none) fun _ _=> .none
noncomputable def V.tup?:V→Nr (List V):=V.el .none (fun _=> .none) (fun _=> .none) (fun _=> .none) .some (fun _=> .none) (fun _ _=> .none) fun _ _=> .none
noncomputable def V.bool?:V→Nr Bool:=V.el .none .some (fun _=> .none) (fun _=> .none) (fun _=> .none) (fun _=> .none) (fun _ _=> .none) fun _ _=> .none
noncomputable def V.dct?:V→Nr (List Sg×List V):=V.el .none (fun _=> .none) (fun _=> .none) (fun _=> .none) (fun _=> .none) (fun _=> .none) (fun k l=> .some (k,l)) fun _ _=> .none
noncomputable def V.inst?:V→Nr (iJ×List V):=V.el .none (fun _=> .none) (fun _=> .none) (fun _=> .none) (fun _=> .none) (fun _=> .none) (fun _ _=> .none) fun k l=> .some (k,l)
@[elab_as_elim]
theorem qZ {P:Nat→Prop} {k n:Nat} (h:k <n+1) (c:P n) (r:k <n→P k):P k:=(OW (ON h)).elim r fun e=>e▸c
theorem vF {P:Prop} {k:Nat} (h:k <0):P:=absurd h (PS k)
theorem nS {w:Int} {n:Nat} (h0:0≤w) (h1:w <(n:Int)):∃k:Nat,w=k∧k <n:=let ⟨k,e⟩:=Ql h0;⟨k,e,PC.mp (e▸h1)⟩
theorem ao {α:Type} {a:α} {P:Prop} (e:none=some a):P:=nomatch e
section
variable {x:V}
theorem zf:x.none?=true→x= .none:=
 V.casesOn (motive_1:=fun x=>x.none?=true→x= .none) x (fun _=>rfl) (fun _=>O3) (fun _=>O3) (fun _=>O3) (fun _=>O3) (fun _=>O3) (fun _ _=>O3) (fun _ _=>O3)
theorem cW {p:Int}:x.int?=some p→x= .int p:=
 V.casesOn (motive_1:=fun x=>x.int?=some p→x= .int p) x ao (fun _=>ao) (fun _=>fun e=>Nq e▸rfl) (fun _=>ao) (fun _=>ao) (fun _=>ao) (fun _ _=>ao) (fun _ _=>ao)
theorem dR {p:Sg}:x.str?=some p→x= .str p:=
 V.casesOn (motive_1:=fun x=>x.str?=some p→x= .str p) x ao (fun _=>ao) (fun _=>ao) (fun _=>fun e=>Nq e▸rfl) (fun _=>ao) (fun _=>ao) (fun _ _=>ao) (fun _ _=>ao)
theorem f7 {p:List V}:x.lst?=some p→x= .lst p:=
 V.casesOn (motive_1:=fun x=>x.lst?=some p→x= .lst p) x ao (fun _=>ao) (fun _=>ao) (fun _=>ao) (fun _=>ao) (fun _=>fun e=>Nq e▸rfl) (fun _ _=>ao) (fun _ _=>ao)
theorem kf {p:List V}:x.tup?=some p→x= .tup p:=
 V.casesOn (motive_1:=fun x=>x.tup?=some p→x= .tup p) x ao (fun _=>ao) (fun _=>ao) (fun _=>ao) (fun _=>fun e=>Nq e▸rfl) (fun _=>ao) (fun _ _=>ao) (fun _ _=>ao)
theorem mW {p:Bool}:x.bool?=some p→x= .bool p:=
 V.casesOn (motive_1:=fun x=>x.bool?=some p→x= .bool p) x ao (fun _=>fun e=>Nq e▸rfl) (fun _=>ao) (fun _=>ao) (fun _=>ao) (fun _=>ao) (fun _ _=>ao) (fun _ _=>ao)
theorem Bi {p:List Sg×List V}:x.dct?=some p→x= .dct p.1 p.2:=
 V.casesOn (motive_1:=fun x=>x.dct?=some p→x= .dct p.1 p.2) x ao (fun _=>ao) (fun _=>ao) (fun _=>ao) (fun _=>ao) (fun _=>ao) (fun _ _=>fun e=>Nq e▸rfl) (fun _ _=>ao)
theorem m5 {p:iJ×List V}:x.inst?=some p→x= .inst p.1 p.2:=
 V.casesOn (motive_1:=fun x=>x.inst?=some p→x= .inst p.1 p.2) x ao (fun _=>ao) (fun _=>ao) (fun _=>ao) (fun _=>ao) (fun _=>ao) (fun _ _=>ao) (fun _ _=>fun e=>Nq e▸rfl)
end
theorem bR {α:Type} {o:Nr α} {f:α→Bool} (h:o.any f=true):∃a,o=some a∧f a=true:=by
 cases o with
 |none=>cases h
 |some a=>exact ⟨a,rfl,h⟩
theorem ax {α:Type} {o:Nr α} {f:α→Bool} {P:Prop} (h:o.any f=true) (K:∀a,o=some a→f a=true→P):P:=let ⟨a,h1,h2⟩:=bR h;K a h1 h2
noncomputable def V.eqb (a:V):V→Bool:=V.rec (motive_1:=fun _=>V→Bool) (motive_2:=fun _=>List V→Bool) V.none? (fun x b=>b.bool?.any fun y=>decide (x=y)) (fun x b=>b.int?.any fun y=>decide (x=y)) (fun x b=>b.str?.any fun y=>decide (x=y)) (fun _ f b=>b.tup?.any f) (fun _ f b=>b.lst?.any f)
 (fun k _ f b=>b.dct?.any fun p=>decide (k=p.1)&&f p.2) (fun k _ f b=>b.inst?.any fun p=>decide (k=p.1)&&f p.2) List.isEmpty (fun _ _ f g l=>l.casesOn (motive:=fun _=>Bool) false fun y ys=>f y&&g ys) a
theorem Dh {a b:V}:a.eqb b=true→a=b:=
 V.rec (motive_1:=fun a=>∀b,a.eqb b=true→a=b) (motive_2:=fun l=>∀m:List V,(V.tup l).eqb (.tup m)=true→l=m) (fun _ h=>(zf h).symm)
  (fun _ _ h=>let ⟨_,e,q⟩:=bR h;(ND q)▸(mW e).symm) (fun _ _ h=>let ⟨_,e,q⟩:=bR h;(ND q)▸(cW e).symm) (fun _ _ h=>let ⟨_,e,q⟩:=bR h;(ND q)▸(dR e).symm)
  (fun _ f _ h=>let ⟨m,e,q⟩:=bR h;f m q▸(kf e).symm) (fun _ f _ h=>let ⟨m,e,q⟩:=bR h;f m q▸(f7 e).symm)
  (fun _ _ f _ h=>by
   refine ax h fun p e q=> ?_
   have q:=Nz.mp q
   rw [Bi e,ND q.1,f _ q.2]) (fun _ _ f _ h=>by
   refine ax h fun p e q=> ?_
   have q:=Nz.mp q
   rw [m5 e,ND q.1,f _ q.2]) (fun m h=>(Rt.mp h).symm) (fun _ _ f g m h=>by
   cases m with
   |nil=>cases h
   |cons y ys=>
    have q:=Nz.mp h
    rw [f y q.1,g ys q.2]) a b
theorem vc (a:V):a.eqb a=true:=
 V.rec (motive_1:=fun a=>a.eqb a=true) (motive_2:=fun l=>(V.tup l).eqb (.tup l)=true) rfl (fun _=>NF rfl) (fun _=>NF rfl) (fun _=>NF rfl) (fun _ h=>h) (fun _ h=>h)
  (fun _ _ h=>Nz.mpr ⟨NF rfl,h⟩) (fun _ _ h=>Nz.mpr ⟨NF rfl,h⟩) rfl (fun _ _ h g=>Nz.mpr ⟨h,g⟩) a
noncomputable instance:DecidableEq V:=fun a b=>decidable_of_decidable_of_iff ⟨Dh,fun e=>e▸vc a⟩
theorem EY (a b:V):decide (a=b)=a.eqb b:=by
 cases h:a.eqb b with
 |true=>exact NF (Dh h)
 |false=>exact N0 fun e=>by rw [e,vc] at h;cases h
noncomputable def V.dat (v:V):Bool:=V.rec (motive_1:=fun _=>Bool) (motive_2:=fun _=>Bool) true (fun _=>false) (fun _=>true) (fun _=>true) (fun _ b=>b) (fun _ b=>b) (fun _ _ _=>false) (fun _ _ _=>false) true (fun _ _ a b=>a&&b) v
noncomputable def V.dats (l:List V):Bool:=(V.tup l).dat
noncomputable def V.dep (v:V):Nat:=V.rec (motive_1:=fun _=>Nat) (motive_2:=fun _=>Nat) 0 (fun _=>0) (fun _=>0) (fun _=>0) (fun _ k=>k+1) (fun _ k=>k+1) (fun _ _ _=>0) (fun _ _ _=>0) 0 (fun _ _ a b=>max a b) v
noncomputable def V.deps (l:List V):Nat:=Nat.pred (V.tup l).dep
set_option genCtorIdx true in
inductive FM|add|sub|mul|fdiv|mod|pow|band|bxor|shr
 deriving DecidableEq
set_option genCtorIdx true in
inductive uQ|eq|ne|lt|le|gt|ge|in_|nin|is_|isnt
 deriving DecidableEq
set_option genCtorIdx true in
inductive Bf|len|list_|tuple_|dict_|str_|int_|all_|min_|max_
 deriving DecidableEq
set_option genCtorIdx true in
inductive Mf|startswith|split|append|pop|index|get
 deriving DecidableEq
set_option genCtorIdx true in
inductive kT|one (i:Nat)|two (i j:Nat)
 deriving DecidableEq
set_option genCtorIdx false
mutual
inductive CE where
 |cst (u:V)
 |neg (i:Int)
 |var (i:Nat)
 |glob (x:Sg)
 |tup (es:List CE)
 |lst (es:List CE)
 |dct0
 |attr (e:CE) (f:gV)
 |idx (e i:CE)
 |slc (e:CE) (lo hi:Nr CE)
 |rev (e:CE)
 |bin (o:FM) (l r:CE)
 |cmp (l:CE) (o:uQ) (r:CE)
 |cmp2 (a:CE) (o:uQ) (b:CE) (o':uQ) (c:CE)
 |and (es:List CE)
 |or (es:List CE)
 |not (e:CE)
 |ite (c a b:CE)
 |callF (f:Nat) (args:List CE)
 |mk (c:iJ) (args:List CE)
 |callB (b:Bf) (args:List CE)
 |callM (e:CE) (m:D7)
 |callS (m:Mf) (e:CE) (args:List CE)
 |comp (elt:CE) (gs:List CG)
 |stuck
inductive It where
 |seq (e:CE)
 |range (es:List CE)
 |enum (e:CE)
inductive CG where
 |mk (t:kT) (it:It) (ifs:List CE)
end
inductive CS where
 |assign (i:Nat) (e:CE)
 |own (i:Nat) (e:CE)
 |assignT (ts:List (Nat×Bool)) (es:List CE)
 |unpack (ts:List Nat) (e:CE)
 |setIdx (x:CE) (i:CE) (e:CE)
 |expr (e:CE)
 |ret (e:CE)
 |ite (c:CE) (a b:List CS)
 |for_ (t:kT) (it:It) (body:List CS)
 |while_ (c:CE) (body:List CS)
 |cont
 |raise_
 |try_ (body handler:List CS)
structure Fn where
 np:Nat
 dflts:List V
 size:Nat
 body:List CS
set_option genCtorIdx true in
inductive aA where
 |v (u:V)
 |own (u:V)
 |cell (k:Nat)
abbrev Loc:=List (Nr aA)
abbrev ag:=List V
set_option genCtorIdx true in
inductive fc where
 |next|cont|ret (U:aA)|exc
set_option genCtorIdx true in
inductive Ah where
 |ok (U:aA)|exc
structure Ev where
 e:CE→Loc→ag→Nr (aA×ag)
 s:CS→Loc→ag→Nr (fc×Loc×ag)
 c:Nat→List aA→ag→Nr (Ah×ag)
structure Aj where
 tab:Nat→Nr Fn
 meth:iJ→D7→Nr Nat
 glob:Sg→Nr Sg
 splits:Sg→Nr Sg→Nr (List Sg)
noncomputable def aA.toV:aA→Nr V
 | .v u=>some u
 | .own u=>some u
 | .cell _=>none
noncomputable def aA.bind:aA→aA
 | .own u=> .v u
 |U=>U
noncomputable def aA.deref (σ:ag):aA→Nr V
 | .v u=>some u
 | .own u=>some u
 | .cell k=>σ[k]?
noncomputable def aA.bool?:aA→Nr Bool
 | .v u=>u.bool?
 |_=>none
noncomputable def aA.cell?:aA→Nr Nat
 | .cell k=>some k
 |_=>none
noncomputable def aA.own?:aA→Nr V
 | .own u=>some u
 |_=>none
noncomputable def aA.plain?:aA→Nr aA
 | .v u=>some (.v u)
 | .own u=>some (.own u)
 | .cell _=>none
noncomputable def Ah.opd?:Ah→Nr aA
 | .ok U=>U.plain?
 | .exc=>none
noncomputable def fc.goes:fc→Bool
 | .next=>true
 |_=>false
noncomputable def fc.turns:fc→Bool
 | .next=>true
 | .cont=>true
 |_=>false
noncomputable def yS {β α:Type} (us:List β) (f:β→List β→Nr α):Nr α:=match us with
 |[]=>none
 |a::r=>f a r
noncomputable def one {β:Type} (us:List β):Nr β:=yS us fun a r=>match r with
 |[]=>some a
 |_::_=>none
noncomputable def two {β α:Type} (us:List β) (f:β→β→Nr α):Nr α:=yS us fun a r=>(one r).bind (f a)
noncomputable def Do {β:Type} (d:β) (us:List β):Nr β:=match us with
 |[]=>some d
 |_::_=>one us
noncomputable def cX (n:Nat):Bool:=decide (n≤16777216)
noncomputable def fZ (i:Int):Bool:=decide (i.natAbs <2^8192)
noncomputable def iJ.fields:iJ→List gV
 | .line=>[.labels,.instruction]
 | .ins=>[.name,.operands,.prefix_]
 | .reg=>[.kind,.register]
 | .imm=>[.kind,.worth,.name]
 | .rel=>[.kind,.worth,.name]
 | .register=>[.name,.kind,.number,.size]
noncomputable def Bp (fs:List gV) (vs:List V) (g:gV):Nr V:=List.rec (motive:=fun _=>List V→Nr V) (fun _=>none) (fun f _ ih vs=>yS vs fun v vs=>if f=g then some v else ih vs) fs vs
noncomputable def kW (u:V) (f:gV):Nr V:=u.inst?.bind fun p=>Bp p.1.fields p.2 f
noncomputable def fG:V→Nr (List V)
 | .tup us=>some us
 | .lst us=>some us
 |_=>none
noncomputable def iF (c:iJ) (us:List V):Nr V:=match c with
 | .line=>two us fun l i=>(fG l).map fun us=> .inst .line [.tup us,i]
 | .ins=>yS us fun n r=>yS r fun o r=>(Do (.str []) r).bind fun p=>(fG o).map fun us=> .inst .ins [n,.tup us,p]
 | .reg=>(one us).map fun r=> .inst .reg [.str [114,101,103],r]
 | .imm=>yS us fun w r=>(Do (.str []) r).map fun n=> .inst .imm [.str [105,109,109],w,n]
 | .rel=>two us fun w n=>some (.inst .rel [.str [114,101,108],w,n])
 | .register=>yS us fun n r=>yS r fun k r=>two r fun u z=>some (.inst .register [n,k,u,z])
noncomputable def lr (n:Nat) (i:Int):Nr Nat:=
 if 0≤i then (if i <n then some i.toNat else none) else if -(n:Int)≤i then some (i+n).toNat else none
noncomputable def f0:List Sg→List V→Sg→Nr V
 |[],_,_=>none
 |k::ks,vs,x=>yS vs fun v vs=>if k=x then some v else f0 ks vs x
noncomputable def eB:List Sg→List V→Sg→V→List Sg×List V
 |k::ks,v::vs,x,y=>if k=x then (k::ks,y::vs) else let r:=eB ks vs x y;(k::r.1,v::r.2)
 |_,_,x,y=>([x],[y])
noncomputable def Aq (us:List V) (k:V):Nr V:=k.int?.bind fun i=>(lr us.length i).bind fun k=>us[k]?
noncomputable def i3 (u k:V):Nr V:=match u with
 | .lst us=>Aq us k
 | .tup us=>Aq us k
 | .dct ks vs=>k.str?.bind fun x=>f0 ks vs x
 |_=>none
noncomputable def BE (n:Nat) (d:Nat) (x:Nr V):Nr Nat:=match x with
 |none=>some d
 |some v=>v.int?.map fun (i:Int)=>if 0≤i then min i.toNat n else (i+(n:Int)).toNat
noncomputable def i9 (u:V) (lo hi:Nr V):Nr V:=match u with
 | .lst us=>(BE us.length 0 lo).bind fun a=>(BE us.length us.length hi).map fun b=> .lst ((us.take b).drop a)
 | .str s=>if cX s.length then (BE s.length 0 lo).bind fun a=>(BE s.length s.length hi).map fun b=> .str ((s.take b).drop a) else none
 |_=>none
noncomputable def pd (f:Int→Int→Nr Int) (x y:V):Nr V:=x.int?.bind fun a=>y.int?.bind fun b=>(f a b).map .int
noncomputable def oJ (x y:V):Nr V:=match x with
 | .int a=>y.int?.map fun b=> .int (a+b)
 | .str a=>y.str?.bind fun b=>if cX (a.length+b.length) then some (.str (a++b)) else none
 | .lst a=>y.lst?.bind fun b=>if cX (a.length+b.length) then some (.lst (a++b)) else none
 | .tup a=>y.tup?.bind fun b=>if cX (a.length+b.length) then some (.tup (a++b)) else none
 |_=>none
noncomputable def oI (o:FM) (x y:V):Nr V:=match o with
 | .add=>oJ x y
 | .sub=>pd (fun a b=>some (a -b)) x y
 | .mul=>pd (fun a b=>if fZ a&&fZ b then some (a*b) else none) x y
 | .fdiv=>pd (fun a b=>if decide (b≠0)&&(fZ a&&fZ b) then some (a.fdiv b) else none) x y
 | .mod=>pd (fun a b=>if b≠0 then some (a.fmod b) else none) x y
 | .pow=>pd (fun a b=>if decide (0≤b)&&(decide (b≤1000)&&decide (a.natAbs <2^64)) then some (a^b.toNat) else none) x y
 | .band=>pd (fun a b=>some (Builtin.bitAnd a b)) x y
 | .bxor=>pd (fun a b=>some (Builtin.bitXor a b)) x y
 | .shr=>pd (fun a b=>if 0≤b then some (a.fdiv (2^b.toNat)) else none) x y
noncomputable def eU (s:Sg):Bool:=s.all (· <0x110000)
noncomputable def mF (a b:V):Bool:=(a.bool?.isSome&&b.bool?.isSome)||(a.dat&&b.dat&&(decide (a.dep≤60)&&decide (b.dep≤60)))
noncomputable def gY (a:V) (us:List V):Bool:=a.dat&&V.dats us&&(decide (a.dep≤60)&&decide (V.deps us≤60))
noncomputable def EA (a b:V):Nr Bool:=if mF a b then some (decide (a=b)) else none
noncomputable def As (f:Int→Int→Bool) (a b:V):Nr Bool:=a.int?.bind fun i=>b.int?.map fun j=>f i j
noncomputable def Dg (a b:V):Nr Bool:=match b with
 | .dct ks _=>a.str?.map fun x=>decide (x∈ks)
 | .lst us=>if gY a us then some (decide (a∈us)) else none
 | .tup us=>if gY a us then some (decide (a∈us)) else none
 |_=>none
noncomputable def FF (a b:V):Nr Bool:=match b with
 | .none=>some (decide (a= .none))
 |_=>none
noncomputable def gC (o:uQ) (a b:V):Nr Bool:=match o with
 | .eq=>EA a b
 | .ne=>(EA a b).map (!·)
 | .lt=>As (fun i j=>decide (i <j)) a b
 | .le=>As (fun i j=>decide (i≤j)) a b
 | .gt=>As (fun i j=>decide (j <i)) a b
 | .ge=>As (fun i j=>decide (j≤i)) a b
 | .in_=>Dg a b
 | .nin=>(Dg a b).map (!·)
 | .is_=>FF a b
 | .isnt=>(FF a b).map (!·)
noncomputable def kO (E:Ev):List CE→Loc→ag→Nr (List aA×ag)
 |[],_,σ=>some ([],σ)
 |e::es,ρ,σ=>(E.e e ρ σ).bind fun r=>(kO E es ρ r.2).bind fun q=>some (r.1::q.1,q.2)
noncomputable def toVs:List aA→Nr (List V)
 |[]=>some []
 |U::Us=>U.toV.bind fun u=>(toVs Us).bind fun us=>some (u::us)
noncomputable def nH (σ:ag) (Us:List aA):Nr (List V):=List.rec (motive:=fun _=>Nr (List V)) (some []) (fun U _ ih=>(U.deref σ).bind fun u=>ih.bind fun us=>some (u::us)) Us
noncomputable def jw (E:Ev) (es:List CE) (ρ:Loc) (σ:ag):Nr (List V×ag):=
 (kO E es ρ σ).bind fun r=>(toVs r.1).bind fun us=>some (us,r.2)
noncomputable def eO (E:Ev) (e:CE) (ρ:Loc) (σ:ag):Nr (V×ag):=
 (E.e e ρ σ).bind fun r=>r.1.toV.bind fun u=>some (u,r.2)
noncomputable def rL (E:Ev) (es:List CE) (ρ:Loc) (σ:ag):Nr (List V×ag):=
 (kO E es ρ σ).bind fun r=>(nH r.2 r.1).bind fun us=>some (us,r.2)
noncomputable def Fu (E:Ev) (e:Nr CE) (ρ:Loc) (σ:ag):Nr (Nr V×ag):=match e with
 |none=>some (none,σ)
 |some e=>(eO E e ρ σ).map fun r=>(some r.1,r.2)
noncomputable def cv (E:Ev) (e:CE) (ρ:Loc) (σ:ag):Nr (Bool×ag):=
 (E.e e ρ σ).bind fun r=>r.1.bool?.map fun b=>(b,r.2)
theorem zm {U:aA} {b:Bool} (e:U.bool?=some b):U= .v (.bool b):=by
 cases U with
 |v u=>exact NC aA.v (mW e)
 |own u=>cases e
 |cell k=>cases e
theorem jq {E:Ev} {ce:CE} {ρ:Loc} {σ:ag} {q:Bool×ag} (e:cv E ce ρ σ=some q):E.e ce ρ σ=some (.v (.bool q.1),q.2):=by
 obtain ⟨r,h1,h2⟩:=Py.mp e
 obtain ⟨b,h3,h4⟩:=Ra.mp h2
 rw [h1,←h4];exact NC some (Prod.ext (zm h3) rfl)
noncomputable def eW (E:Ev) (t:Bool) (es:List CE) (ρ:Loc) (σ:ag):Nr (Bool×ag):=List.rec (motive:=fun _=>ag→Nr (Bool×ag)) (fun _=>none) (fun e es ih σ=>(cv E e ρ σ).bind fun r=>if es.isEmpty|| !(r.1==t) then some r else ih r.2) es σ
noncomputable def iw (i:Int):Bool:=decide (i.natAbs <1099511627776)
noncomputable def jU (a b c:Int):Nr (List V):=
 if iw a&&iw b then
  if c=1 then some ((Pf (b -a).toNat).map fun (i:Nat)=>V.int (a+(i:Int)))
  else if c= -1 then some ((Pf (a -b).toNat).map fun (i:Nat)=>V.int (a -(i:Int)))
  else none
 else none
noncomputable def iA (us:List V):Nr (List V):=yS us fun a r=>a.int?.bind fun a=>match r with
 |[]=>jU 0 a 1
 |b::r=>b.int?.bind fun b=>(Do (.int 1) r).bind fun c=>c.int?.bind fun c=>jU a b c
noncomputable def jh (n:Nat) (vs:List V):List V:=List.rec (motive:=fun _=>Nat→List V) (fun _=>[]) (fun v _ ih n=> .tup [.int (n:Int),v]::ih (n+1)) vs n
noncomputable def po (ks:List Sg):List V:=ks.map .str
noncomputable def uo (u:V):Nr (List V):=match u with
 | .lst us=>some us
 | .tup us=>some us
 | .dct ks _=>some (po ks)
 |_=>none
noncomputable def dN (E:Ev) (it:It) (ρ:Loc) (σ:ag):Nr (List V×ag):=match it with
 | .seq e=>(eO E e ρ σ).bind fun r=>(uo r.1).map fun us=>(us,r.2)
 | .range es=>(jw E es ρ σ).bind fun r=>(iA r.1).map fun us=>(us,r.2)
 | .enum e=>(eO E e ρ σ).bind fun r=>r.1.lst?.map fun us=>(jh 0 us,r.2)
noncomputable def gT (t:kT) (x:V) (ρ:Loc):Nr Loc:=match t with
 | .one i=>some (ρ.set i (some (.v x)))
 | .two i j=>x.tup?.bind fun us=>two us fun a b=>some ((ρ.set i (some (.v a))).set j (some (.v b)))
noncomputable def jv (f:V→ag→Nr (List V×ag)) (xs:List V) (σ:ag):Nr (List V×ag):=List.rec (motive:=fun _=>ag→Nr (List V×ag)) (fun σ=>some ([],σ)) (fun x _ ih σ=>(f x σ).bind fun r=>(ih r.2).bind fun q=>some (r.1++q.1,q.2)) xs σ
noncomputable def GT (E:Ev) (es:List CE) (ρ:Loc) (σ:ag):Nr (Bool×ag):=List.rec (motive:=fun _=>ag→Nr (Bool×ag)) (fun σ=>some (true,σ)) (fun e _ ih σ=>(cv E e ρ σ).bind fun r=>if r.1 then ih r.2 else some (false,r.2)) es σ
noncomputable def GQ:kT→List Nat
 | .one i=>[i]
 | .two i j=>[i,j]
noncomputable def DB:List CG→List Nat
 |[]=>[]
 | .mk t _ _::gs=>GQ t++DB gs
noncomputable def qS:List Nat→Loc→Loc
 |[],ρ=>ρ
 |i::is,ρ=>qS is (ρ.set i none)
noncomputable def ji (E:Ev) (t:kT) (ifs:List CE) (rest:Loc→ag→Nr (List V×ag)) (ρ:Loc) (x:V) (σ:ag):Nr (List V×ag):=
 (gT t x ρ).bind fun ρ'=>(GT E ifs ρ' σ).bind fun r=>if r.1 then rest ρ' r.2 else some ([],r.2)
noncomputable def dZ (E:Ev) (elt:CE):List CG→Loc→ag→Nr (List V×ag)
 |[],ρ,σ=>(eO E elt ρ σ).map fun r=>([r.1],r.2)
 | .mk t it ifs::gs,ρ,σ=>(dN E it ρ σ).bind fun r=>jv (ji E t ifs (dZ E elt gs) (qS (GQ t++DB gs) ρ)) r.1 r.2
noncomputable def eK (n:Nat):Sg:=(Nat.toDigits 10 n).map Char.toNat
noncomputable def Hb (vs:List V):Nr Bool:=List.rec (motive:=fun _=>Nr Bool) (some true) (fun v _ ih=>v.bool?.bind fun b=>ih.map (b&& ·)) vs
noncomputable def ij (us:List V):Nr (List Sg×List V):=List.rec (motive:=fun _=>Nr (List Sg×List V)) (some ([],[])) (fun u _ ih=>u.tup?.bind fun p=>two p fun k v=>k.str?.bind fun k=>ih.map fun q=>(k::q.1,v::q.2)) us
noncomputable def j5 (ks:List Sg) (vs:List V):List Sg×List V:=
 (ks.zip vs).foldl (fun d kv=>eB d.1 d.2 kv.1 kv.2) ([],[])
noncomputable def Jy (u:V):Nr V:=match u with
 | .lst us=>some (.int us.length)
 | .tup us=>some (.int us.length)
 | .str s=>if cX s.length then some (.int s.length) else none
 |_=>none
noncomputable def Gc (u:V):Nr V:=match u with
 | .lst us=>some (.lst us)
 | .tup us=>some (.lst us)
 | .str s=>if cX s.length&&s.all (· <128) then some (.lst (s.map fun c=> .str [c])) else none
 | .dct ks _=>if cX ks.length then some (.lst (po ks)) else none
 |_=>none
noncomputable def G3 (us:List V):Nr V:=(ij us).bind fun q=>if cX q.1.length then some (.dct (j5 q.1 q.2).1 (j5 q.1 q.2).2) else none
noncomputable def vY (i:Int):Nr V:=if decide (0≤i)&&decide (i <10000000000) then some (.str (eK i.toNat)) else none
noncomputable def vO (b:Bf) (us:List V):Nr V:=match b with
 | .len=>(one us).bind Jy
 | .list_=>(one us).bind Gc
 | .tuple_=>(one us).bind fun u=>(fG u).map .tup
 | .dict_=>(one us).bind fun u=>u.lst?.bind G3
 | .str_=>(one us).bind fun u=>u.int?.bind vY
 | .int_=>(one us).bind fun u=>u.int?.map .int
 | .all_=>(one us).bind fun u=>u.lst?.bind fun us=>(Hb us).map .bool
 | .min_=>two us (pd fun a b=>some (if b <a then b else a))
 | .max_=>two us (pd fun a b=>some (if b>a then b else a))
noncomputable def ua (x:V) (ys:List V):Nr Nat:=List.rec (motive:=fun _=>Nr Nat) none (fun y _ ih=>if y=x then some 0 else ih.map (· +1)) ys
noncomputable def GO (P:Aj) (m:Mf) (u:V) (us:List V):Nr V:=match m with
 | .startswith=>u.str?.bind fun s=>(one us).bind fun t=>t.str?.map fun t=> .bool (t.isPrefixOf s)
 | .split=>u.str?.bind fun s=>match us with
  |[]=>(P.splits s none).map fun r=> .lst (r.map .str)
  |_::_=>(one us).bind fun t=>t.str?.bind fun t=>(P.splits s (some t)).map fun r=> .lst (r.map .str)
 | .index=>u.lst?.bind fun xs=>(one us).bind fun x=>x.str?.bind fun x=>if gY (.str x) xs then (ua (.str x) xs).map fun (k:Nat)=>V.int (k:Int) else none
 | .get=>match u with
  | .dct ks vs=>two us fun x d=>x.str?.map fun x=>(f0 ks vs x).getD d
  |_=>none
 | .append=>none
 | .pop=>none
noncomputable def xg (E:Ev) (ts:List (Nat×Bool)) (es:List CE) (ρ:Loc) (σ:ag):Nr (List aA×ag):=List.rec (motive:=fun _=>List CE→ag→Nr (List aA×ag)) (fun es σ=>if es.isEmpty then some ([],σ) else none)
 (fun t _ ih es σ=>yS es fun e es=>(E.e e ρ σ).bind fun r=>
   if t.2 then r.1.own?.bind fun u=>(ih es (r.2++[u])).map fun q=>(.cell r.2.length::q.1,q.2)
   else r.1.toV.bind fun u=>(ih es r.2).map fun q=>(.v u::q.1,q.2)) ts es σ
noncomputable def i6:List Nat→List aA→Loc→Loc
 |i::is,U::Us,ρ=>i6 is Us (ρ.set i (some U))
 |_,_,ρ=>ρ
abbrev tB:=Nr (fc×Loc×ag)
noncomputable def aH (E:Ev):List CS→Loc→ag→tB
 |[],ρ,σ=>some (.next,ρ,σ)
 |c::cs,ρ,σ=>(E.s c ρ σ).bind fun r=>if r.1.goes then aH E cs r.2.1 r.2.2 else some r
noncomputable def fm (body:V→Loc→ag→tB) (xs:List V) (ρ:Loc) (σ:ag):tB:=List.rec (motive:=fun _=>Loc→ag→tB) (fun ρ σ=>some (.next,ρ,σ)) (fun x _ ih ρ σ=>(body x ρ σ).bind fun r=>if r.1.turns then ih r.2.1 r.2.2 else some r) xs ρ σ
noncomputable def fW (test:Loc→ag→Nr (Bool×ag)) (body:Loc→ag→tB):Nat→Loc→ag→tB
 |0,_,_=>none
 |n+1,ρ,σ=>(test ρ σ).bind fun b=>if b.1 then (body ρ b.2).bind fun r=>if r.1.turns then fW test body n r.2.1 r.2.2 else some r
  else some (.next,ρ,b.2)
noncomputable def turns:Nat:=100000
noncomputable def eM:List aA→List Nat
 |[]=>[]
 | .cell k::Us=>k::eM Us
 | .v _::Us=>eM Us
 | .own _::Us=>eM Us
noncomputable def renum:Nat→List aA→List aA
 |_,[]=>[]
 |j,.cell _::Us=> .cell j::renum (j+1) Us
 |j,.v u::Us=> .v u::renum j Us
 |j,.own u::Us=> .own u::renum j Us
noncomputable def vZ (σ:ag) (ks:List Nat):Nr ag:=List.rec (motive:=fun _=>Nr ag) (some []) (fun k _ ih=>(σ[k]?).bind fun u=>ih.map fun us=>u::us) ks
noncomputable def pG (ks:List Nat) (us σ:ag):ag:=List.rec (motive:=fun _=>ag→ag→ag) (fun _ σ=>σ) (fun k _ ih us σ=>match us with
  |[]=>σ
  |u::us=>ih us (σ.set k u)) ks us σ
noncomputable def cS (E:Ev) (f:Nat) (Us:List aA) (σ:ag):Nr (Ah×ag):=
 if (eM Us).Nodup then (vZ σ (eM Us)).bind fun us=>(E.c f (renum 0 Us) us).map fun r=>(r.1,pG (eM Us) r.2 σ) else none
noncomputable def ky (E:Ev) (e:CE) (args:List CE) (ρ:Loc) (σ:ag):Nr (aA×ag):=
 (one args).bind fun a=>(E.e e ρ σ).bind fun r=>r.1.cell?.bind fun k=>((r.2[k]?).bind V.lst?).bind fun _=>(eO E a ρ r.2).bind fun q=>((q.2[k]?).bind V.lst?).bind fun us=>
  if cX (us.length+1) then some (.v .none,q.2.set k (.lst (us++[q.1]))) else none
noncomputable def EJ (E:Ev) (e:CE) (args:List CE) (ρ:Loc) (σ:ag):Nr (aA×ag):=
 if args.isEmpty then (E.e e ρ σ).bind fun r=>r.1.cell?.bind fun k=>((r.2[k]?).bind V.lst?).bind fun us=>us.getLast?.map fun x=>(.v x,r.2.set k (.lst us.dropLast)) else none
noncomputable def pP (P:Aj) (E:Ev) (m:Mf) (e:CE) (args:List CE) (ρ:Loc) (σ:ag):Nr (aA×ag):=
 (E.e e ρ σ).bind fun r=>(r.1.deref r.2).bind fun u=>(jw E args ρ r.2).bind fun q=>if r.1.deref q.2=some u then (GO P m u q.1).map fun v=>(.v v,q.2) else none
noncomputable def dT (P:Aj) (E:Ev) (ce:CE) (ρ:Loc) (σ:ag):Nr (aA×ag):=match ce with
 | .cst u=>some (.v u,σ)
 | .neg i=>some (.v (.int (-i)),σ)
 | .var i=>ρ[i]?.join.map fun U=>(U,σ)
 | .glob x=>(P.glob x).map fun s=>(.v (.str s),σ)
 | .tup es=>(jw E es ρ σ).bind fun r=>if cX r.1.length then some (.v (.tup r.1),r.2) else none
 | .lst es=>(jw E es ρ σ).bind fun r=>if cX r.1.length then some (.own (.lst r.1),r.2) else none
 | .dct0=>some (.own (.dct [] []),σ)
 | .attr e f=>(eO E e ρ σ).bind fun r=>(kW r.1 f).map fun v=>(.v v,r.2)
 | .idx e i=>(rL E [e,i] ρ σ).bind fun r=>(two r.1 i3).map fun v=>(.v v,r.2)
 | .slc e lo hi=>(eO E e ρ σ).bind fun r=>(Fu E lo ρ r.2).bind fun a=>(Fu E hi ρ a.2).bind fun b=>(i9 r.1 a.1 b.1).map fun v=>(.v v,b.2)
 | .rev e=>(eO E e ρ σ).bind fun r=>r.1.lst?.map fun us=>(.v (.lst us.reverse),r.2)
 | .bin o l r=>(jw E [l,r] ρ σ).bind fun r=>(two r.1 (oI o)).map fun v=>(.v v,r.2)
 | .cmp l o r=>(rL E [l,r] ρ σ).bind fun r=>(two r.1 (gC o)).map fun v=>(.v (.bool v),r.2)
 | .cmp2 a o b o' c=>(jw E [a,b] ρ σ).bind fun r=>two r.1 fun x y=>(gC o x y).bind fun v=>if v then (eO E c ρ r.2).bind fun q=>(gC o' y q.1).map fun v=>(.v (.bool v),q.2) else some (.v (.bool false),r.2)
 | .and es=>(eW E true es ρ σ).map fun r=>(.v (.bool r.1),r.2)
 | .or es=>(eW E false es ρ σ).map fun r=>(.v (.bool r.1),r.2)
 | .not e=>(cv E e ρ σ).map fun r=>(.v (.bool !r.1),r.2)
 | .ite c a b=>(cv E c ρ σ).bind fun r=>E.e (if r.1 then a else b) ρ r.2
 | .callF f args=>(kO E args ρ σ).bind fun r=>(cS E f (r.1.map aA.bind) r.2).bind fun q=>q.1.opd?.map fun U=>(U,q.2)
 | .mk c args=>(jw E args ρ σ).bind fun r=>(iF c r.1).map fun v=>(.v v,r.2)
 | .callB b args=>(rL E args ρ σ).bind fun r=>(vO b r.1).map fun v=>(.v v,r.2)
 | .callM e m=>(eO E e ρ σ).bind fun r=>r.1.inst?.bind fun p=>(P.meth p.1 m).bind fun f=>(E.c f [.v r.1] []).bind fun q=>q.1.opd?.map fun U=>(U,r.2)
 | .callS m e args=>match m with
  | .append=>ky E e args ρ σ
  | .pop=>EJ E e args ρ σ
  | .startswith=>pP P E .startswith e args ρ σ
  | .split=>pP P E .split e args ρ σ
  | .index=>pP P E .index e args ρ σ
  | .get=>pP P E .get e args ρ σ
 | .comp elt gs=>(dZ E elt gs ρ σ).bind fun r=>if cX r.1.length then some (.own (.lst r.1),r.2) else none
 | .stuck=>none
noncomputable def AV (w k x:V):Nr V:=match w with
 | .lst us=>k.int?.bind fun i=>if decide (0≤i)&&decide (i <us.length) then some (.lst (us.set i.toNat x)) else none
 | .dct ks vs=>k.str?.bind fun k=>if cX ks.length then some (.dct (eB ks vs k x).1 (eB ks vs k x).2) else none
 |_=>none
noncomputable def CE.view (e:CE):Nr (Bool×Nat×List CE×CE×List CG):=CE.casesOn (motive_1:=fun _=>Nr (Bool×Nat×List CE×CE×List CG)) e (fun _=>none) (fun _=>none) (fun _=>none) (fun _=>none) (fun _=>none) (fun _=>none) none (fun _ _=>none) (fun _ _=>none) (fun _ _ _=>none) (fun _=>none) (fun _ _ _=>none) (fun _ _ _=>none) (fun _ _ _ _ _=>none) (fun _=>none) (fun _=>none) (fun _=>none) (fun _ _ _=>none) (fun a b=>some (false,a,b,.stuck,[])) (fun _ _=>none) (fun _ _=>none) (fun _ _=>none) (fun _ _ _=>none) (fun a b=>some (true,0,[],a,b)) none
theorem CE.view_inv (e:CE) (q:Bool×Nat×List CE×CE×List CG):e.view=some q→e=if q.1 then .comp q.2.2.2.1 q.2.2.2.2 else .callF q.2.1 q.2.2.1:=CE.casesOn (motive_1:=fun e=>e.view=some q→e=if q.1 then .comp q.2.2.2.1 q.2.2.2.2 else .callF q.2.1 q.2.2.1) e (fun _=>ao) (fun _=>ao) (fun _=>ao) (fun _=>ao) (fun _=>ao) (fun _=>ao) ao (fun _ _=>ao) (fun _ _=>ao) (fun _ _ _=>ao) (fun _=>ao) (fun _ _ _=>ao) (fun _ _ _=>ao) (fun _ _ _ _ _=>ao) (fun _=>ao) (fun _=>ao) (fun _=>ao) (fun _ _ _=>ao) (fun _ _ h=>Nq h▸rfl) (fun _ _=>ao) (fun _ _=>ao) (fun _ _=>ao) (fun _ _ _=>ao) (fun _ _ h=>Nq h▸rfl) ao
noncomputable def CE.comp? (e:CE):Nr (CE×List CG):=e.view.bind fun q=>if q.1 then some q.2.2.2 else none
noncomputable def CE.callF? (e:CE):Nr (Nat×List CE):=e.view.bind fun q=>if q.1 then none else some (q.2.1,q.2.2.1)
theorem wx {e:CE} {q:Nat×List CE} (h:e.callF?=some q):e= .callF q.1 q.2:=by
 let ⟨p,h1,h2⟩:=Py.mp h
 obtain ⟨_|_,p⟩:=p
 ·exact Nq h2▸CE.view_inv e _ h1
 ·cases h2
theorem rI {e:CE} {q:CE×List CG} (h:e.comp?=some q):e= .comp q.1 q.2:=by
 let ⟨p,h1,h2⟩:=Py.mp h
 obtain ⟨_|_,p⟩:=p
 ·cases h2
 ·exact Nq h2▸CE.view_inv e _ h1
theorem aM {c:Prop} [SI c] {α:Type} {f:c→α} {q:α} (h:(if k:c then some (f k) else none)=some q):∃k,f k=q:=by
 by_cases k:c
 ·rw [dif_pos k] at h;exact ⟨k,Nq h⟩
 ·rw [dif_neg k] at h;cases h
noncomputable def sQ (E:Ev) (i:Nat) (p:CE×List CG) (ρ:Loc) (σ:ag):tB:=(dZ E p.1 p.2 ρ σ).bind fun r=>if cX r.1.length then some (.next,ρ.set i (some (.v (.lst r.1))),r.2) else none
noncomputable def Ke (E:Ev) (i:Nat) (p:CE×List CG) (ρ:Loc) (σ:ag):tB:=(dZ E p.1 p.2 ρ σ).bind fun r=>if cX r.1.length then some (.next,ρ.set i (some (.cell r.2.length)),r.2++[.lst r.1]) else none
noncomputable def sX (E:Ev) (i:Nat) (e:CE) (ρ:Loc) (σ:ag):tB:=(eO E e ρ σ).bind fun r=>some (.next,ρ.set i (some (.v r.1)),r.2)
noncomputable def Hi (E:Ev) (i:Nat) (e:CE) (ρ:Loc) (σ:ag):tB:=(E.e e ρ σ).bind fun r=>r.1.own?.map fun u=>(.next,ρ.set i (some (.cell r.2.length)),r.2++[u])
noncomputable def xO (E:Ev) (p:Nat×List CE) (ρ:Loc) (σ:ag):tB:=(kO E p.2 ρ σ).bind fun r=>(cS E p.1 (r.1.map aA.bind) r.2).bind fun q=>some (match q.1 with| .ok _=> .next| .exc=> .exc,ρ,q.2)
noncomputable def dU (_P:Aj) (E:Ev) (cs:CS) (ρ:Loc) (σ:ag):tB:=match cs with
 | .assign i e=>match e.comp? with
  |some p=>sQ E i p ρ σ
  |none=>sX E i e ρ σ
 | .own i e=>match e.comp? with
  |some p=>Ke E i p ρ σ
  |none=>Hi E i e ρ σ
 | .assignT ts es=>(xg E ts es ρ σ).bind fun r=>some (.next,i6 (ts.map (·.1)) r.1 ρ,r.2)
 | .unpack ts e=>(eO E e ρ σ).bind fun r=>r.1.tup?.bind fun us=>if us.length=ts.length then some (.next,i6 ts (us.map aA.v) ρ,r.2) else none
 | .setIdx x i e=>(eO E e ρ σ).bind fun u=>(E.e x ρ u.2).bind fun X=>(eO E i ρ X.2).bind fun k=>X.1.cell?.bind fun c=>(k.2[c]?).bind fun w=>(AV w k.1 u.1).map fun w=>(.next,ρ,k.2.set c w)
 | .expr e=>match e.callF? with
  |some p=>xO E p ρ σ
  |none=>(E.e e ρ σ).bind fun r=>some (.next,ρ,r.2)
 | .ret e=>(E.e e ρ σ).bind fun r=>some (.ret r.1,ρ,r.2)
 | .ite c a b=>(cv E c ρ σ).bind fun r=>aH E (if r.1 then a else b) ρ r.2
 | .for_ t it body=>(dN E it ρ σ).bind fun r=>fm (fun x ρ σ=>(gT t x ρ).bind fun ρ=>aH E body ρ σ) r.1 ρ r.2
 | .while_ c body=>fW (cv E c) (aH E body) turns ρ σ
 | .cont=>some (.cont,ρ,σ)
 | .raise_=>some (.exc,ρ,σ)
 | .try_ _ _=>none
noncomputable def back (n:Nat) (U:aA) (σ:ag):Nr (Ah×ag):=match U with
 | .cell k=>if k <n then none else (σ[k]?).map fun u=>(.ok (.own u),σ.take n)
 | .v u=>some (.ok (.v u),σ.take n)
 | .own u=>some (.ok (.own u),σ.take n)
noncomputable def gA (fn:Fn) (args:List aA):Loc:=(args++(fn.dflts.drop (fn.dflts.length -(fn.np -args.length))).map aA.v).map some++TA (fn.size -fn.np) none
noncomputable def Kf (P:Aj) (E:Ev) (f:Nat) (args:List aA) (σ:ag):Nr (Ah×ag):=
 (P.tab f).bind fun fn=>
  if decide (args.length≤fn.np)&&decide (fn.np≤args.length+fn.dflts.length) then
   (aH E fn.body (gA fn args) σ).bind fun r=>match r.1 with
    | .next=>some (.ok (.v .none),r.2.2.take σ.length)
    | .ret U=>back σ.length U r.2.2
    | .exc=>some (.exc,r.2.2.take σ.length)
    | .cont=>none
  else none
noncomputable def step (P:Aj) (E:Ev):Ev:={e:=dT P E,s:=dU P E,c:=Kf P E}
noncomputable def Nc:Ev:={e:=fun _ _ _=>none,s:=fun _ _ _=>none,c:=fun _ _ _=>none}
noncomputable def run (P:Aj):Nat→Ev
 |0=>Nc
 |n+1=>step P (run P n)
end
end
section
open PySem
noncomputable def lz:Fn:={np:=0,dflts:=[],size:=0,body:=
 [.ret (.callS .split (.glob [67,79,78,68,73,84,73,79,78,83]) [(.cst (.str [32]))])]}
noncomputable def kK:Fn:={np:=1,dflts:=[],size:=1,body:=
 [.ite (.cmp (.var 0) .nin (.callF 0 []))
  [.raise_]
  [],
 .ret (.callS .index (.callF 0 []) [(.var 0)])]}
noncomputable def vf:Fn:={np:=1,dflts:=[],size:=1,body:=
 [.ret (.idx (.callF 0 []) (.bin .bxor (.callF 1 [(.var 0)]) (.cst (.int 1))))]}
noncomputable def oM:Fn:={np:=1,dflts:=[],size:=2,body:=
 [.for_ (.one 1) (.seq (.tup [(.cst (.str [106])),(.cst (.str [115,101,116])),(.cst (.str [99,109,111,118]))]))
  [.ite (.and [(.callS .startswith (.var 0) [(.var 1)]),(.cmp (.slc (.var 0) (some (.callB .len [(.var 1)])) none) .in_ (.callF 0 []))])
   [.ret (.slc (.var 0) (some (.callB .len [(.var 1)])) none)]
   []],
 .ret (.cst (.str []))]}
noncomputable def qR:Fn:={np:=1,dflts:=[],size:=1,body:=
 [.ite (.cmp (.var 0) .eq (.cst (.str [106,109,112])))
  [.ret (.cst (.str [106,117,109,112]))]
  [],
 .ite (.cmp (.var 0) .in_ (.tup [(.cst (.str [108,111,111,112])),(.cst (.str [108,111,111,112,101])),(.cst (.str [108,111,111,112,110,101])),(.cst (.str [106,114,99,120,122]))]))
  [.ret (.cst (.str [98,114,97,110,99,104]))]
  [],
 .ite (.and [(.callS .startswith (.var 0) [(.cst (.str [106]))]),(.cmp (.callF 3 [(.var 0)]) .ne (.cst (.str [])))])
  [.ret (.cst (.str [98,114,97,110,99,104]))]
  [],
 .ite (.cmp (.var 0) .eq (.cst (.str [99,97,108,108])))
  [.ret (.cst (.str [99,97,108,108]))]
  [],
 .ite (.cmp (.var 0) .eq (.cst (.str [114,101,116])))
  [.ret (.cst (.str [114,101,116,117,114,110]))]
  [],
 .ite (.cmp (.var 0) .in_ (.tup [(.cst (.str [104,108,116])),(.cst (.str [117,100,50]))]))
  [.ret (.cst (.str [115,116,111,112]))]
  [],
 .ret (.cst (.str [111,110]))]}
noncomputable def p5:Fn:={np:=1,dflts:=[],size:=2,body:=
 [.ite (.cmp (.var 0) .isnt (.cst .none))
  [.for_ (.one 1) (.seq (.attr (.var 0) .operands))
   [.ite (.cmp (.attr (.var 1) .kind) .eq (.cst (.str [114,101,108])))
    [.ret (.attr (.var 1) .name)]
    []]]
  [],
 .ret (.cst (.str []))]}
noncomputable def md:Fn:={np:=1,dflts:=[],size:=1,body:=
 [.ite (.or [(.cmp (.var 0) .is_ (.cst .none)),(.cmp (.slc (.attr (.var 0) .name) none (some (.cst (.int 1)))) .ne (.cst (.str [106])))])
  [.ret (.cst (.str []))]
  [],
 .ret (.callF 3 [(.attr (.var 0) .name)])]}
noncomputable def wO:Fn:={np:=1,dflts:=[],size:=1,body:=
 [.ret (.and [(.cmp (.var 0) .isnt (.cst .none)),(.cmp (.attr (.var 0) .name) .eq (.cst (.str [106,109,112]))),(.cmp (.callF 5 [(.var 0)]) .ne (.cst (.str [])))])]}
noncomputable def I6:Fn:={np:=2,dflts:=[],size:=2,body:=
 [.ret (.mk .ins [(.attr (.var 0) .name),(.lst [(.mk .rel [(.cst (.int 0)),(.var 1)])]),(.attr (.var 0) .prefix_)])]}
noncomputable def Ay:Fn:={np:=1,dflts:=[],size:=1,body:=
 [.ret (.cmp (.callF 4 [(.attr (.var 0) .name)]) .in_ (.tup [(.cst (.str [111,110])),(.cst (.str [98,114,97,110,99,104])),(.cst (.str [99,97,108,108]))]))]}
noncomputable def jL:Fn:={np:=1,dflts:=[],size:=5,body:=
 [.own 1 .dct0,
 .for_ (.two 2 3) (.enum (.var 0))
  [.for_ (.one 4) (.seq (.attr (.var 3) .labels))
   [.ite (.cmp (.var 4) .in_ (.var 1))
    [.raise_]
    [],
   .setIdx (.var 1) (.var 4) (.var 2)]],
 .ret (.var 1)]}
noncomputable def aU:Fn:={np:=1,dflts:=[],size:=4,body:=
 [.ite (.or [(.cmp (.callB .len [(.var 0)]) .eq (.cst (.int 0))),(.cmp (.attr (.idx (.var 0) (.neg 1)) .instruction) .isnt (.cst .none))])
  [.raise_]
  [],
 .for_ (.one 1) (.seq (.slc (.var 0) none (some (.neg 1))))
  [.ite (.cmp (.attr (.var 1) .instruction) .is_ (.cst .none))
   [.raise_]
   [],
  .for_ (.one 2) (.seq (.attr (.attr (.var 1) .instruction) .operands))
   [.ite (.and [(.cmp (.attr (.var 2) .kind) .eq (.cst (.str [114,101,108]))),(.or [(.cmp (.attr (.var 2) .name) .eq (.cst (.str []))),(.cmp (.attr (.var 2) .worth) .ne (.cst (.int 0)))])])
    [.raise_]
    [],
   .ite (.and [(.cmp (.attr (.var 2) .kind) .eq (.cst (.str [109,101,109]))),.stuck,(.cmp (.attr (.var 2) .name) .eq (.cst (.str [])))])
    [.raise_]
    []]],
 .assign 3 (.callF 10 [(.var 0)]),
 .for_ (.one 1) (.seq (.slc (.var 0) none (some (.neg 1))))
  [.for_ (.one 2) (.seq (.attr (.attr (.var 1) .instruction) .operands))
   [.ite (.and [(.cmp (.callM (.var 2) .symbol) .in_ (.var 3)),(.cmp (.attr (.var 2) .worth) .ne (.cst (.int 0)))])
    [.raise_]
    []]]]}
noncomputable def um:Fn:={np:=1,dflts:=[],size:=2,body:=
 [.assign 1 (.idx (.callS .split (.glob [65,84,79,77,83]) []) (.bin .shr (.callF 1 [(.var 0)]) (.cst (.int 1)))),
 .ret (.ite (.cmp (.var 1) .in_ (.tup [(.cst (.str [98,101])),(.cst (.str [108,101]))])) (.callB .list_ [(.var 1)]) (.lst [(.var 1)]))]}
noncomputable def wc:Fn:={np:=2,dflts:=[],size:=5,body:=
 [.ite (.cmp (.bin .band (.bin .bxor (.callF 1 [(.var 0)]) (.callF 1 [(.var 1)])) (.cst (.int 1))) .eq (.cst (.int 1)))
  [.ret (.cst (.bool false))]
  [],
 .assignT [(2,false),(3,false)] [(.callF 12 [(.var 1)]),(.callF 12 [(.var 0)])],
 .ite (.cmp (.bin .band (.callF 1 [(.var 0)]) (.cst (.int 1))) .eq (.cst (.int 1)))
  [.assignT [(2,false),(3,false)] [(.var 3),(.var 2)]]
  [],
 .ret (.callB .all_ [(.comp (.cmp (.var 4) .in_ (.var 2)) [(.mk (.one 4) (.seq (.var 3)) [])])])]}
noncomputable def tW:Fn:={np:=2,dflts:=[],size:=2,body:=
 [.ite (.or [(.cmp (.var 0) .eq (.cst (.str []))),(.cmp (.var 1) .eq (.cst (.str [])))])
  [.ret (.neg 1)]
  [],
 .ite (.callF 13 [(.var 0),(.var 1)])
  [.ret (.cst (.int 1))]
  [],
 .ret (.ite (.callF 13 [(.var 0),(.callF 2 [(.var 1)])]) (.cst (.int 0)) (.neg 1))]}
noncomputable def nW:Fn:={np:=3,dflts:=[],size:=4,body:=
 [.own 3 (.lst []),
 .while_ (.and [(.cmp (.var 2) .nin (.var 3)),(.callF 7 [(.attr (.idx (.var 0) (.var 2)) .instruction)]),(.cmp (.callF 5 [(.attr (.idx (.var 0) (.var 2)) .instruction)]) .in_ (.var 1))])
  [.expr (.callS .append (.var 3) [(.var 2)]),
  .assign 2 (.idx (.var 1) (.callF 5 [(.attr (.idx (.var 0) (.var 2)) .instruction)]))],
 .ret (.var 2)]}
noncomputable def oB:Fn:={np:=4,dflts:=[],size:=7,body:=
 [.assignT [(4,true),(2,false)] [(.lst []),(.callF 15 [(.var 0),(.var 1),(.var 2)])],
 .while_ (.cmp (.var 2) .nin (.var 4))
  [.expr (.callS .append (.var 4) [(.var 2)]),
  .assign 5 (.attr (.idx (.var 0) (.var 2)) .instruction),
  .assign 6 (.callF 14 [(.var 3),(.callF 6 [(.var 5)])]),
  .ite (.and [(.cmp (.var 6) .eq (.cst (.int 1))),(.cmp (.callF 5 [(.var 5)]) .in_ (.var 1))])
   [.assign 2 (.callF 15 [(.var 0),(.var 1),(.idx (.var 1) (.callF 5 [(.var 5)]))])]
   [.ite (.cmp (.var 6) .eq (.cst (.int 0)))
    [.assign 2 (.callF 15 [(.var 0),(.var 1),(.bin .add (.var 2) (.cst (.int 1)))])]
    [.ret (.var 2)]]],
 .ret (.var 2)]}
noncomputable def ja:Fn:={np:=3,dflts:=[],size:=7,body:=
 [.ite (.cmp (.callB .len [(.attr (.idx (.var 0) (.var 1)) .labels)]) .gt (.cst (.int 0)))
  [.ret (.tup [(.var 0),(.idx (.attr (.idx (.var 0) (.var 1)) .labels) (.cst (.int 0)))])]
  [],
 .assignT [(3,false),(4,false)] [(.bin .add (.bin .add (.callB .list_ [(.var 2)]) (.callB .list_ [(.callF 10 [(.var 0)])])) (.callF 19 [(.var 0)])),(.cst (.int 1))],
 .assign 3 (.bin .add (.var 3) (.comp (.callF 5 [(.attr (.var 6) .instruction)]) [(.mk (.one 6) (.seq (.var 0)) [])])),
 .while_ (.cmp (.bin .add (.cst (.str [48,116])) (.callB .str_ [(.var 4)])) .in_ (.var 3))
  [.assign 4 (.bin .add (.var 4) (.cst (.int 1)))],
 .assign 5 (.bin .add (.cst (.str [48,116])) (.callB .str_ [(.var 4)])),
 .ret (.tup [(.bin .add (.bin .add (.slc (.var 0) none (some (.var 1))) (.lst [(.mk .line [(.lst [(.var 5)]),(.attr (.idx (.var 0) (.var 1)) .instruction)])])) (.slc (.var 0) (some (.bin .add (.var 1) (.cst (.int 1)))) none)),(.var 5)])]}
noncomputable def kZ:Fn:={np:=2,dflts:=[],size:=9,body:=
 [.for_ (.one 2) (.range [(.bin .sub (.callB .len [(.var 0)]) (.cst (.int 1)))])
  [.assignT [(3,false),(4,false)] [(.attr (.idx (.var 0) (.var 2)) .instruction),(.callF 10 [(.var 0)])],
  .assign 5 (.callF 6 [(.var 3)]),
  .ite (.or [(.cmp (.callF 5 [(.var 3)]) .nin (.var 4)),(.not (.or [(.cmp (.attr (.var 3) .name) .in_ (.tup [(.cst (.str [106,109,112])),(.cst (.str [99,97,108,108]))])),(.cmp (.var 5) .ne (.cst (.str [])))]))])
   [.cont]
   [],
  .assign 6 (.idx (.var 4) (.callF 5 [(.var 3)])),
  .assign 7 (.callF 16 [(.var 0),(.var 4),(.var 6),(.var 5)]),
  .ite (.cmp (.var 7) .ne (.var 6))
   [.unpack [0,8] (.callF 17 [(.var 0),(.var 7),(.var 1)]),
   .assign 0 (.bin .add (.bin .add (.slc (.var 0) none (some (.var 2))) (.lst [(.mk .line [(.attr (.idx (.var 0) (.var 2)) .labels),(.callF 8 [(.var 3),(.var 8)])])])) (.slc (.var 0) (some (.bin .add (.var 2) (.cst (.int 1)))) none))]
   []],
 .ret (.var 0)]}
noncomputable def ir:Fn:={np:=1,dflts:=[],size:=4,body:=
 [.own 1 (.lst []),
 .for_ (.one 2) (.seq (.slc (.var 0) none (some (.neg 1))))
  [.for_ (.one 3) (.seq (.attr (.attr (.var 2) .instruction) .operands))
   [.ite (.and [(.cmp (.attr (.var 3) .kind) .ne (.cst (.str [114,101,108]))),(.cmp (.callM (.var 3) .symbol) .ne (.cst (.str [])))])
    [.expr (.callS .append (.var 1) [(.callM (.var 3) .symbol)])]
    []]],
 .ret (.var 1)]}
noncomputable def j7:Fn:={np:=2,dflts:=[],size:=6,body:=
 [.assign 2 (.bin .add (.bin .add (.callB .list_ [(.var 1)]) (.callF 19 [(.var 0)])) (.comp (.callF 5 [(.attr (.var 3) .instruction)]) [(.mk (.one 3) (.seq (.var 0)) [])])),
 .ret (.comp (.mk .line [(.comp (.var 5) [(.mk (.one 5) (.seq (.attr (.var 4) .labels)) [(.cmp (.var 5) .in_ (.var 2))])]),(.attr (.var 4) .instruction)]) [(.mk (.one 4) (.seq (.var 0)) [])])]}
noncomputable def pq:Fn:={np:=2,dflts:=[],size:=9,body:=
 [.assign 2 (.callF 10 [(.var 0)]),
 .assignT [(3,true),(4,true)] [(.comp (.cst (.bool false)) [(.mk (.one 8) (.seq (.var 0)) [])]),(.lst [(.cst (.int 0))])],
 .for_ (.one 5) (.seq (.bin .add (.callB .list_ [(.var 1)]) (.callF 19 [(.var 0)])))
  [.ite (.cmp (.var 5) .in_ (.var 2))
   [.expr (.callS .append (.var 4) [(.idx (.var 2) (.var 5))])]
   []],
 .while_ (.cmp (.callB .len [(.var 4)]) .gt (.cst (.int 0)))
  [.assign 6 (.callS .pop (.var 4) []),
  .ite (.idx (.var 3) (.var 6))
   [.cont]
   [],
  .setIdx (.var 3) (.var 6) (.cst (.bool true)),
  .assign 7 (.attr (.idx (.var 0) (.var 6)) .instruction),
  .ite (.cmp (.var 7) .is_ (.cst .none))
   [.cont]
   [],
  .ite (.cmp (.callF 5 [(.var 7)]) .in_ (.var 2))
   [.expr (.callS .append (.var 4) [(.idx (.var 2) (.callF 5 [(.var 7)]))])]
   [],
  .ite (.callF 9 [(.var 7)])
   [.expr (.callS .append (.var 4) [(.bin .add (.var 6) (.cst (.int 1)))])]
   []],
 .ret (.var 3)]}
noncomputable def jO:Fn:={np:=2,dflts:=[],size:=5,body:=
 [.assign 2 (.callF 21 [(.var 0),(.var 1)]),
 .ret (.comp (.var 4) [(.mk (.two 3 4) (.enum (.var 0)) [(.or [(.idx (.var 2) (.var 3)),(.cmp (.attr (.var 4) .instruction) .is_ (.cst .none))])])])]}
noncomputable def pQ:Fn:={np:=2,dflts:=[],size:=3,body:=
 [.assign 2 (.idx (.var 0) (.bin .add (.var 1) (.cst (.int 1)))),
 .ret (.bin .add (.bin .add (.slc (.var 0) none (some (.var 1))) (.lst [(.mk .line [(.bin .add (.attr (.idx (.var 0) (.var 1)) .labels) (.attr (.var 2) .labels)),(.attr (.var 2) .instruction)])])) (.slc (.var 0) (some (.bin .add (.var 1) (.cst (.int 2)))) none))]}
noncomputable def gy:Fn:={np:=1,dflts:=[],size:=3,body:=
 [.for_ (.one 1) (.range [(.bin .sub (.callB .len [(.var 0)]) (.cst (.int 2))),(.neg 1),(.neg 1)])
  [.assign 2 (.attr (.idx (.var 0) (.var 1)) .instruction),
  .ite (.cmp (.callF 5 [(.var 2)]) .nin (.attr (.idx (.var 0) (.bin .add (.var 1) (.cst (.int 1)))) .labels))
   [.cont]
   [],
  .ite (.or [(.cmp (.attr (.var 2) .name) .in_ (.tup [(.cst (.str [106,109,112])),(.cst (.str [106,114,99,120,122]))])),(.cmp (.callF 6 [(.var 2)]) .ne (.cst (.str [])))])
   [.assign 0 (.callF 23 [(.var 0),(.var 1)])]
   []],
 .ret (.var 0)]}
noncomputable def jM:Fn:={np:=1,dflts:=[],size:=6,body:=
 [.for_ (.one 1) (.range [(.bin .sub (.callB .len [(.var 0)]) (.cst (.int 3))),(.neg 1),(.neg 1)])
  [.assignT [(2,false),(3,false)] [(.attr (.idx (.var 0) (.var 1)) .instruction),(.attr (.idx (.var 0) (.bin .add (.var 1) (.cst (.int 1)))) .instruction)],
  .assign 4 (.callF 6 [(.var 2)]),
  .ite (.or [(.cmp (.var 4) .eq (.cst (.str []))),(.not (.callF 7 [(.var 3)])),(.cmp (.callB .len [(.attr (.idx (.var 0) (.bin .add (.var 1) (.cst (.int 1)))) .labels)]) .gt (.cst (.int 0)))])
   [.cont]
   [],
  .ite (.cmp (.callF 5 [(.var 2)]) .in_ (.attr (.idx (.var 0) (.bin .add (.var 1) (.cst (.int 2)))) .labels))
   [.assign 5 (.mk .ins [(.bin .add (.cst (.str [106])) (.callF 2 [(.var 4)])),(.attr (.var 3) .operands),(.cst (.str []))]),
   .assign 0 (.bin .add (.bin .add (.slc (.var 0) none (some (.var 1))) (.lst [(.mk .line [(.attr (.idx (.var 0) (.var 1)) .labels),(.var 5)])])) (.slc (.var 0) (some (.bin .add (.var 1) (.cst (.int 2)))) none))]
   []],
 .ret (.var 0)]}
noncomputable def iE:Fn:={np:=1,dflts:=[],size:=6,body:=
 [.for_ (.one 1) (.range [(.bin .sub (.callB .len [(.var 0)]) (.cst (.int 3))),(.neg 1),(.neg 1)])
  [.assignT [(2,false),(3,false)] [(.callF 6 [(.attr (.idx (.var 0) (.var 1)) .instruction)]),(.idx (.var 0) (.bin .add (.var 1) (.cst (.int 1))))],
  .ite (.or [(.cmp (.var 2) .eq (.cst (.str []))),(.cmp (.callB .len [(.attr (.var 3) .labels)]) .gt (.cst (.int 0)))])
   [.cont]
   [],
  .assign 4 (.callF 14 [(.callF 2 [(.var 2)]),(.callF 6 [(.attr (.var 3) .instruction)])]),
  .ite (.cmp (.var 4) .eq (.cst (.int 0)))
   [.assign 0 (.callF 23 [(.var 0),(.bin .add (.var 1) (.cst (.int 1)))])]
   [.ite (.cmp (.var 4) .eq (.cst (.int 1)))
    [.assign 5 (.mk .ins [(.cst (.str [106,109,112])),(.attr (.attr (.var 3) .instruction) .operands),(.cst (.str []))]),
    .assign 0 (.bin .add (.bin .add (.slc (.var 0) none (some (.bin .add (.var 1) (.cst (.int 1))))) (.lst [(.mk .line [(.lst []),(.var 5)])])) (.slc (.var 0) (some (.bin .add (.var 1) (.cst (.int 2)))) none))]
    []]],
 .ret (.var 0)]}
noncomputable def mh:Fn:={np:=1,dflts:=[],size:=6,body:=
 [.assignT [(1,false),(2,true)] [(.callF 10 [(.var 0)]),(.lst [])],
 .for_ (.one 3) (.seq (.var 0))
  [.assign 4 (.attr (.var 3) .instruction),
  .ite (.and [(.callF 7 [(.var 4)]),(.cmp (.callF 5 [(.var 4)]) .in_ (.var 1))])
   [.assign 5 (.attr (.idx (.var 0) (.idx (.var 1) (.callF 5 [(.var 4)]))) .instruction),
   .ite (.and [(.cmp (.var 5) .isnt (.cst .none)),(.cmp (.attr (.var 5) .name) .in_ (.callS .split (.glob [69,78,68,83]) []))])
    [.assign 4 (.var 5)]
    []]
   [],
  .expr (.callS .append (.var 2) [(.mk .line [(.attr (.var 3) .labels),(.var 4)])])],
 .ret (.var 2)]}
noncomputable def me:Fn:={np:=2,dflts:=[],size:=3,body:=
 [.for_ (.one 2) (.range [(.var 1),(.bin .sub (.callB .len [(.var 0)]) (.cst (.int 1)))])
  [.ite (.not (.callF 9 [(.attr (.idx (.var 0) (.var 2)) .instruction)]))
   [.ret (.var 2)]
   []],
 .ret (.neg 1)]}
noncomputable def qg:Fn:={np:=5,dflts:=[],size:=10,body:=
 [.for_ (.two 5 6) (.enum (.slc (.var 0) none (some (.neg 1))))
  [.assign 7 (.attr (.var 6) .instruction),
  .assign 8 (.callS .get (.var 1) [(.callF 5 [(.var 7)]),(.neg 1)]),
  .ite (.or [(.cmp (.var 8) .lt (.cst (.int 0))),(.cmp (.callF 4 [(.attr (.var 7) .name)]) .ne (.cst (.str [98,114,97,110,99,104]))),(.cmp (.callF 6 [(.var 7)]) .ne (.cst (.str [])))])
   [.cont]
   [],
  .assign 9 (.cmp2 (.var 3) .le (.var 5) .le (.var 4)),
  .ite (.or [(.cmp (.var 9) .ne (.cmp2 (.var 3) .le (.var 8) .le (.var 4))),(.and [(.not (.var 9)),(.cmp2 (.callB .min_ [(.var 5),(.var 8)]) .le (.var 2) .lt (.callB .max_ [(.var 5),(.var 8)]))])])
   [.ret (.cst (.bool true))]
   []],
 .ret (.cst (.bool false))]}
noncomputable def kg:Fn:={np:=1,dflts:=[],size:=7,body:=
 [.assign 1 (.callF 10 [(.var 0)]),
 .for_ (.one 2) (.range [(.bin .sub (.callB .len [(.var 0)]) (.cst (.int 1)))])
  [.assign 3 (.attr (.idx (.var 0) (.var 2)) .instruction),
  .ite (.or [(.not (.callF 7 [(.var 3)])),(.cmp (.callF 5 [(.var 3)]) .nin (.var 1))])
   [.cont]
   [],
  .assign 4 (.idx (.var 1) (.callF 5 [(.var 3)])),
  .assign 5 (.callF 28 [(.var 0),(.var 4)]),
  .ite (.or [(.cmp (.var 4) .eq (.cst (.int 0))),(.cmp (.var 5) .lt (.cst (.int 0))),(.cmp2 (.var 4) .le (.var 2) .le (.var 5)),(.callF 9 [(.attr (.idx (.var 0) (.bin .sub (.var 4) (.cst (.int 1)))) .instruction)])])
   [.cont]
   [],
  .ite (.callF 29 [(.var 0),(.var 1),(.var 2),(.var 4),(.var 5)])
   [.cont]
   [],
  .assign 6 (.bin .add (.lst [(.mk .line [(.bin .add (.attr (.idx (.var 0) (.var 2)) .labels) (.attr (.idx (.var 0) (.var 4)) .labels)),(.attr (.idx (.var 0) (.var 4)) .instruction)])]) (.slc (.var 0) (some (.bin .add (.var 4) (.cst (.int 1)))) (some (.bin .add (.var 5) (.cst (.int 1)))))),
  .ite (.cmp (.var 4) .gt (.var 2))
   [.ret (.bin .add (.bin .add (.bin .add (.slc (.var 0) none (some (.var 2))) (.var 6)) (.slc (.var 0) (some (.bin .add (.var 2) (.cst (.int 1)))) (some (.var 4)))) (.slc (.var 0) (some (.bin .add (.var 5) (.cst (.int 1)))) none))]
   [],
  .ret (.bin .add (.bin .add (.bin .add (.slc (.var 0) none (some (.var 4))) (.slc (.var 0) (some (.bin .add (.var 5) (.cst (.int 1)))) (some (.var 2)))) (.var 6)) (.slc (.var 0) (some (.bin .add (.var 2) (.cst (.int 1)))) none))],
 .ret (.var 0)]}
noncomputable def mL:Fn:={np:=2,dflts:=[],size:=2,body:=
 [.assign 0 (.callF 22 [(.callF 18 [(.var 0),(.var 1)]),(.var 1)]),
 .assign 0 (.callF 26 [(.callF 20 [(.var 0),(.var 1)])]),
 .assign 0 (.callF 25 [(.callF 20 [(.var 0),(.var 1)])]),
 .assign 0 (.callF 27 [(.callF 24 [(.var 0)])]),
 .ret (.callF 20 [(.callF 30 [(.callF 22 [(.var 0),(.var 1)])]),(.var 1)])]}
noncomputable def iL:Fn:={np:=2,dflts:=[.tup []],size:=4,body:=
 [.expr (.callF 11 [(.var 0)]),
 .assign 2 (.callF 20 [(.var 0),(.var 1)]),
 .assign 3 (.lst []),
 .while_ (.cmp (.callF 33 [(.var 2)]) .ne (.var 3))
  [.assign 3 (.callF 33 [(.var 2)]),
  .assign 2 (.callF 31 [(.var 2),(.var 1)])],
 .ret (.var 2)]}
noncomputable def k8:Fn:={np:=1,dflts:=[],size:=2,body:=
 [.ret (.comp (.callM (.var 1) .told) [(.mk (.one 1) (.seq (.var 0)) [])])]}
noncomputable def pK:Fn:={np:=1,dflts:=[],size:=1,body:=
 [.ite (.cmp (.var 0) .eq (.cst (.int 64)))
  [.ret (.callS .split (.glob [78,65,77,69,83,95,54,52]) [])]
  [],
 .ite (.cmp (.var 0) .eq (.cst (.int 32)))
  [.ret (.callS .split (.glob [78,65,77,69,83,95,51,50]) [])]
  [],
 .ite (.cmp (.var 0) .eq (.cst (.int 16)))
  [.ret (.callS .split (.glob [78,65,77,69,83,95,49,54]) [])]
  [],
 .ite (.cmp (.var 0) .eq (.cst (.int 8)))
  [.ret (.callS .split (.glob [78,65,77,69,83,95,56]) [])]
  [],
 .ret (.lst [])]}
noncomputable def p9:Fn:={np:=1,dflts:=[],size:=1,body:=
 [.ite (.cmp (.var 0) .eq (.cst (.int 32)))
  [.ret (.cst (.str [100]))]
  [],
 .ite (.cmp (.var 0) .eq (.cst (.int 16)))
  [.ret (.cst (.str [119]))]
  [],
 .ite (.cmp (.var 0) .eq (.cst (.int 8)))
  [.ret (.cst (.str [98]))]
  [],
 .ret (.cst (.str []))]}
noncomputable def Hk:Fn:={np:=2,dflts:=[],size:=3,body:=
 [.assign 2 (.callF 34 [(.var 1)]),
 .ite (.or [(.cmp (.var 2) .eq (.lst [])),(.not (.cmp2 (.cst (.int 0)) .le (.var 0) .le (.cst (.int 15))))])
  [.raise_]
  [],
 .ite (.cmp (.var 0) .lt (.cst (.int 8)))
  [.ret (.mk .register [(.idx (.var 2) (.var 0)),(.cst (.str [103,112,114])),(.var 0),(.var 1)])]
  [],
 .ret (.mk .register [(.bin .add (.bin .add (.cst (.str [114])) (.callB .str_ [(.var 0)])) (.callF 35 [(.var 1)])),(.cst (.str [103,112,114])),(.var 0),(.var 1)])]}
noncomputable def vD:Fn:={np:=0,dflts:=[],size:=0,body:=
 [.ret (.bin .add (.bin .pow (.cst (.int 10)) (.cst (.int 30))) (.cst (.int 57)))]}
noncomputable def pH:Fn:={np:=1,dflts:=[],size:=3,body:=
 [.assign 1 (.cst (.int 0)),
 .for_ (.one 2) (.seq (.rev (.slc (.var 0) none (some (.cst (.int 40))))))
  [.assign 1 (.bin .add (.bin .mul (.var 1) (.callF 37 [])) (.bin .mod (.callB .int_ [(.var 2)]) (.callF 37 [])))],
 .ret (.lst [(.var 1),(.bin .add (.cst (.int 149)) (.bin .mod (.callB .len [(.var 0)]) (.cst (.int 1000)))),(.cst (.int 0))])]}
noncomputable def jW:Fn:={np:=2,dflts:=[],size:=3,body:=
 [.ite (.cmp (.idx (.var 0) (.cst (.int 0))) .gt (.cst (.int 0)))
  [.assign 2 (.bin .mod (.idx (.var 0) (.cst (.int 0))) (.var 1)),
  .setIdx (.var 0) (.cst (.int 0)) (.bin .fdiv (.idx (.var 0) (.cst (.int 0))) (.var 1)),
  .ret (.var 2)]
  [],
 .setIdx (.var 0) (.cst (.int 2)) (.bin .add (.idx (.var 0) (.cst (.int 2))) (.cst (.int 1))),
 .setIdx (.var 0) (.cst (.int 1)) (.bin .mod (.bin .add (.bin .mul (.idx (.var 0) (.cst (.int 1))) (.cst (.int 48271))) (.bin .mul (.idx (.var 0) (.cst (.int 2))) (.idx (.var 0) (.cst (.int 2))))) (.cst (.int 2147483647))),
 .ret (.bin .mod (.bin .fdiv (.idx (.var 0) (.cst (.int 1))) (.cst (.int 32))) (.var 1))]}
noncomputable def qD:Fn:={np:=4,dflts:=[],size:=6,body:=
 [.assignT [(4,false),(5,false)] [(.callF 39 [(.var 0),(.cst (.int 8))]),(.bin .add (.cst (.str [97])) (.callB .str_ [(.callF 39 [(.var 0),(.bin .add (.var 2) (.cst (.int 1)))])]))],
 .ite (.cmp (.var 4) .in_ (.tup [(.cst (.int 1)),(.cst (.int 2))]))
  [.ret (.mk .ins [(.cst (.str [106,109,112])),(.lst [(.mk .rel [(.cst (.int 0)),(.var 5)])])])]
  [],
 .ite (.and [(.cmp (.var 4) .eq (.cst (.int 3))),(.cmp (.var 3) .ne (.lst []))])
  [.ret (.mk .ins [(.callS .pop (.var 3) []),(.lst [(.mk .rel [(.cst (.int 0)),(.var 5)])])])]
  [],
 .ite (.cmp (.var 4) .eq (.cst (.int 4)))
  [.ret (.mk .ins [(.cst (.str [114,101,116])),(.lst [])])]
  [],
 .ite (.cmp (.var 4) .eq (.cst (.int 5)))
  [.ret (.mk .ins [(.idx (.lst [(.cst (.str [106,101])),(.cst (.str [106,97,101]))]) (.callF 39 [(.var 0),(.cst (.int 2))])),(.lst [(.mk .rel [(.cst (.int 0)),(.var 5)])])])]
  [],
 .ite (.cmp (.var 4) .eq (.cst (.int 6)))
  [.ret (.mk .ins [(.cst (.str [99,97,108,108])),(.lst [(.mk .rel [(.cst (.int 0)),(.idx (.lst [(.cst (.str [48,116,49])),(.cst (.str [102,97,114])),(.cst (.str [48,116,50]))]) (.callF 39 [(.var 0),(.cst (.int 3))]))])])])]
  [],
 .ret (.mk .ins [(.cst (.str [109,111,118])),(.lst [(.mk .reg [(.callF 36 [(.cst (.int 0)),(.cst (.int 32))])]),(.mk .imm [(.var 1)])])])]}
noncomputable def uC:Fn:={np:=1,dflts:=[],size:=1,body:=
 [.ret (.ite (.and [(.cmp (.var 0) .ne (.tup [])),(.cmp (.idx (.var 0) (.cst (.int 2))) .ne (.tup [])),(.cmp (.idx (.idx (.idx (.var 0) (.cst (.int 2))) (.cst (.int 0))) (.cst (.int 0))) .eq (.cst (.str [114,101,108])))]) (.idx (.idx (.idx (.var 0) (.cst (.int 2))) (.cst (.int 0))) (.cst (.int 2))) (.cst (.str [])))]}
noncomputable def j0:Fn:={np:=1,dflts:=[],size:=11,body:=
 [.assign 1 (.callB .dict_ [(.comp (.tup [(.var 9),(.var 7)]) [(.mk (.two 7 8) (.enum (.var 0)) []),(.mk (.one 9) (.seq (.idx (.var 8) (.cst (.int 0)))) [])])]),
 .own 2 .dct0,
 .for_ (.two 3 4) (.enum (.var 0))
  [.assign 5 (.callS .get (.var 1) [(.callF 41 [(.idx (.var 4) (.cst (.int 1)))]),(.neg 1)]),
  .ite (.and [(.cmp (.var 5) .ge (.cst (.int 0))),(.or [(.cmp (.slc (.idx (.idx (.var 4) (.cst (.int 1))) (.cst (.int 0))) none (some (.cst (.int 4)))) .eq (.cst (.str [108,111,111,112]))),(.cmp (.idx (.idx (.var 4) (.cst (.int 1))) (.cst (.int 0))) .eq (.cst (.str [106,114,99,120,122])))])])
   [.assign 6 (.ite (.cmp (.var 5) .le (.var 3)) (.slc (.var 0) (some (.var 5)) (some (.var 3))) (.slc (.var 0) (some (.bin .add (.var 3) (.cst (.int 1)))) (some (.var 5)))),
   .setIdx (.var 2) (.idx (.idx (.var 4) (.cst (.int 1))) (.cst (.int 0))) (.comp (.idx (.idx (.idx (.idx (.var 10) (.cst (.int 1))) (.cst (.int 2))) (.cst (.int 1))) (.cst (.int 1))) [(.mk (.one 10) (.seq (.var 6)) [(.and [(.cmp (.idx (.var 10) (.cst (.int 1))) .ne (.tup [])),(.cmp (.idx (.idx (.var 10) (.cst (.int 1))) (.cst (.int 0))) .eq (.cst (.str [109,111,118])))])])])]
   []],
 .ret (.var 2)]}
noncomputable def dO:Fn:={np:=1,dflts:=[],size:=1,body:=
 [.try_ [.expr (.callF 32 [(.var 0)])] [.ret (.cst (.bool true))],
 .ret (.cst (.bool false))]}
noncomputable def vQ:List CS:=
 [.own 1 (.callF 38 [(.var 0)]),
 .assignT [(2,false),(3,true)] [(.bin .add (.cst (.int 4)) (.callF 39 [(.var 1),(.cst (.int 6))])),(.lst [(.cst (.str [106,114,99,120,122])),(.cst (.str [108,111,111,112,110,101])),(.cst (.str [108,111,111,112,101])),(.cst (.str [108,111,111,112]))])],
 .assign 4 (.comp (.callF 40 [(.var 1),(.var 16),(.var 2),(.var 3)]) [(.mk (.one 16) (.range [(.var 2)]) [])]),
 .assign 5 (.comp (.mk .line [(.lst [(.bin .add (.cst (.str [97])) (.callB .str_ [(.var 17)]))]),(.var 18)]) [(.mk (.two 17 18) (.enum (.bin .add (.var 4) (.lst [(.cst .none)]))) [])]),
 .assignT [(6,false),(7,false)] [(.callF 33 [(.var 5)]),(.callF 32 [(.var 5)])],
 .assign 8 (.callF 33 [(.var 7)]),
 .assignT [(9,false),(10,false)] [(.callF 42 [(.var 6)]),(.callF 42 [(.var 8)])],
 .for_ (.one 11) (.seq (.var 10))
  [.ite (.cmp (.comp (.var 19) [(.mk (.one 19) (.seq (.idx (.var 10) (.var 11))) [(.cmp (.var 19) .nin (.idx (.var 9) (.var 11)))])]) .ne (.lst []))
   [.ret (.cst (.bool false))]
   []],
 .assign 12 (.comp (.var 21) [(.mk (.one 20) (.seq (.var 8)) []),(.mk (.one 21) (.seq (.idx (.var 20) (.cst (.int 0)))) [])]),
 .assign 13 (.comp (.callF 41 [(.idx (.var 22) (.cst (.int 1)))]) [(.mk (.one 22) (.seq (.var 8)) [(.and [(.cmp (.idx (.var 22) (.cst (.int 1))) .ne (.tup [])),(.cmp (.idx (.idx (.var 22) (.cst (.int 1))) (.cst (.int 0))) .eq (.cst (.str [99,97,108,108])))])])]),
 .ite (.or [(.cmp (.comp (.var 23) [(.mk (.one 23) (.seq (.var 13)) [(.or [(.cmp (.var 23) .in_ (.var 12)),(.cmp (.var 23) .nin (.comp (.callF 41 [(.idx (.var 24) (.cst (.int 1)))]) [(.mk (.one 24) (.seq (.var 6)) [])]))])])]) .ne (.lst [])),(.cmp (.callF 33 [(.callF 32 [(.var 7)])]) .ne (.var 8))])
  [.ret (.cst (.bool false))]
  [],
 .assignT [(11,false),(14,false)] [(.idx (.lst [(.cst (.str [97,48])),(.bin .add (.cst (.str [97])) (.callB .str_ [(.var 2)])),(.cst (.str [102,97,114]))]) (.callF 39 [(.var 1),(.cst (.int 3))])),(.idx (.lst [(.cst (.int 0)),(.cst (.int 4)),(.neg 1)]) (.callF 39 [(.var 1),(.cst (.int 3))]))],
 .assign 15 (.bin .add (.lst [(.mk .line [(.lst [(.cst (.str [98]))]),(.mk .ins [(.cst (.str [109,111,118])),(.lst [(.mk .reg [(.callF 36 [(.cst (.int 0)),(.cst (.int 64))])]),(.mk .imm [(.var 14),(.var 11)])])])])]) (.var 5))]
noncomputable def tS:CE:= .and [(.cmp (.var 11) .ne (.cst (.str [102,97,114]))),(.cmp (.var 14) .ne (.cst (.int 0)))]
noncomputable def v6:Fn:={np:=1,dflts:=[],size:=25,body:=vQ++[.ret (.cmp (.callF 43 [(.var 15)]) .eq tS)]}
noncomputable def th:Fn:={np:=1,dflts:=[],size:=1,body:=
 [.ret (.tup [(.attr (.var 0) .labels),(.ite (.cmp (.attr (.var 0) .instruction) .is_ (.cst .none)) (.tup []) (.callM (.attr (.var 0) .instruction) .told))])]}
noncomputable def kR:Fn:={np:=1,dflts:=[],size:=2,body:=
 [.ret (.tup [(.attr (.var 0) .name),(.attr (.var 0) .prefix_),(.callB .tuple_ [(.comp (.callM (.var 1) .told) [(.mk (.one 1) (.seq (.attr (.var 0) .operands)) [])])])])]}
noncomputable def vM:Fn:={np:=1,dflts:=[],size:=1,body:=
 [.ret (.tup [(.cst (.str [114,101,103])),(.attr (.attr (.var 0) .register) .name)])]}
noncomputable def uE:Fn:={np:=1,dflts:=[],size:=1,body:=
 [.ret (.tup [(.cst (.str [105,109,109])),(.attr (.var 0) .worth),(.attr (.var 0) .name)])]}
noncomputable def uM:Fn:={np:=1,dflts:=[],size:=1,body:=
 [.ret (.tup [(.cst (.str [114,101,108])),(.attr (.var 0) .worth),(.attr (.var 0) .name)])]}
noncomputable def mR:Fn:={np:=1,dflts:=[],size:=1,body:=
 [.ret (.cst (.str []))]}
noncomputable def qW:Fn:={np:=1,dflts:=[],size:=1,body:=
 [.ret (.attr (.var 0) .name)]}
noncomputable def qM:Fn:={np:=1,dflts:=[],size:=1,body:=
 [.ret (.attr (.var 0) .name)]}
noncomputable def JY:List Fn:=[
 lz,
 kK,
 vf,
 oM,
 qR,
 p5,
 md,
 wO,
 I6,
 Ay,
 jL,
 aU,
 um,
 wc,
 tW,
 nW,
 oB,
 ja,
 kZ,
 ir,
 j7,
 pq,
 jO,
 pQ,
 gy,
 jM,
 iE,
 mh,
 me,
 qg,
 kg,
 mL,
 iL,
 k8,
 pK,
 p9,
 Hk,
 vD,
 pH,
 jW,
 qD,
 uC,
 j0,
 dO,
 v6,
 th,
 kR,
 vM,
 uE,
 uM,
 mR,
 qW,
 qM]
noncomputable def tab (i:Nat):Nr Fn:=JY[i]?
noncomputable def meth (c:iJ) (m:D7):Nr Nat:=match c with
 | .line=>match m with
  | .told=>some 45
  | .symbol=>none
 | .ins=>match m with
  | .told=>some 46
  | .symbol=>none
 | .reg=>match m with
  | .told=>some 47
  | .symbol=>some 50
 | .imm=>match m with
  | .told=>some 48
  | .symbol=>some 51
 | .rel=>match m with
  | .told=>some 49
  | .symbol=>some 52
 | .register=>none
noncomputable def Cy:List (Sg×Sg):=[
 ([67,79,78,68,73,84,73,79,78,83],[111,32,110,111,32,98,32,97,101,32,101,32,110,101,32,98,101,32,97,32,115,32,110,115,32,112,32,110,112,32,108,32,103,101,32,108,101,32,103]),
 ([65,84,79,77,83],[111,32,98,32,101,32,98,101,32,115,32,112,32,108,32,108,101]),
 ([69,78,68,83],[114,101,116,32,104,108,116,32,117,100,50]),
 ([78,65,77,69,83,95,56],[97,108,32,99,108,32,100,108,32,98,108,32,115,112,108,32,98,112,108,32,115,105,108,32,100,105,108]),
 ([78,65,77,69,83,95,49,54],[97,120,32,99,120,32,100,120,32,98,120,32,115,112,32,98,112,32,115,105,32,100,105]),
 ([78,65,77,69,83,95,51,50],[101,97,120,32,101,99,120,32,101,100,120,32,101,98,120,32,101,115,112,32,101,98,112,32,101,115,105,32,101,100,105]),
 ([78,65,77,69,83,95,54,52],[114,97,120,32,114,99,120,32,114,100,120,32,114,98,120,32,114,115,112,32,114,98,112,32,114,115,105,32,114,100,105])]
noncomputable def qz:List ((Sg×Nr Sg)×List Sg):=[
 (([111,32,110,111,32,98,32,97,101,32,101,32,110,101,32,98,101,32,97,32,115,32,110,115,32,112,32,110,112,32,108,32,103,101,32,108,101,32,103],some [32]),[[111],[110,111],[98],[97,101],[101],[110,101],[98,101],[97],[115],[110,115],[112],[110,112],[108],[103,101],[108,101],[103]]),
 (([111,32,98,32,101,32,98,101,32,115,32,112,32,108,32,108,101],none),[[111],[98],[101],[98,101],[115],[112],[108],[108,101]]),
 (([114,101,116,32,104,108,116,32,117,100,50],none),[[114,101,116],[104,108,116],[117,100,50]]),
 (([97,108,32,99,108,32,100,108,32,98,108,32,115,112,108,32,98,112,108,32,115,105,108,32,100,105,108],none),[[97,108],[99,108],[100,108],[98,108],[115,112,108],[98,112,108],[115,105,108],[100,105,108]]),
 (([97,120,32,99,120,32,100,120,32,98,120,32,115,112,32,98,112,32,115,105,32,100,105],none),[[97,120],[99,120],[100,120],[98,120],[115,112],[98,112],[115,105],[100,105]]),
 (([101,97,120,32,101,99,120,32,101,100,120,32,101,98,120,32,101,115,112,32,101,98,112,32,101,115,105,32,101,100,105],none),[[101,97,120],[101,99,120],[101,100,120],[101,98,120],[101,115,112],[101,98,112],[101,115,105],[101,100,105]]),
 (([114,97,120,32,114,99,120,32,114,100,120,32,114,98,120,32,114,115,112,32,114,98,112,32,114,115,105,32,114,100,105],none),[[114,97,120],[114,99,120],[114,100,120],[114,98,120],[114,115,112],[114,98,112],[114,115,105],[114,100,105]])]
noncomputable def aj:Aj:={tab:=tab,meth:=meth,glob:=fun x=>Cy.lookup x,splits:=fun x s=>qz.lookup (x,s)}
end
section
open PySem PySem.W PyProof.Rows
set_option tactic.hygienic false
section
noncomputable def bF (s:Sg):Str:=⟨s.toArray⟩
theorem o6 {a b:Sg} (h:bF a=bF b):a=b:=by
 have:=NC Str.cps h
 exact List.toArray_inj this
theorem gM (s:Sg):(bF s).length=s.length:=by simp [bF,Str.length]
structure Wd where
 prog:Ob
 w:Pz
 K:Frag
 ca:iJ→Addr
 fa:Nat→Addr
 fname:Nat→Nr Str
 P:Aj
 base:Heap
noncomputable def fs:gV→Str
 | .labels=>NK "labels"
 | .instruction=>NK "instruction"
 | .name=>NK "name"
 | .operands=>NK "operands"
 | .prefix_=>NK "prefix"
 | .kind=>NK "kind"
 | .register=>NK "register"
 | .worth=>NK "worth"
 | .number=>NK "number"
 | .size=>NK "size"
inductive jK:List gV→List PN→Prop
 |nil:jK [] []
 |cons {f fs' e es t}:e.key= .str (fs f) t→jK fs' es→jK (f::fs') (e::es)
mutual
inductive b8 (Z:Wd) (D:Addr→Prop) (h:Heap):Nv→V→Prop
 |none:b8 Z D h .none .none
 |bool (b:Bool):b8 Z D h (.bool b) (.bool b)
 |int (i:Int) (t:Tok):b8 Z D h (.int i t) (.int i)
 |str (s:Sg) (t:Tok):eU s=true→b8 Z D h (.str (bF s) t) (.str s)
 |tup {a:Addr} {o:Obj} {vs:Qe Nv} {n:Nat} {us:List V}:us.length≤16777216→¬D a→h.get? a=some o→o.cls= .type "tuple"→o.data= .seq vs n→ak Z D h vs.toList us→b8 Z D h (.ref a) (.tup us)
 |lst {a:Addr} {o:Obj} {vs:Qe Nv} {n:Nat} {us:List V}:us.length≤16777216→¬D a→h.get? a=some o→o.cls= .type "list"→o.dict=none→o.data= .seq vs n→ak Z D h vs.toList us→b8 Z D h (.ref a) (.lst us)
 |dct {a:Addr} {kvs:List (Str×Nv)} {ks:List Sg} {us:List V}:ks.all eU=true→¬D a→(a==QX)=false→h.DictOf (Oz Z.prog Z.w) a kvs→kvs.map (·.1)=ks.map bF→ak Z D h (kvs.map (·.2)) us→b8 Z D h (.ref a) (.dct ks us)
 |inst {a dx:Addr} {c:iJ} {es:List PN} {n:Nat} {us:List V}:¬D a→¬D dx→h.get? a=some (Rb (Z.ca c) dx)→h.get? dx=some (TB es n)→jK c.fields es→
   ak Z D h (es.map (·.val)) us→b8 Z D h (.ref a) (.inst c us)
inductive ak (Z:Wd) (D:Addr→Prop) (h:Heap):List Nv→List V→Prop
 |nil:ak Z D h [] []
 |cons {v:Nv} {vs:List Nv} {u:V} {us:List V}:b8 Z D h v u→ak Z D h vs us→ak Z D h (v::vs) (u::us)
end
section
variable {Z:Wd} {D D':Addr→Prop} {h h':Heap}
noncomputable def LV (Z:Wd) (D:Addr→Prop) (h:Heap) (v:Nv):V→Prop:=V.el (v= .none) (fun b=>v= .bool b) (fun i=>∃t,v= .int i t) (fun s=>eU s=true∧∃t,v= .str (bF s) t)
 (fun us=>∃a o vs n,v= .ref a∧us.length≤16777216∧¬D a∧h.get? a=some o∧o.cls= .type "tuple"∧o.data= .seq vs n∧ak Z D h vs.toList us) (fun us=>∃a o vs n,v= .ref a∧us.length≤16777216∧¬D a∧h.get? a=some o∧o.cls= .type "list"∧o.dict=none∧o.data= .seq vs n∧ak Z D h vs.toList us)
 (fun ks us=>∃a kvs,v= .ref a∧ks.all eU=true∧¬D a∧(a==QX)=false∧h.DictOf (Oz Z.prog Z.w) a kvs∧kvs.map (·.1)=ks.map bF∧ak Z D h (kvs.map (·.2)) us)
 (fun c us=>∃a dx es n,v= .ref a∧¬D a∧¬D dx∧h.get? a=some (Rb (Z.ca c) dx)∧h.get? dx=some (TB es n)∧jK c.fields es∧ak Z D h (es.map (·.val)) us)
theorem b8.says {v:Nv} {u:V} (r:b8 Z D h v u):LV Z D h v u:=by
 cases r with
 |none=>rfl
 |bool b=>rfl
 |int i t=>exact ⟨t,rfl⟩
 |str s t z=>exact ⟨z,t,rfl⟩
 |tup z d g c e r=>exact ⟨_,_,_,_,rfl,z,d,g,c,e,r⟩
 |lst z d g c x e r=>exact ⟨_,_,_,_,rfl,z,d,g,c,x,e,r⟩
 |dct z d m g e r=>exact ⟨_,_,rfl,z,d,m,g,e,r⟩
 |inst d d' g g' k r=>exact ⟨_,_,_,_,rfl,d,d',g,g',k,r⟩
theorem b8.mono (k:∀b o,¬D b→h.get? b=some o→¬D' b∧h'.get? b=some o) {v:Nv} {u:V} (r:b8 Z D h v u):b8 Z D' h' v u:=
 b8.rec (motive_1:=fun v u _=>b8 Z D' h' v u) (motive_2:=fun vs us _=>ak Z D' h' vs us) (.none) (fun b=> .bool b) (fun i t=> .int i t) (fun s t z=> .str s t z) (fun z d g c e _ ih=> .tup z (k _ _ d g).1 (k _ _ d g).2 c e ih) (fun z d g c x e _ ih=> .lst z (k _ _ d g).1 (k _ _ d g).2 c x e ih)
  (fun z d sm x e _ ih=>let ⟨o,es,ep,g,y⟩:=x;.dct z (k _ _ d g).1 sm ⟨o,es,ep,(k _ _ d g).2,y⟩ e ih) (fun d d' g g' e _ ih=> .inst (k _ _ d g).1 (k _ _ d' g').1 (k _ _ d g).2 (k _ _ d' g').2 e ih) .nil (fun _ _ x r=> .cons x r) r
theorem ak.mono (k:∀b o,¬D b→h.get? b=some o→¬D' b∧h'.get? b=some o) {vs:List Nv} {us:List V} (r:ak Z D h vs us):ak Z D' h' vs us:=
 ak.rec (motive_1:=fun v u _=>b8 Z D' h' v u) (motive_2:=fun vs us _=>ak Z D' h' vs us) (.none) (fun b=> .bool b) (fun i t=> .int i t) (fun s t z=> .str s t z) (fun z d g c e _ ih=> .tup z (k _ _ d g).1 (k _ _ d g).2 c e ih) (fun z d g c x e _ ih=> .lst z (k _ _ d g).1 (k _ _ d g).2 c x e ih)
  (fun z d sm x e _ ih=>let ⟨o,es,ep,g,y⟩:=x;.dct z (k _ _ d g).1 sm ⟨o,es,ep,(k _ _ d g).2,y⟩ e ih) (fun d d' g g' e _ ih=> .inst (k _ _ d g).1 (k _ _ d' g').1 (k _ _ d g).2 (k _ _ d' g').2 e ih) .nil (fun _ _ x r=> .cons x r) r
theorem ak.length {vs:List Nv} {us:List V} (r:ak Z D h vs us):vs.length=us.length:=by
 induction us generalizing vs with
 |nil=>cases r;rfl
 |cons u us ih=>cases r with|cons _ r=>simp [ih r]
theorem ak.append {vs vs':List Nv} {us us':List V} (r:ak Z D h vs us) (q:ak Z D h vs' us'):ak Z D h (vs++vs') (us++us'):=by
 induction us generalizing vs with
 |nil=>cases r;exact q
 |cons u us ih=>cases r with|cons x r=>exact .cons x (ih r)
theorem ak.get {vs:List Nv} {us:List V} (r:ak Z D h vs us):∀{k:Nat} {u:V},us[k]? =some u→∃v,vs[k]? =some v∧b8 Z D h v u:=by
 induction us generalizing vs with
 |nil=>intro k u e;cases e
 |cons w us ih=>
  cases r with
  |cons x r=>
   intro k u e
   cases k with
   |zero=>cases Nq e;exact ⟨_,rfl,x⟩
   |succ k=>exact ih r e
theorem ak.take (n:Nat) {vs:List Nv} {us:List V} (r:ak Z D h vs us):ak Z D h (vs.take n) (us.take n):=by
 induction us generalizing vs n with
 |nil=>cases r;rw [List.take_nil,List.take_nil];exact .nil
 |cons w us ih=>cases r with|cons x r=>cases n with
  |zero=>exact .nil
  |succ n=>exact .cons x (ih n r)
theorem ak.drop (n:Nat) {vs:List Nv} {us:List V} (r:ak Z D h vs us):ak Z D h (vs.drop n) (us.drop n):=by
 induction us generalizing vs n with
 |nil=>cases r;rw [Sw,Sw];exact .nil
 |cons w us ih=>cases r with|cons x r=>cases n with
  |zero=>exact .cons x r
  |succ n=>exact ih n r
theorem ak.reverse {vs:List Nv} {us:List V} (r:ak Z D h vs us):ak Z D h vs.reverse us.reverse:=by
 induction us generalizing vs with
 |nil=>cases r;exact .nil
 |cons w us ih=>cases r with|cons x r=>rw [UJ,UJ];exact (ih r).append (.cons x .nil)
theorem ak.set (n:Nat) {v:Nv} {u:V} {vs:List Nv} {us:List V} (r:ak Z D h vs us) (y:b8 Z D h v u):ak Z D h (vs.set n v) (us.set n u):=by
 induction us generalizing vs n with
 |nil=>cases r;exact .nil
 |cons w us ih=>cases r with|cons x r=>cases n with
  |zero=>exact .cons y r
  |succ n=>exact .cons x (ih n r)
theorem ak.dropLast:∀{vs:List Nv} {us:List V},ak Z D h vs us→ak Z D h vs.dropLast us.dropLast:=fun {vs us} r=>by
 rw [Rq,Rq,r.length];exact r.take _
end
noncomputable def aw (W:Addr→Prop) (h h':Heap):Prop:=∀b o,h.get? b=some o→¬W b→h'.get? b=some o
theorem aw.refl {W:Addr→Prop} {h:Heap}:aw W h h:=fun _ _ e _=>e
theorem aw.trans {W:Addr→Prop} {h h' h'':Heap} (a:aw W h h') (b:aw W h' h''):aw W h h'':=fun x o e n=>b x o (a x o e n) n
theorem aw.weaken {W W':Addr→Prop} {h h':Heap} (a:aw W h h') (s:∀b,W b→W' b):aw W' h h':=fun x o e n=>a x o e fun y=>n (s x y)
theorem aw.of_all {W:Addr→Prop} {h h':Heap} (k:∀b o,h.get? b=some o→h'.get? b=some o):aw W h h':=fun b o e _=>k b o e
theorem aw.push {W:Addr→Prop} {h:Heap} (o:Obj):aw W h (h.push o):=fun _ _ e _=>NV _ e
theorem aw.sameBut {W:Addr→Prop} {h h':Heap} {a:Addr} (s:Pn a h h') (w:W a):aw W h h':=fun b o e n=>s.extBut b o (fun x=>n (x▸w)) e
theorem aw.extBut {W:Addr→Prop} {h h':Heap} {a:Addr} (s:Heap.ExtBut a h h') (w:W a):aw W h h':=fun b o e n=>s b o (fun x=>n (x▸w)) e
theorem aw.fresh {W W':Addr→Prop} {h h' h'':Heap} (a:aw W h h') (b:aw W' h' h'') (s:∀x,W' x→W x∨h.get? x=Sl):aw W h h'':=fun x o e n=>
 b x o (a x o e n) fun y=>(s x y).elim n fun z=>by rw [z] at e;cases e
noncomputable def gG (Z:Wd) (D:Addr→Prop) (h:Heap) (a:Addr):V→Prop
 | .lst us=>us.length≤16777216∧∃items:Qe Nv,h.PlainList a items∧ak Z D h items.toList us
 | .dct ks us=>ks.all eU=true∧∃kvs:List (Str×Nv),(a==QX)=false∧h.DictOf (Oz Z.prog Z.w) a kvs∧kvs.map (·.1)=ks.map bF∧ak Z D h (kvs.map (·.2)) us
 |_=>RA
theorem gG.live {Z:Wd} {D:Addr→Prop} {h:Heap} {a:Addr} {u:V} (c:gG Z D h a u):∃o,h.get? a=some o:=by
 cases u<;>simp only [gG] at c
 ·obtain ⟨_,_,⟨_,e⟩,_⟩:=c;exact ⟨_,e⟩
 ·obtain ⟨_,_,_,⟨_,_,_,e,_⟩,_⟩:=c;exact ⟨_,e⟩
theorem gG.mono {Z:Wd} {D D':Addr→Prop} {h h':Heap} {a:Addr} {u:V} (c:gG Z D h a u) (ha:∀o,h.get? a=some o→h'.get? a=some o)
  (k:∀b o,¬D b→h.get? b=some o→¬D' b∧h'.get? b=some o):gG Z D' h' a u:=by
 cases u<;>simp only [gG] at c ⊢
 ·obtain ⟨z,i,⟨n,e⟩,r⟩:=c;exact ⟨z,i,⟨n,ha _ e⟩,r.mono k⟩
 ·obtain ⟨z,i,sm,⟨o,es,ep,e,x⟩,y,r⟩:=c;exact ⟨z,i,sm,⟨o,es,ep,ha _ e,x⟩,y,r.mono k⟩
theorem gG.rep {Z:Wd} {D D':Addr→Prop} {h:Heap} {a:Addr} {u:V} (c:gG Z D h a u) (d:¬D' a) (s:∀b,D' b→D b):b8 Z D' h (.ref a) u:=by
 have k:∀b o,¬D b→h.get? b=some o→¬D' b∧h.get? b=some o:=fun b o n e=>⟨fun x=>n (s b x),e⟩
 cases u<;>simp only [gG] at c
 ·obtain ⟨z,i,⟨n,e⟩,r⟩:=c;exact .lst z d e rfl rfl rfl (r.mono k)
 ·obtain ⟨z,i,sm,x,y,r⟩:=c;exact .dct z d sm x y (r.mono k)
structure aE (Z:Wd) (CA:List Addr) (σ:ag) (D:Addr→Prop) (h:Heap):Prop where
 len:CA.length=σ.length
 nodup:CA.Nodup
 at_:∀(k:Nat) (a:Addr) (u:V),CA[k]? =some a→σ[k]? =some u→gG Z D h a u
 inD:∀a∈CA,D a
theorem aE.live {Z:Wd} {CA:List Addr} {σ:ag} {D:Addr→Prop} {h:Heap} (c:aE Z CA σ D h) {a:Addr} (m:a∈CA):∃o,h.get? a=some o:=by
 obtain ⟨k,hk,e⟩:=Pd m
 have hk':k <σ.length:=c.len▸hk
 exact (c.at_ k a σ[k] (by rw [NB hk,e]) (NB hk')).live
theorem aE.mono {Z:Wd} {CA:List Addr} {σ:ag} {D:Addr→Prop} {h h':Heap} (c:aE Z CA σ D h) (k:∀b o,h.get? b=some o→(b∈CA∨¬D b)→h'.get? b=some o):aE Z CA σ D h' where
 len:=c.len
 nodup:=c.nodup
 at_:=fun i a u e e'=>(c.at_ i a u e e').mono (fun o x=>k a o x (.inl (NN e))) fun b o d x=>⟨d,k b o x (.inr d)⟩
 inD:=c.inD
theorem aE.keep {Z:Wd} {CA:List Addr} {σ:ag} {D W:Addr→Prop} {h h':Heap} (c:aE Z CA σ D h) (k:aw W h h') (s:∀b,W b→D b∧b∉CA):aE Z CA σ D h':=
 c.mono fun b o e x=>k b o e fun y=>x.elim (s b y).2 fun z=>z (s b y).1
theorem aE.shift {Z:Wd} {CA:List Addr} {σ:ag} {D D':Addr→Prop} {h:Heap} (c:aE Z CA σ D h) (s:∀b o,h.get? b=some o→D' b→D b) (m:∀a∈CA,D' a):aE Z CA σ D' h where
 len:=c.len
 nodup:=c.nodup
 at_:=fun i a u e e'=>(c.at_ i a u e e').mono (fun _ x=>x) fun b o d x=>⟨fun y=>d (s b o x y),x⟩
 inD:=m
abbrev DC (D:Addr→Prop) (C:Addr):Addr→Prop:=fun b=>D b∨b=C
noncomputable def iH (Z:Wd) (g:Heap) (CA:List Addr) (σ:ag) (D:Addr→Prop) (h:Heap) (v:Nv):aA→Prop
 | .v u=>b8 Z D h v u
 | .own u=>∃a,v= .ref a∧g.get? a=none∧Z.base.objs.size≤a∧gG Z (DC D a) h a u∧aE Z CA σ (DC D a) h
 | .cell k=>∃a,CA[k]? =some a∧v= .ref a
noncomputable def Rd (Z:Wd) (D:Addr→Prop) (h:Heap) (v:Nv) (u:V):Prop:=b8 Z D h v u∨∃a,v= .ref a∧gG Z D h a u
end
noncomputable def V.py (v:V):Uv:=V.rec (motive_1:=fun _=>Uv) (motive_2:=fun _=>List Uv) .none .bool .int (fun s=> .str (bF s)) (fun _=> .tuple) (fun _=> .list) (fun _ _ _=> .none) (fun _ _ _=> .none) [] (fun _ _=> .cons) v
noncomputable def V.pys (l:List V):List Uv:=V.rec_1 (motive_1:=fun _=>Uv) (motive_2:=fun _=>List Uv) .none .bool .int (fun s=> .str (bF s)) (fun _=> .tuple) (fun _=> .list) (fun _ _ _=> .none) (fun _ _ _=> .none) [] (fun _ _=> .cons) l
theorem wW (u:V):u.py.depth≤u.dep:=
 V.rec (motive_1:=fun u=>u.py.depth≤u.dep) (motive_2:=fun l=>QS (V.pys l)≤V.deps l) (NI 0) (fun _=>NI 0) (fun _=>NI 0) (fun _=>NI 0) (fun _=>NX) (fun _=>NX) (fun _ _ _=>NI 0) (fun _ _ _=>NI 0) (NI 0)
  (fun _ _ h g=>Uw.mpr ⟨Nt h (Nat.le_max_left ..),Nt g (Nat.le_max_right ..)⟩) u
theorem IC (s t:Sg):(bF s==bF t)=decide (s=t):=by
 by_cases e:s=t
 ·rw [NF e,e,Ru]
 ·rw [N0 e,PU.mpr fun x=>e (o6 x)]
theorem Im (a:V):a.dat=true→∀b:V,b.dat=true→QB a.py b.py=a.eqb b:=
 V.rec (motive_1:=fun a=>a.dat=true→∀b:V,b.dat=true→QB a.py b.py=a.eqb b) (motive_2:=fun l=>V.dats l=true→∀m,V.dats m=true→PyData.eqvAll (V.pys l) (V.pys m)=(V.tup l).eqb (.tup m))
  (fun _ b hb=>by cases b<;>first|rfl|cases hb) (fun _=>O3) (fun _ _ b hb=>by cases b<;>first|rfl|cases hb) (fun s _ b hb=>by cases b<;>first|exact IC s _|rfl|cases hb)
  (fun _ f ha b hb=>by cases b<;>first|exact f ha _ hb|rfl|cases hb) (fun _ f ha b hb=>by cases b<;>first|exact f ha _ hb|rfl|cases hb) (fun _ _ _=>O3) (fun _ _ _=>O3) (fun _ m _=>by cases m<;>rfl)
  (fun _ _ f g ha m hm=>by
   cases m with
   |nil=>rfl
   |cons y ys=>exact congr (NC and (f (Nz.mp ha).1 y (Nz.mp hm).1)) (g (Nz.mp ha).2 ys (Nz.mp hm).2)) a
theorem vP (a b:V) (ha:a.dat=true) (hb:b.dat=true):QB a.py b.py=decide (a=b):=(Im a ha b hb).trans (EY a b).symm
theorem E7 (x:V) (hx:x.dat=true) (us:List V):V.dats us=true→(V.pys us).any (fun y=>QB y x.py)=decide (x∈us):=by
 induction us with
 |nil=>exact fun _=>(N0 Vb).symm
 |cons u us ih=>
  intro h
  have h:=Nz.mp h
  show (QB u.py x.py||(V.pys us).any _)=_
  rw [vP u x h.1 hx,ih h.2,←VK]
  exact O4.mpr ⟨fun z=>z.elim (fun z=>z▸ .head _) (.tail _),fun m=>(NW.mp m).imp Eq.symm id⟩
section
variable {Z:Wd} {D:Addr→Prop} {h:Heap}
theorem FS {us:List V} (k:(V.tup us).dat=true∨∃b,V.tup us= .bool b):V.dats us=true:=k.elim id fun ⟨_,e⟩=>V.noConfusion e
theorem FJ {us:List V} (k:(V.lst us).dat=true∨∃b,V.lst us= .bool b):V.dats us=true:=k.elim id fun ⟨_,e⟩=>V.noConfusion e
theorem DS {ks:List Sg} {us:List V} (k:(V.dct ks us).dat=true∨∃b,V.dct ks us= .bool b):RA:=k.elim O3 fun ⟨_,e⟩=>V.noConfusion e
theorem CP {c:iJ} {us:List V} (k:(V.inst c us).dat=true∨∃b,V.inst c us= .bool b):RA:=k.elim O3 fun ⟨_,e⟩=>V.noConfusion e
abbrev M8 (h:Heap) (v:Nv) (u:V):Prop:=(u.dat=true∨∃b,u= .bool b)→∃as,Reads h v u.py as
abbrev J6 (h:Heap) (vs:List Nv) (us:List V):Prop:=V.dats us=true→∃as,ReadsAll h vs (V.pys us) as
theorem b8.reads {v:Nv} {u:V} (r:b8 Z D h v u):M8 h v u:=
 b8.rec (motive_1:=fun v u _=>M8 h v u) (motive_2:=fun vs us _=>J6 h vs us) (fun _=>⟨_,.none⟩) (fun b _=>⟨_,.bool b⟩) (fun i t _=>⟨_,.int i t⟩) (fun s t _ _=>⟨_,.str (bF s) t⟩)
  (fun _ _ g c e _ ih k=>let ⟨_,q⟩:=ih (FS k);⟨_,reads_tuple_at g c e q⟩) (fun _ _ g c _ e _ ih k=>let ⟨_,q⟩:=ih (FJ k);⟨_,reads_list_at g c e q⟩)
  (fun _ _ _ _ _ _ _ k=>(DS k).elim) (fun _ _ _ _ _ _ _ k=>(CP k).elim) (fun _=>⟨_,.nil⟩)
  (fun _ _ ih1 ih2 k=>let k:=Nz.mp k;let ⟨_,a⟩:=ih1 (.inl k.1);let ⟨_,b⟩:=ih2 k.2;⟨_,.cons a b⟩) r
theorem ak.reads {vs:List Nv} {us:List V} (r:ak Z D h vs us):J6 h vs us:=by
 induction us generalizing vs with
 |nil=>cases r;exact fun _=>⟨_,.nil⟩
 |cons u us ih=>cases r with|cons x r=>exact fun k=>let k:=Nz.mp k;let ⟨_,a⟩:=x.reads (.inl k.1);let ⟨_,b⟩:=ih r k.2;⟨_,.cons a b⟩
theorem EZ {s:Sg} (z:eU s=true):(V.str s).py.canLay0=true:=by show VL (.str (bF s))=true;simpa [VL,PyData.strOk,bF,eU] using z
theorem b8.lay {v:Nv} {u:V} (r:b8 Z D h v u):u.dat=true→u.py.canLay0=true:=
 b8.rec (motive_1:=fun _ u _=>u.dat=true→u.py.canLay0=true) (motive_2:=fun _ us _=>V.dats us=true→Qf (V.pys us)=true) (fun _=>rfl) (fun _ _=>rfl) (fun _ _ _=>rfl) (fun _ _ z _=>EZ z)
  (fun _ _ _ _ _ _ ih k=>ih k) (fun _ _ _ _ _ _ _ ih k=>ih k) (fun _ _ _ _ _ _ _ _=>rfl) (fun _ _ _ _ _ _ _ _=>rfl) (fun _=>rfl) (fun _ _ ih1 ih2 k=>Nz.mpr ⟨ih1 (Nz.mp k).1,ih2 (Nz.mp k).2⟩) r
theorem Rd.rep {v:Nv} {u:V} (r:Rd Z D h v u):b8 Z (fun _=>RA) h v u:=by
 rcases r with r|⟨a,rfl,c⟩
 ·exact r.mono fun b o _ e=>⟨fun x=>x,e⟩
 ·exact c.rep (fun x=>x) (fun _ x=>x.elim)
theorem Rd.reads {v:Nv} {u:V} (r:Rd Z D h v u) (k:u.dat=true∨∃b,u= .bool b):∃as,Reads h v u.py as:=r.rep.reads k
end
section
variable {Z:Wd} {D:Addr→Prop} {A:Od} {E:Nv→Nx→Prop} {s:Nx} {a b:Nv} {x y:V} {Q:Nv→Nx→Prop}
theorem isNone {D:Addr→Prop} {h:Heap} {v:Nv} {u:V} (r:b8 Z D h v u):(v==Value.none)=decide (u= .none):=by cases r<;>rfl
theorem kd {kvs:List (Str×Nv)} {ks:List Sg} {x:Sg} (e:kvs.map (·.1)=ks.map bF):(Ry kvs (bF x)).isSome=decide (x∈ks):=by
 induction kvs generalizing ks with
 |nil=>cases ks with
  |nil=>rfl
  |cons _ _=>simp at e
 |cons kv kvs ih=>cases ks with
  |nil=>simp at e
  |cons k ks=>
   simp only [NJ,List.cons.injEq] at e
   have:=ih e.2
   simp only [Ry,RK] at this ⊢
   by_cases q:k=x
   ·subst q;simp [e.1]
   ·have:¬kv.1=bF x:=fun z=>q (o6 (e.1.symm.trans z))
    have q':¬x=k:=fun z=>q z.symm
    simp_all [NW]
noncomputable def eD:uQ→CmpOp
 | .eq=> .Eq| .ne=> .NotEq| .lt=> .Lt| .le=> .LtE| .gt=> .Gt| .ge=> .GtE| .in_=> .In| .nin=> .NotIn| .is_=> .Is| .isnt=> .IsNot
structure LK (h:Heap) (a b:Nv) (x y:V):Prop where
 ra:∃as,Reads h a x.py as
 rb:∃as,Reads h b y.py as
 sa:RY x.py=true
 sb:RY y.py=true
 eq:QB x.py y.py=decide (x=y)
theorem b8.shaped {h:Heap} (r:b8 Z D h a x) (k:x.dat=true) (d:x.dep≤60):RY x.py=true:=
 Nz.mpr ⟨r.lay k,NF (Nt (wW x) (Nt d (by decide)))⟩
theorem vA (k:x.bool?.isSome=true):∃b,x= .bool b:=by cases x<;>first|exact ⟨_,rfl⟩|cases k
theorem lW (ra:Rd Z D s.heap a x) (rb:Rd Z D s.heap b y) (c:mF x y=true):LK s.heap a b x y:=by
 rcases Pe.mp c with c|c
 ·obtain ⟨p,rfl⟩:=vA (Nz.mp c).1
  obtain ⟨q,rfl⟩:=vA (Nz.mp c).2
  exact ⟨ra.reads (.inr ⟨p,rfl⟩),rb.reads (.inr ⟨q,rfl⟩),rfl,rfl,by cases p<;>cases q<;>rfl⟩
 ·have c1:=Nz.mp c
  have c2:=Nz.mp c1.1
  have c3:=Nz.mp c1.2
  exact ⟨ra.reads (.inl c2.1),rb.reads (.inl c2.2),ra.rep.shaped c2.1 (ND c3.1),rb.rep.shaped c2.2 (ND c3.2),vP _ _ c2.1 c2.2⟩
structure Mt (h:Heap) (a b:Nv) (x:V) (us:List V) (n:Nat) (l:Uv):Prop where
 ra:∃as,Reads h a x.py as
 rb:∃as,Reads h b l as
 la:x.py.canLay0=true
 lb:Qf (V.pys us)=true
 room:n+1+min (QS (V.pys us)) x.py.depth <SJ
 any:(V.pys us).any (fun y=>QB y x.py)=decide (x∈us)
theorem BU {us:List V} {n:Nat} {l:Uv} (ra:Rd Z D s.heap a x) (ll:V.dats us=true→(∃as,Reads s.heap b l as)∧Qf (V.pys us)=true) (c:gY x us=true) (hu:n+64 <SJ):Mt s.heap a b x us n l:=by
 have c1:=Nz.mp c
 have c2:=Nz.mp c1.1
 have c3:=ND (Nz.mp c1.2).1
 refine ⟨ra.reads (.inl c2.1),(ll c2.2).1,ra.rep.lay c2.1,(ll c2.2).2,?_,E7 _ c2.1 _ c2.2⟩
 have h1:=Nt (Rv (QS (V.pys us)) x.py.depth) (Nt (wW x) c3)
 clear ra ll c c1 c2 c3
 omega
theorem b8.lst_lay {us:List V} {h:Heap} (r:b8 Z D h b (.lst us)) (k:V.dats us=true):Qf (V.pys us)=true:=r.lay k
theorem b8.tup_lay {us:List V} {h:Heap} (r:b8 Z D h b (.tup us)) (k:V.dats us=true):Qf (V.pys us)=true:=r.lay k
theorem bind_some {α β:Type} {x:Nr α} {f:α→Nr β} {b:β} (e:x.bind f=some b):∃a,x=some a∧f a=some b:=by
 cases x with
 |none=>cases e
 |some a=>exact ⟨a,rfl,e⟩
theorem map_some {α β:Type} {x:Nr α} {f:α→β} {b:β} (e:x.map f=some b):∃a,x=some a∧f a=b:=by
 cases x with
 |none=>cases e
 |some a=>exact ⟨a,rfl,Nq e⟩
theorem af {α β:Type} {x:Nr α} {f:α→Nr β} {b:β} {P:Prop} (e:x.bind f=some b) (k:∀a,x=some a→f a=some b→P):P:=let ⟨a,h1,h2⟩:=bind_some e;k a h1 h2
theorem am {α β:Type} {x:Nr α} {f:α→β} {b:β} {P:Prop} (e:x.map f=some b) (k:∀a,x=some a→f a=b→P):P:=let ⟨a,h1,h2⟩:=map_some e;k a h1 h2
theorem bU {α:Type} {c:Prop} [SI c] {x:Nr α} {b:α} (e:(if c then x else none)=some b):c∧x=some b:=by
 by_cases h:c
 ·rw [NP h] at e;exact ⟨h,e⟩
 ·rw [N4 h] at e;cases e
theorem aL {α:Type} {c:Prop} [SI c] {x:Nr α} {b:α} {P:Prop} (e:(if c then x else none)=some b) (k:c→x=some b→P):P:=k (bU e).1 (bU e).2
section
variable {r:Bool}
theorem Rd.int {h:Heap} {v:Nv} {i:Int} (r:Rd Z D h v (.int i)):∃t,v= .int i t:=r.rep.says
theorem Rd.str {h:Heap} {v:Nv} {x:Sg} (r:Rd Z D h v (.str x)):∃t,v= .str (bF x) t:=r.rep.says.2
theorem Rd.strOk {h:Heap} {v:Nv} {x:Sg} (r:Rd Z D h v (.str x)):eU x=true:=r.rep.says.1
structure JF (Z:Wd) (D:Addr→Prop) (h:Heap) (v:Nv) (ks:List Sg) (us:List V) (d:Addr) (kvs:List (Str×Nv)):Prop where
 v:v= .ref d
 sm:(d==QX)=false
 dof:h.DictOf (Oz Z.prog Z.w) d kvs
 keys:kvs.map (·.1)=ks.map bF
 vals:ak Z D h (kvs.map (·.2)) us
 ok:ks.all eU=true
theorem Rd.dct {h:Heap} {v:Nv} {ks:List Sg} {us:List V} (r:Rd Z D h v (.dct ks us)):∃d kvs,JF Z D h v ks us d kvs:=by
 refine Np fun nG=> ?_
 rcases r with r|⟨a,e0,z,kvs,sm,g,e,r⟩
 ·obtain ⟨a,kvs,e0,z,_,sm,g,e,r⟩:=r.says
  exact nG ⟨a,kvs,e0,sm,g,e,r,z⟩
 ·exact nG ⟨a,kvs,e0,sm,g,e,r,z⟩
theorem l8 {f:Int→Int→Bool} {P:Prop} (ra:Rd Z D s.heap a x) (rb:Rd Z D s.heap b y) (e:As f x y=some r) (k:∀i j t t',a= .int i t→b= .int j t'→f i j=r→P):P:=
 af e fun _ e1 e=>am e fun _ e2 e=>let ⟨t,h1⟩:=(cW e1▸ra:Rd Z D s.heap a _).int;let ⟨t',h2⟩:=(cW e2▸rb:Rd Z D s.heap b _).int;k _ _ t t' h1 h2 e
theorem yD (rb:Rd Z D s.heap b y) (e:FF x y=some r):y= .none∧b= .none∧decide (x= .none)=r:=
 V.casesOn (motive_1:=fun y=>Rd Z D s.heap b y→FF x y=some r→y= .none∧b= .none∧decide (x= .none)=r) y (fun q e=>⟨rfl,q.rep.says,Nq e⟩) (fun _ _=>ao) (fun _ _=>ao) (fun _ _=>ao) (fun _ _=>ao) (fun _ _=>ao) (fun _ _ _=>ao) (fun _ _ _=>ao) rb e
theorem uJ (ra:Rd Z D s.heap a x) (rb:Rd Z D s.heap b y) (e:Dg x y=some r) (hu:A.units+64 <SJ):
  ((∀k,Q (.bool r) {s with toks:=k})→NH (model Z.prog Z.w) A (SK .In a b) Q E s)∧((∀k,Q (.bool !r) {s with toks:=k})→NH (model Z.prog Z.w) A (SK .NotIn a b) Q E s):=by
 cases y<;>first|cases e;done|skip
 ·refine aL (c:=gY x _=true) e fun c e'=> ?_
  rw [←Nq e']
  obtain ⟨⟨_,q⟩,⟨_,q'⟩,l1,l2,l3,l4⟩:=BU ra (fun k=>⟨rb.reads (.inl k),rb.rep.tup_lay k⟩) c hu
  exact ⟨fun h=>VM q' q l2 l1 l3 (Eq.mpr (NC (fun z=>Q (.bool z) s) l4) (h s.toks)),fun h=>Vq q' q l2 l1 l3 (Eq.mpr (NC (fun z=>Q (.bool !z) s) l4) (h s.toks))⟩
 ·refine aL (c:=gY x _=true) e fun c e'=> ?_
  rw [←Nq e']
  obtain ⟨⟨_,q⟩,⟨_,q'⟩,l1,l2,l3,l4⟩:=BU ra (fun k=>⟨rb.reads (.inl k),rb.rep.lst_lay k⟩) c hu
  exact ⟨fun h=>V5 q' q l2 l1 l3 (Eq.mpr (NC (fun z=>Q (.bool z) s) l4) (h s.toks)),fun h=>Vy q' q l2 l1 l3 (Eq.mpr (NC (fun z=>Q (.bool !z) s) l4) (h s.toks))⟩
 ·refine am e fun i e1 e2=> ?_
  clear e
  cases dR e1
  rw [←e2]
  refine Np fun nG=> ?_
  obtain ⟨t,rfl⟩:=ra.str
  obtain ⟨d,kvs,rfl,sm,dd,ek,_,_⟩:=rb.dct
  refine nG ?_
  exact ⟨fun h=>wpAny_in_of (knd:=Oz Z.prog Z.w) (k:=bF _) (Ta _ _ _ _) sm dd.mapOf (by rw [kd ek];exact h _),
   fun h=>wpAny_notIn_of (knd:=Oz Z.prog Z.w) (k:=bF _) (Ta _ _ _ _) sm dd.mapOf (by rw [kd ek];exact h _)⟩
theorem kE {o:uQ} (ra:Rd Z D s.heap a x) (rb:Rd Z D s.heap b y) (e:gC o x y=some r) (hu:A.units+64 <SJ) (h:∀k,Q (.bool r) {s with toks:=k}):NH (model Z.prog Z.w) A (SK (eD o) a b) Q E s:=by
 cases o with
 |eq=>exact bU (c:=mF x y=true) e|>.elim fun c e=>let ⟨⟨_,p⟩,⟨_,q⟩,k1,k2,k3⟩:=lW ra rb c;eq_dataH p q k1 k2 hu (by rw [k3,Nq e];exact h s.toks)
 |ne=>exact am e fun _ e e'=>bU (c:=mF x y=true) e|>.elim fun c e=>let ⟨⟨_,p⟩,⟨_,q⟩,k1,k2,k3⟩:=lW ra rb c;ne_dataH p q k1 k2 hu (by rw [k3,Nq e,e'];exact h s.toks)
 |lt=>exact l8 ra rb e fun i j t t' h1 h2 e=>by rw [h1,h2];rw [←e] at h;exact lt_int (h s.toks)
 |le=>exact l8 ra rb e fun i j t t' h1 h2 e=>by rw [h1,h2];rw [←e] at h;exact le_int (h s.toks)
 |gt=>exact l8 ra rb e fun i j t t' h1 h2 e=>by rw [h1,h2];rw [←e] at h;exact gt_int (h s.toks)
 |ge=>exact l8 ra rb e fun i j t t' h1 h2 e=>by rw [h1,h2];rw [←e] at h;exact ge_int (h s.toks)
 |in_=>exact (uJ ra rb e hu).1 h
 |nin=>exact am e fun _ e e'=>(uJ ra rb e hu).2 (by rw [e'];exact h)
 |is_=>exact (yD rb e).elim fun _ q=>by rw [q.1];exact V7 (by rw [isNone ra.rep,q.2];exact h s.toks)
 |isnt=>exact am e fun _ e e'=>(yD rb e).elim fun _ q=>by rw [q.1];exact VI (by rw [isNone ra.rep,q.2,e'];exact h s.toks)
end
end
noncomputable def xm (env:Env) (h:Heap) (x:Str) (v:Nr Nv):Prop:=
 (env.kindOf x=some .local∧∃m,h.Ns env.locals m∧m x=v)∨
 ((env.kindOf x=some .cell∨env.kindOf x=some .free)∧∃c,env.cells.lookup x=some c∧h.IsCell c v)
noncomputable def eF (Z:Wd) (CA:List Addr) (D:Addr→Prop) (h:Heap) (v:Nv):aA→Prop
 | .v u=>b8 Z D h v u
 | .own _=>RA
 | .cell k=>∃a,CA[k]? =some a∧v= .ref a
inductive bS (Z:Wd) (CA:List Addr) (D:Addr→Prop) (h:Heap):List Nv→List aA→Prop
 |nil:bS Z CA D h [] []
 |cons {v vs U Us}:eF Z CA D h v U→bS Z CA D h vs Us→bS Z CA D h (v::vs) (U::Us)
structure Gd (Z:Wd) (CA:List Addr) (σ:ag) (D:Addr→Prop) (h:Heap):Prop where
 base:∀b o,Z.base.get? b=some o→h.get? b=some o
 dabove:∀a,D a→Z.base.objs.size≤a
 low:D Z.base.objs.size
 live:∀a,D a→∃o,h.get? a=some o
 cells:aE Z CA σ D h
noncomputable def Wx (env:Env) (a:Addr):Prop:=a=env.locals∨∃x,env.kindOf x=some .cell∧env.cells.lookup x=some a
noncomputable def Wv (env:Env) (x:Str) (a:Addr):Prop:=(env.kindOf x=some .local∧a=env.locals)∨(env.kindOf x=some .cell∧env.cells.lookup x=some a)
abbrev We (CA:List Addr):Addr→Prop:=fun a=>a∈CA
noncomputable def Ws (env:Env) (CA:List Addr) (a:Addr):Prop:=a∈CA∨Wx env a
abbrev eE:=List (Str×Nat)
structure kh (vars:eE):Prop where
 inj:∀x i y j,(x,i)∈vars→(y,j)∈vars→(x=y↔i=j)
structure St (Z:Wd) (env:Env) (vars:eE) (ρ:Loc) (CA:List Addr) (σ:ag) (D:Addr→Prop) (h:Heap):Prop extends Gd Z CA σ D h where
 ns:∃m,h.Ns env.locals m
 nsD:D env.locals
 nsCA:env.locals∉CA
 pc:∀x c,env.cells.lookup x=some c→D c∧∃v,h.IsCell c v
 pinj:∀x y c,env.cells.lookup x=some c→env.cells.lookup y=some c→x=y
 pcel:∀x,env.kindOf x=some .cell→∃c,env.cells.lookup x=some c
 vars:∀x i,(x,i)∈vars→∀U,ρ[i]? =some (some U)→∃v,xm env h x (some v)∧eF Z CA D h v U
theorem Gd.dbase {Z:Wd} {CA:List Addr} {σ:ag} {D:Addr→Prop} {h:Heap} (G:Gd Z CA σ D h) (a:Addr) (d:D a):Z.base.get? a=none:=by
 cases e:Z.base.get? a with
 |none=>rfl
 |some o=>exact absurd (N7 e) (PD.mpr (G.dabove a d))
theorem Gd.size {Z:Wd} {CA:List Addr} {σ:ag} {D:Addr→Prop} {h:Heap} (G:Gd Z CA σ D h):Z.base.objs.size <h.objs.size:=let ⟨_,e⟩:=G.live _ G.low;N7 e
section
variable {Z:Wd} {env:Env} {vars:eE} {ρ:Loc} {CA:List Addr} {σ σ':ag} {D D':Addr→Prop} {h h':Heap}
theorem eF.mono {v:Nv} {U:aA} (r:eF Z CA D h v U) (k:∀b o,¬D b→h.get? b=some o→¬D' b∧h'.get? b=some o):eF Z CA D' h' v U:=by
 cases U<;>simp only [eF] at r ⊢
 ·exact r.mono k
 ·exact r
theorem bS.length {vs:List Nv} {Us:List aA} (r:bS Z CA D h vs Us):vs.length=Us.length:=by
 induction r with
 |nil=>rfl
 |cons _ _ ih=>exact NC TC ih
theorem bS.append {vs vs':List Nv} {us us':List aA} (r:bS Z CA D h vs us) (q:bS Z CA D h vs' us'):bS Z CA D h (vs++vs') (us++us'):=by
 induction r with
 |nil=>exact q
 |cons x _ ih=>exact .cons x ih
theorem eF.more {CA':List Addr} {v:Nv} {U:aA} (r:eF Z CA D h v U) (e:CA<+:CA'):eF Z CA' D h v U:=by
 cases U<;>simp only [eF] at r ⊢
 ·exact r
 ·obtain ⟨a,x,y⟩:=r
  obtain ⟨t,rfl⟩:=e
  have:∀k:Nat,CA[k]? =some a→(CA++t)[k]? =some a:=fun k q=>by
   have hk:k <CA.length:=by
    rcases Qt k CA.length with l|l
    ·exact l
    ·rw [O0 l] at q;cases q
   rw [OE hk];exact q
  exact ⟨a,this _ x,y⟩
theorem ar {a:Addr} {o:Obj} (n:h.get? a=none) (e:h.get? a=some o):RA:=by rw [n] at e;cases e
theorem Gd.fresh_notD (G:Gd Z CA σ D h) {a:Addr} (n:h.get? a=none):¬D a:=fun x=>let ⟨_,e⟩:=G.live a x;ar n e
theorem d9 (h:Heap):h.get? h.objs.size=none:=by
 cases e:h.get? h.objs.size with
 |none=>rfl
 |some o=>exact absurd (N7 e) (OD _)
theorem iH.bindV {g:Heap} {v:Nv} {U:aA} (r:iH Z g CA σ D h v U) (nd:∀a,g.get? a=none→¬D a):eF Z CA D h v U.bind:=by
 cases U<;>simp only [iH,aA.bind,eF] at r ⊢
 ·exact r
 ·obtain ⟨a,rfl,n,_,c,_⟩:=r
  exact c.rep (nd a n) fun b x=> .inl x
 ·exact r
theorem Gd.step (G:Gd Z CA σ D h) (k:aw (We CA) h h') (c:aE Z CA σ' D h'):Gd Z CA σ' D h' where
 base:=fun b o e=>k b o (G.base b o e) fun m=>by rw [G.dbase b (G.cells.inD b m)] at e;cases e
 dabove:=G.dabove
 low:=G.low
 live:=fun a d=>by
  by_cases m:a∈CA
  ·exact c.live m
  ·let ⟨o,e⟩:=G.live a d;exact ⟨o,k a o e m⟩
 cells:=c
theorem Gd.old (G:Gd Z CA σ D h) (k:aw (We CA) h h'):∀b o,¬D b→h.get? b=some o→¬D b∧h'.get? b=some o:=
 fun b o d e=>⟨d,k b o e fun m=>d (G.cells.inD b m)⟩
theorem Gd.alive (G:Gd Z CA σ D h) (k:aw (We CA) h h') (c:aE Z CA σ' D h') {a:Addr} (n:h'.get? a=none):h.get? a=none:=by
 cases e:h.get? a with
 |none=>rfl
 |some o=>
  by_cases m:a∈CA
  ·exact (let ⟨_,e'⟩:=c.live m;ar n e').elim
  ·exact (ar n (k a o e m)).elim
theorem gG.notCell {a:Addr} {u:V} {v:Nr Nv} (c:gG Z D h a u) (ic:h.IsCell a v):RA:=by
 obtain ⟨o,e,f⟩:=ic
 cases u<;>first|exact c|skip
 ·obtain ⟨_,_,⟨n,z⟩,_⟩:=c;rw [z] at e;cases e;cases f
 ·obtain ⟨_,_,_,⟨_,_,_,z,_,w,_⟩,_⟩:=c;rw [z] at e;cases e;rw [w] at f;cases f
theorem aE.notCell (c:aE Z CA σ D h) {q:Addr} {v:Nr Nv} (ic:h.IsCell q v):q∉CA:=fun m=>
 let ⟨i,hi,e⟩:=Pd m
 have hi':i <σ.length:=c.len▸hi
 (c.at_ i q σ[i] (by rw [NB hi,e]) (NB hi')).notCell ic
theorem St.notCA (S:St Z env vars ρ CA σ D h) {x:Str} {q:Addr} (l:env.cells.lookup x=some q):q∉CA:=let ⟨_,_,i⟩:=S.pc x q l;S.cells.notCell i
theorem xm.keep {x:Str} {v:Nr Nv} (sl:xm env h x v) (a:∀o,h.get? env.locals=some o→h'.get? env.locals=some o) (b:∀c,env.cells.lookup x=some c→∀o,h.get? c=some o→h'.get? c=some o):xm env h' x v:=by
 rcases sl with ⟨k,m,n,z⟩|⟨k,c,l,o,e,f⟩
 ·exact .inl ⟨k,m,n.at' a,z⟩
 ·exact .inr ⟨k,c,l,o,b c l o e,f⟩
theorem IsCell.keep {c:Addr} {v:Nr Nv} (i:h.IsCell c v) (k:∀o,h.get? c=some o→h'.get? c=some o):h'.IsCell c v:=let ⟨o,e,f⟩:=i;⟨o,k o e,f⟩
theorem St.step (S:St Z env vars ρ CA σ D h) (k:aw (We CA) h h') (c:aE Z CA σ' D h'):St Z env vars ρ CA σ' D h' where
 toGd:=S.toGd.step k c
 ns:=let ⟨m,n⟩:=S.ns;⟨m,n.at' fun o e=>k _ o e S.nsCA⟩
 nsD:=S.nsD
 nsCA:=S.nsCA
 pc:=fun x q l=>let ⟨d,v,i⟩:=S.pc x q l;⟨d,v,IsCell.keep i fun o e=>k q o e (S.notCA l)⟩
 pinj:=S.pinj
 pcel:=S.pcel
 vars:=fun x i m U e=>let ⟨v,s,r⟩:=S.vars x i m U e;⟨v,s.keep (fun o e=>k _ o e S.nsCA) (fun _ l o e=>k _ o e (S.notCA l)),r.mono (S.toGd.old k)⟩
theorem aE.grow (c:aE Z CA σ D h) (k:∀b o,h.get? b=some o→h'.get? b=some o) (q:∀b o,h.get? b=some o→D' b→D b) (m:∀b,D b→D' b):aE Z CA σ D' h' where
 len:=c.len
 nodup:=c.nodup
 at_:=fun i a u e e'=>(c.at_ i a u e e').mono (fun o x=>k a o x) fun b o d x=>⟨fun y=>d (q b o x y),k b o x⟩
 inD:=fun a x=>m a (c.inD a x)
end
section
variable {Z:Wd} {M:Model} {A:Od} {E:Nv→Nx→Prop} {s:Nx} {env:Env} {vars:eE} {ρ:Loc} {CA:List Addr} {σ:ag} {D:Addr→Prop}
theorem Bk {x:Str} {i:Nat} {U:aA} {Q:Nv→Nx→Prop} (S:St Z env vars ρ CA σ D s.heap) (hk:env.scope.kind= .function) (m:(x,i)∈vars) (e:ρ[i]? =some (some U)) (hn:(x==("__classdict__":Str))=false)
  (h:∀v,eF Z CA D s.heap v U→Q v s):NH M A (loadName env x) Q E s:=by
 refine Np fun nG=> ?_
 obtain ⟨v,sl,r⟩:=S.vars x i m U e
 refine nG ?_
 rcases sl with ⟨a,mm,n,z⟩|⟨a|a,c,l,i⟩
 ·exact TD hk a n z (h v r)
 ·exact wpAny_loadName_cell hk a l i (h v r)
 ·exact wpAny_loadName_free hk a l i (h v r) hn
theorem Eb {ρ:Loc} {i j:Nat} {x y:Nr aA} (e:(ρ.set i x)[j]? =some y):(i=j∧y=x)∨(i≠j∧ρ[j]? =some y):=by
 by_cases h:i=j
 ·subst h
  by_cases hl:i <ρ.length
  ·rw [Ol hl] at e;exact .inl ⟨rfl,by injection e with e;exact e.symm⟩
  ·rw [O0 (by simpa using hl)] at e;cases e
 ·rw [Oo h] at e;exact .inr ⟨h,e⟩
theorem Ns.notCell {h:Heap} {a:Addr} {m:Str→Nr Nv} {v:Nr Nv} (n:h.Ns a m) (i:h.IsCell a v):RA:=by
 obtain ⟨o',_,_,y1,y2,_⟩:=n
 obtain ⟨o,z,z'⟩:=i
 rw [y1] at z;cases z;rw [y2] at z';cases z'
theorem Ns.same {h:Heap} {a:Addr} {m m':Str→Nr Nv} (n:h.Ns a m) (n':h.Ns a m'):m=m':=by
 obtain ⟨o1,es1,ep1,g1,g2,g3,g4⟩:=n
 obtain ⟨o2,es2,ep2,g5,g6,g7,g8⟩:=n'
 rw [g1] at g5;cases g5
 rw [g2] at g6;cases g6
 exact funext fun x=>(g4 x).symm.trans (g8 x)
theorem Gd.set1 {h h':Heap} {a:Addr} (G:Gd Z CA σ D h) (d:D a) (n:a∉CA) (kp:∀b o,b≠a→h.get? b=some o→h'.get? b=some o) (l:∃o,h'.get? a=some o):Gd Z CA σ D h' where
 base:=fun b o e=>kp b o (fun q=>by subst q;rw [G.dbase _ d] at e;cases e) (G.base b o e)
 dabove:=G.dabove
 low:=G.low
 live:=fun b db=>(Tb (b=a)).elim (fun q=>q▸l) fun q=>let ⟨o,e⟩:=G.live b db;⟨o,kp b o q e⟩
 cells:=G.cells.mono fun b o e q=>kp b o (fun z=>by subst z;exact q.elim n fun y=>y d) e
theorem St.set1 {h h':Heap} {a:Addr} {x:Str} {i:Nat} {v:Nv} {U:aA} (S:St Z env vars ρ CA σ D h) (V:kh vars) (m:(x,i)∈vars) (d:D a) (n:a∉CA) (kp:∀b o,b≠a→h.get? b=some o→h'.get? b=some o) (l:∃o,h'.get? a=some o)
  (ns:∃m,h'.Ns env.locals m) (pc:∀c,env.cells.lookup x=some c∧c=a∨c≠a→(∃v,h.IsCell c v)→∃v,h'.IsCell c v) (pc':∀y c,env.cells.lookup y=some c→env.cells.lookup x=some c∧c=a∨c≠a)
  (r:eF Z CA D h v U) (new:xm env h' x (some v)) (oth:∀y v',y≠x→xm env h y (some v')→xm env h' y (some v')):St Z env vars (ρ.set i (some U)) CA σ D h' where
 toGd:=S.toGd.set1 d n kp l
 ns:=ns
 nsD:=S.nsD
 nsCA:=S.nsCA
 pc:=fun y c l=>let ⟨dc,i⟩:=S.pc y c l;⟨dc,pc c (pc' y c l) i⟩
 pinj:=S.pinj
 pcel:=S.pcel
 vars:=fun y j my U' e=>by
  have nd:∀b o,¬D b→h.get? b=some o→¬D b∧h'.get? b=some o:=fun b o db e=>⟨db,kp b o (fun q=>db (q▸d)) e⟩
  rcases Eb e with ⟨q,q'⟩|⟨q,e'⟩
  ·cases Nq q'
   cases (V.inj x i y j m my).mpr q
   exact ⟨v,new,r.mono nd⟩
  ·let ⟨v',sl,r'⟩:=S.vars y j my U' e'
   exact ⟨v',oth y v' (fun z=>q ((V.inj x i y j m my).mp z.symm)) sl,r'.mono nd⟩
theorem fX {x:Str} {i:Nat} {v:Nv} {U:aA} {Q:Unit→Nx→Prop} (S:St Z env vars ρ CA σ D s.heap) (V:kh vars) (hk:env.scope.kind= .function) (m:(x,i)∈vars)
  (kx:env.kindOf x=some .local∨env.kindOf x=some .cell) (r:eF Z CA D s.heap v U)
  (h:∀h' tk,St Z env vars (ρ.set i (some U)) CA σ D h'→aw (Wv env x) s.heap h'→Q () {s with heap:=h',toks:=tk}):NH M A (storeName env x v) Q E s:=by
 rcases kx with kx|kx
 ·obtain ⟨m0,n0⟩:=S.ns
  refine wpAny_storeName_local kx n0 (fun h' n' sb=>h h' _ ?_ (aw.sameBut sb (.inl ⟨kx,rfl⟩))) (by rw [hk];rfl)
  have nl:∀y c,env.cells.lookup y=some c→c≠env.locals:=fun y c l q=>let ⟨_,_,ic⟩:=S.pc y c l;Ns.notCell n0 (q▸ic)
  exact S.set1 V m S.nsD S.nsCA sb.extBut (let ⟨o,_,_,z,_⟩:=n';⟨o,z⟩) ⟨_,n'⟩ (fun c q ⟨v,ic⟩=>⟨v,IsCell.keep ic fun o e=>sb.extBut c o (fun z=>(q.elim (fun w=>nl x c w.1) id) z) e⟩) (fun y c l=> .inr (nl y c l)) r (.inl ⟨kx,_,n',by simp⟩)
   fun y v' hy sl=>sl.elim (fun ⟨a,mm,n,z⟩=> .inl ⟨a,_,n',by rw [N4 hy,Ns.same n0 n];exact z⟩) fun ⟨a,c,l,ic⟩=> .inr ⟨a,c,l,IsCell.keep ic fun o e=>sb.extBut c o (nl y c l) e⟩
 ·obtain ⟨c,lc⟩:=S.pcel x kx
  obtain ⟨dc,v0,ic⟩:=S.pc x c lc
  refine wpAny_storeName_cell hk kx lc ic (fun h' ic' sb=>h h' s.toks ?_ (aw.sameBut sb (.inr ⟨kx,lc⟩)))
  obtain ⟨m0,n0⟩:=S.ns
  have nl:env.locals≠c:=fun q=>Ns.notCell n0 (q▸ic)
  exact S.set1 V m dc (S.cells.notCell ic) sb.extBut (let ⟨o,z,_⟩:=ic';⟨o,z⟩) ⟨m0,n0.at' fun o e=>sb.extBut _ o nl e⟩ (fun c' q ⟨v,i'⟩=>q.elim (fun w=>w.2▸⟨_,ic'⟩) fun w=>⟨v,IsCell.keep i' fun o e=>sb.extBut c' o w e⟩)
   (fun y c' l=>(Tb (c'=c)).imp (fun (q:c'=c)=>⟨q▸lc,q⟩) id) r (.inr ⟨.inl kx,c,lc,ic'⟩)
   fun y v' hy sl=>sl.keep (fun o e=>sb.extBut _ o nl e) fun c' l o e=>sb.extBut c' o (fun q=>hy (S.pinj y x c' l (q▸lc))) e
end
section
variable {Z:Wd} {D:Addr→Prop} {h:Heap}
structure BB (Z:Wd) (D:Addr→Prop) (h:Heap) (v:Nv) (us:List V) (a:Addr) (items:Qe Nv):Prop where
 v:v= .ref a
 lst:h.IsList a items
 rep:ak Z D h items.toList us
 dct:∃o,h.get? a=some o∧o.dict=none
 len:items.size=us.length
 le:us.length≤16777216
theorem BB.of {a:Addr} {items:Qe Nv} {us:List V} {n:Nat} {o:Obj} (g:h.get? a=some o) (c:o.cls= .type "list") (x:o.dict=none) (e:o.data= .seq items n) (r:ak Z D h items.toList us) (z:us.length≤16777216):BB Z D h (.ref a) us a items:=
 ⟨rfl,⟨_,g,c,_,e⟩,r,⟨_,g,x⟩,by rw [←r.length,OQ],z⟩
theorem Rd.lst {v:Nv} {us:List V} (r:Rd Z D h v (.lst us)):∃a items,BB Z D h v us a items:=by
 refine Np fun nG=> ?_
 rcases r with r|⟨a,e0,z,i,⟨n,p⟩,r⟩
 ·obtain ⟨a,o,vs,n,e0,z,_,g,c,x,e,r⟩:=r.says
  exact nG ⟨a,vs,e0▸ .of g c x e r z⟩
 ·exact nG ⟨a,i,e0▸ .of p rfl rfl rfl r z⟩
structure KP (Z:Wd) (D:Addr→Prop) (h:Heap) (v:Nv) (us:List V) (a:Addr) (items:Qe Nv):Prop where
 v:v= .ref a
 tup:IsTup h a items
 rep:ak Z D h items.toList us
 len:items.size=us.length
 le:us.length≤16777216
theorem Rd.tup {v:Nv} {us:List V} (r:Rd Z D h v (.tup us)):∃a items,KP Z D h v us a items:=by
 refine Np fun nG=> ?_
 rcases r with r|⟨a,_,c⟩
 ·obtain ⟨a,o,vs,n,e0,z,_,g,c,e,r⟩:=r.says
  exact nG ⟨a,vs,e0,⟨_,g,c,_,e⟩,r,by rw [←r.length,OQ],z⟩
 ·exact c.elim
theorem Rd.bool {v:Nv} {b:Bool} (r:Rd Z D h v (.bool b)):v= .bool b:=r.rep.says
theorem b8.rd {v:Nv} {u:V} (r:b8 Z D h v u):Rd Z D h v u:= .inl r
theorem Rd.mono {D':Addr→Prop} {h':Heap} {v:Nv} {u:V} (r:Rd Z D h v u) (k:∀b o,h.get? b=some o→h'.get? b=some o) (q:∀b o,¬D b→h.get? b=some o→¬D' b):Rd Z D' h' v u:=by
 rcases r with r|⟨a,rfl,c⟩
 ·exact .inl (r.mono fun b o d e=>⟨q b o d e,k b o e⟩)
 ·exact .inr ⟨a,rfl,c.mono (fun o e=>k a o e) fun b o d e=>⟨q b o d e,k b o e⟩⟩
theorem eC {n:Nat} (e:cX n=true):n≤PV:=by
 have:=ND e
 simpa [PV] using this
end
section
variable {Z:Wd} {D:Addr→Prop} {A:Od} {E:Nv→Nx→Prop} {s:Nx} {a b:Nv} {x y u:V} {Q:Nv→Nx→Prop}
theorem tq {n:Nat} {i:Int} {k:Nat} (e:lr n i=some k):seqIndex? i n=some k∧k <n∧(0≤i∧i.toNat=k∨i <0∧-(n:Int)≤i∧(i+n).toNat=k):=by
 unfold seqIndex?
 by_cases h0:0≤i
 ·refine aL ((NP h0).symm.trans e) fun h1 e=> ?_
  have e:=Nq e
  dsimp only
  rw [N4 (VN.mpr h0),NF h0,NF h1,e]
  exact ⟨rfl,e▸(Int.toNat_lt h0).mpr h1,.inl ⟨h0,rfl⟩⟩
 ·refine aL ((N4 h0).symm.trans e) fun h1 e=> ?_
  have e:=Nq e
  have hn:=Int.not_le.mp h0
  have h2:0≤i+(n:Int):=Int.add_left_neg (n:Int)▸Int.add_le_add_right h1 (n:Int)
  have h3:i+(n:Int) <n:=RZ (Int.add_lt_add_right hn n) (Int.le_of_eq (Int.zero_add _))
  dsimp only
  rw [NP hn,NF h2,NF h3,e]
  exact ⟨rfl,e▸(Int.toNat_lt h2).mpr h3,.inr ⟨hn,h1,rfl⟩⟩
theorem MX {T id:Rc} {v:Nv} {R:Bool→Nx→Prop} (hT:s.TypeIs v T) (hl:R0 (.type T) "__getitem__"=pure (some (.builtin id))) (h:R false s):NH (model Z.prog Z.w) A (QU v) R E s:=by
 rw [getitemInPython_of_ne hT.not_modules]
 exact Ny (wpAny_specialOf hT hl (NM h))
theorem uc {kvs:List (Str×Nv)} {p:Str×Nv} {k:Str} (e:p.1=k):Ry (p::kvs) k=some p.2:=by simp [Ry,e]
theorem sR {kvs:List (Str×Nv)} {p:Str×Nv} {k:Str} (e:p.1≠k):Ry (p::kvs) k=Ry kvs k:=by simp [Ry,RK,e]
theorem rJ {h:Heap} {x:Sg} {kvs:List (Str×Nv)} {ks:List Sg} {us:List V} (e:kvs.map (·.1)=ks.map bF) (r:ak Z D h (kvs.map (·.2)) us):
  (∃v u,Ry kvs (bF x)=some v∧f0 ks us x=some u∧b8 Z D h v u)∨(Ry kvs (bF x)=none∧f0 ks us x=none):=by
 induction kvs generalizing ks us with
 |nil=>
  cases ks with
  |nil=>exact .inr ⟨rfl,rfl⟩
  |cons=>cases e
 |cons p kvs ih=>
  cases ks with
  |nil=>cases e
  |cons k ks=>
   cases r with
   |cons r1 r2=>
    have e':=OX e
    by_cases q:k=x
    ·exact .inl ⟨_,_,uc (e'.1.trans (q▸rfl)),NP q,r1⟩
    ·have n:p.1≠bF x:=fun z=>q (o6 (e'.1.symm.trans z))
     have a:=ih e'.2 r2
     rw [←sR n] at a
     rw [show f0 (k::ks) (_::_) x=_ from N4 q]
     exact a
theorem tb {kvs:List (Str×Nv)} {ks:List Sg} {us:List V} {x:Sg} {u:V} {h:Heap} (e:kvs.map (·.1)=ks.map bF) (r:ak Z D h (kvs.map (·.2)) us) (g:f0 ks us x=some u):
  ∃v,Ry kvs (bF x)=some v∧b8 Z D h v u:=
 (rJ e r).elim (fun ⟨v,_,a,b,c⟩=>⟨v,a,Nq (g.symm.trans b)▸c⟩) fun ⟨_,b⟩=>nomatch g.symm.trans b
theorem om {us:List V} {items:Qe Nv} (r:ak Z D s.heap items.toList us) (len:items.size=us.length) (le:us.length≤16777216) (rb:Rd Z D s.heap b y) (e:Aq us y=some u):
  ∃i t k v,b= .int i t∧(seqIndex? i us.length=some k∧k <us.length∧(0≤i∧i.toNat=k∨i <0∧-(us.length:Int)≤i∧(i+us.length).toNat=k))∧items[k]? =some v∧b8 Z D s.heap v u∧i <16777216∧-16777217 <i:=
 af e fun i e1 e'=>af e' fun k e2 e3=>by
  clear e e'
  refine Np fun nG=> ?_
  cases cW e1
  obtain ⟨t,rfl⟩:=rb.int
  obtain ⟨v,hv,rv⟩:=r.get e3
  refine nG ?_
  have p:=tq e2
  have q:i <16777216∧-16777217 <i:=by clear hv rv r e1 e2 e3 rb;omega
  exact ⟨i,t,k,v,rfl,p,by rw [←Ox];exact hv,rv,q⟩
theorem z5 (ra:Rd Z D s.heap a x) (rb:Rd Z D s.heap b y) (e:i3 x y=some u) (h:∀v k,b8 Z D s.heap v u→Q v {s with toks:=k}):
  NH (model Z.prog Z.w) A (do let g←QU a;if g=true then runValue (.builtin "lifetime.subscript" ⟨[a,b],[]⟩) else operate [a,b] (getItem a b)) Q E s:=by
 have one:∀{T id a b},s.TypeIs a T→R0 (.type T) "__getitem__"=pure (some (.builtin id))→NH (model Z.prog Z.w) A (getItem a b) Q E s→
   NH (model Z.prog Z.w) A (do let g←QU a;if g=true then runValue (.builtin "lifetime.subscript" ⟨[a,b],[]⟩) else operate [a,b] (getItem a b)) Q E s:=fun hT hl h=>
  Ny (MX (Z:=Z) hT hl (by simp only [Qu,UK];exact Qm h))
 refine Np fun nG=> ?_
 cases x with
 |tup us=>
  obtain ⟨l,items,e0,hl,r,len,le⟩:=ra.tup
  obtain ⟨i,t,k,v,e1,⟨p1,_⟩,hx,rv,q1,q2⟩:=om r len le rb e
  rw [e0,e1] at nG
  exact nG (one (IsTup.typeIs hl) slot_tuple_getitem.lookup (VO hl (by omega) (by omega) (by rw [len];exact p1) hx (h v s.toks rv)))
 |lst us=>
  obtain ⟨l,items,e0,hl,r,_,len,le⟩:=ra.lst
  obtain ⟨i,t,k,v,e1,⟨_,_,p⟩,hx,rv,q1,q2⟩:=om r len le rb e
  rw [e0,e1] at nG
  refine nG (one hl.typeIs slot_list_getitem.lookup ?_)
  rcases p with ⟨p1,p2⟩|⟨p1,p2,p3⟩
  ·exact wpAny_getItem_list hl p1 (by omega) (by rw [p2];exact hx) (h v s.toks rv)
  ·exact wpAny_getItem_list_neg hl p1 (by rw [len];exact p2) (by omega) (by rw [len,p3];exact hx) (h v s.toks rv)
 |dct ks us=>
  refine af e fun i e1 e2=> ?_
  obtain ⟨d,kvs,e0,sm,hd,ek,r,_⟩:=ra.dct
  obtain ⟨t,e3⟩:=(dR e1▸rb:Rd Z D s.heap b (.str i)).str
  obtain ⟨v,hv,rv⟩:=tb ek r e2
  rw [e0,e3] at nG
  exact nG (one hd.typeIs slot_dict_getitem.lookup (wpAny_getItem_of (knd:=Oz Z.prog Z.w) (Ta _ _ _ _) hd.mapOf hv (h v _ rv)))
 |_=>cases e
end
end
section
open PySem PySem.W PyProof.Rows
abbrev bM (h h':Heap):Prop:=∀b o,h.get? b=some o→h'.get? b=some o
abbrev iz (D:Addr→Prop) (h:Heap):Prop:=∀a,D a→∃o,h.get? a=some o
theorem iz.size {D:Addr→Prop} {h:Heap} (L:iz D h):¬D h.objs.size:=fun d=>let ⟨_,e⟩:=L _ d;ar (d9 h) e
theorem iz.grows {D:Addr→Prop} {h h':Heap} (L:iz D h) (g:bM h h'):iz D h':=fun a d=>let ⟨o,e⟩:=L a d;⟨o,g a o e⟩
theorem aG (h:Heap) (o:Obj):bM h (h.push o):=fun _ _ e=>NV _ e
theorem ak.grows {Z:Wd} {D:Addr→Prop} {h h':Heap} {vs:List Nv} {us:List V} (r:ak Z D h vs us) (g:bM h h'):ak Z D h' vs us:=r.mono fun b o d e=>⟨d,g b o e⟩
theorem b8.grows {Z:Wd} {D:Addr→Prop} {h h':Heap} {v:Nv} {u:V} (r:b8 Z D h v u) (g:bM h h'):b8 Z D h' v u:=r.mono fun b o d e=>⟨d,g b o e⟩
theorem mD {Z:Wd} {D:Addr→Prop} {h:Heap} {vs:Qe Nv} {us:List V} {n:Nat} (L:iz D h) (r:ak Z D h vs.toList us) (z:us.length≤16777216):b8 Z D (h.push {cls:= .type "list",data:= .seq vs n}) (.ref h.objs.size) (.lst us):=
 .lst z L.size (Oa _ rfl) rfl rfl rfl (r.grows (aG _ _))
theorem nz {Z:Wd} {D:Addr→Prop} {h:Heap} {vs:Qe Nv} {us:List V} {n:Nat} (L:iz D h) (r:ak Z D h vs.toList us) (z:us.length≤16777216):b8 Z D (h.push {cls:= .type "tuple",data:= .seq vs n}) (.ref h.objs.size) (.tup us):=
 .tup z L.size (Oa _ rfl) rfl rfl (r.grows (aG _ _))
theorem jc {n:Nat} {i:Int}:(if 0≤i then min i.toNat n else (i+(n:Int)).toNat)=clipAt n i∧clipAt n i≤n:=by
 cases i with
 |ofNat k=>exact ⟨(NP (Ot k)).trans (clipAt_nat n k).symm,by rw [show Int.ofNat k=(k:Int) from rfl,clipAt_nat];exact Rv ..⟩
 |negSucc k=>
  have e:clipAt n (Int.negSucc k)=n -(k+1):=clipAt_neg n (k+1) (OJ k)
  rw [e,N4 (Int.not_le.mpr (Int.negSucc_lt_zero k)),UL]
  exact ⟨Int.toNat_sub n (k+1),QC ..⟩
theorem x3 {n:Nat} {lo:Nr Int} {a:Nat} (e:BE n 0 (lo.map .int)=some a):(QY lo none none n).1=(a:Int)∧a≤n:=by
 rw [UM]
 cases lo with
 |none=>cases e;exact ⟨rfl,Oe _⟩
 |some i=>rw [←Nq e];exact ⟨NC _ jc.1.symm,Nt (N8 jc.1) jc.2⟩
theorem sY {n:Nat} {hi:Nr Int} {b:Nat} (e:BE n n (hi.map .int)=some b):(QY none hi none n).2.1=(b:Int)∧b≤n:=by
 rw [UM]
 cases hi with
 |none=>cases e;exact ⟨rfl,NI _⟩
 |some i=>rw [←Nq e];exact ⟨NC _ jc.1.symm,Nt (N8 jc.1) jc.2⟩
theorem sW (lo hi:Nr Int) (n:Nat):QY lo hi none n=((QY lo none none n).1,(QY none hi none n).2.1,1):=rfl
theorem C6 {lo hi:Nr Int} {items:Qe Nv} {a b:Nat} (ea:BE items.size 0 (lo.map .int)=some a) (eb:BE items.size items.size (hi.map .int)=some b):
  slicePick items lo hi none=((items.toList.take b).drop a).toArray:=by
 unfold slicePick
 rw [sW,(x3 ea).1,(sY eb).1]
 show (((VP (a:Int) (b:Int) 1)).filterMap (items[·]?)).toArray=_
 rw [TE,pick_run,VQ]
section
variable {Z:Wd} {D:Addr→Prop} {A:Od} {E:Nv→Nx→Prop} {s:Nx} {a b:Nv} {x y u:V} {Q:Nv→Nx→Prop}
theorem I5 (lo hi:Nr Int) (n:Nat):RV lo hi 1 n=VP (QY lo none none n).1 (QY none hi none n).2.1 1:=rfl
theorem xS {v:Nv} {o:Nr Int} (q:IsPart v o):∃p:Nr (Int×Tok),v=partValue p∧p.map (·.1)=o:=by
 cases q with
 |none=>exact ⟨none,rfl,rfl⟩
 |int i t=>exact ⟨some (i,t),rfl,rfl⟩
theorem Dl {xs ys:Sg} (h:eU xs=true) (k:∀x∈ys,x∈xs):eU ys=true:=NO.mpr fun x m=>NO.mp h x (k x m)
theorem xP {α:Type} (us:List α) (a b:Nat):((us.take b).drop a).length≤us.length:=by rw [Pa,SL];exact Nt (QC ..) (Rv ..)
theorem Eg {α:Type} {us:List α} {a b:Nat} {x:α} (m:x∈(us.take b).drop a):x∈us:=Pj (OB m)
theorem yW {xs:Sg} {ka kb:Nat} (l:kb≤xs.length) (e:kb -ka=xs.length):(xs.take kb).drop ka=xs:=by
 have h:kb=xs.length:=Tn l (e▸QC ..)
 rw [h,Vc]
 rw [h] at e
 cases ka with
 |zero=>rfl
 |succ k=>
  cases xs with
  |nil=>rfl
  |cons x xs=>exact absurd e (Re (Nat.sub_lt (OJ _) (OJ _)))
theorem HL {xs:Sg} {lo hi:Nr Int} {pl pu:Nr (Int×Tok)} {ka kb:Nat} (hpl:pl.map (·.1)=lo) (hpu:pu.map (·.1)=hi) (ea:BE xs.length 0 (lo.map .int)=some ka) (eb:BE xs.length xs.length (hi.map .int)=some kb):
  slicePicked (bF xs) pl pu none=VP (ka:Int) (kb:Int) 1:=by
 unfold slicePicked
 rw [hpl,hpu,gM]
 show RV lo hi 1 xs.length=_
 rw [I5,(x3 ea).1,(sY eb).1]
theorem zl {sl:Addr} {vl vu:Nv} {lo hi:Nr Int} (L:iz D s.heap) (ra:Rd Z D s.heap a x) (hs:s.heap.IsSliceOf sl vl vu .none) (pl:IsPart vl lo) (pu:IsPart vu hi)
  (e:i9 x (lo.map .int) (hi.map .int)=some u) (h:∀v h' k,bM s.heap h'→b8 Z D h' v u→Q v {s with heap:=h',toks:=k}):
  NH (model Z.prog Z.w) A (getItem a (.ref sl)) Q E s:=by
 cases x<;>first|cases e;done|skip
 ·rename_i xs
  refine aL (c:=cX xs.length=true) e fun hz e=> ?_
  refine af e fun ka ea e=>am e fun kb eb e=> ?_
  have ok:=ra.strOk
  refine Np fun nG=> ?_
  obtain ⟨t,rfl⟩:=ra.str
  obtain ⟨pl',rfl,hpl⟩:=xS pl
  obtain ⟨pu',rfl,hpu⟩:=xS pu
  refine nG ?_
  have pk:=HL hpl hpu ea eb
  have pf:(slicePicked (bF xs) pl' pu' none).filterMap ((bF xs).cps[·]?)=(xs.take kb).drop ka:=by rw [pk,TE,pick_run,VQ];rfl
  have fin:∀h' k t,bM s.heap h'→Q (.str (bF ((xs.take kb).drop ka)) t) {s with heap:=h',toks:=k}:=fun h' k t g=>h _ _ _ g (e▸ .str _ t (Dl ok fun _=>Eg))
  refine wpAny_getItem_str_slice (l:=pl') (u:=pu') (st:=none) hs rfl ?_
  unfold sliceMade
  split
  ·rename_i hw
   have l2:(slicePicked (bF xs) pl' pu' none).length=(bF xs).length:=NE (Nz.mp hw).2
   rw [pk,TE,gM] at l2
   have:=fin s.heap s.toks t fun _ _ e=>e
   rw [yW (sY eb).2 (by simpa using l2)] at this
   exact this
  ·refine ⟨?_,?_⟩
   ·show (((slicePicked (bF xs) pl' pu' none).filterMap ((bF xs).cps[·]?)).toArray).size≤PV
    rw [pf,UN];exact Nt (xP _ _ _) (eC hz)
   ·rw [pf];exact fin _ _ _ fun _ _ e=>e
 ·rename_i us
  refine af e fun ka ea e=>am e fun kb eb e=> ?_
  obtain ⟨l,items,rfl,hl,r,_,len,le⟩:=ra.lst
  refine Sx (st:=none) hl hs pl pu .none (by simp) ?_ (by rw [len];exact le)
  rw [C6 (by rw [len];exact ea) (by rw [len];exact eb)]
  exact h _ _ s.toks (aG _ _) (e▸mD L (by simpa using (r.take kb).drop ka) (Nt (xP _ _ _) le))
theorem lO {i:Int} (e:fZ i=true):T0 i≤2^20∧i.natAbs.log2 <9000:=by
 have h:i.natAbs <2^8192:=ND e
 have k:i.natAbs.log2 <8193:=by
  by_cases h0:i.natAbs=0
  ·rw [h0,Nat.log2_zero];omega
  ·have:=(Nat.log2_lt h0).mpr h
   omega
 refine ⟨?_,by omega⟩
 unfold T0
 have e:(2:Nat)^20=1048576:=by decide
 rw [e]
 split<;>omega
noncomputable def ES:FM→TF
 | .add=> .Add| .sub=> .Sub| .mul=> .Mult| .fdiv=> .FloorDiv| .mod=> .Mod| .pow=> .Pow| .band=> .BitAnd| .bxor=> .BitXor| .shr=> .RShift
theorem eA {f:Int→Int→Nr Int} {P:Prop} (ra:Rd Z D s.heap a x) (rb:Rd Z D s.heap b y) (e:pd f x y=some u) (k:∀i j t t' r,a= .int i t→b= .int j t'→f i j=some r→ .int r=u→P):P:=
 af e fun _ e1 e=>af e fun _ e2 e=>am e fun _ e3 e=>let ⟨t,h1⟩:=(cW e1▸ra:Rd Z D s.heap a _).int;let ⟨t',h2⟩:=(cW e2▸rb:Rd Z D s.heap b _).int;k _ _ t t' _ h1 h2 e3 e
theorem B8 {p q:Sg} (a:eU p=true) (b:eU q=true):eU (p++q)=true:=by rw [eU,List.all_append];exact Nz.mpr ⟨a,b⟩
theorem FK (p q:Sg):bF p++bF q=bF (p++q):=by
 show Str.append _ _=_
 simp [Str.append,bF]
theorem EV {us vs:List V} (L:iz D s.heap) (ra:Rd Z D s.heap a (.lst us)) (rb:Rd Z D s.heap b (.lst vs)) (c:us.length+vs.length≤16777216) (h:∀v h' k,bM s.heap h'→b8 Z D h' v (.lst (us++vs))→Q v {s with heap:=h',toks:=k}):
  NH (model Z.prog Z.w) A (binaryOp .Add a b) Q E s:=by
 refine Np fun nG=> ?_
 obtain ⟨l,items,rfl,⟨⟨cls,dd,data,sl⟩,ho,hc,n,hd⟩,r,_,len,_⟩:=ra.lst
 obtain ⟨l',items',rfl,⟨⟨cls2,dd2,data2,sl2⟩,ho2,hc2,n2,hd2⟩,r',_,len',_⟩:=rb.lst
 cases hc;cases hd;cases hc2;cases hd2
 refine nG ?_
 refine Tc ⟨_,ho,rfl⟩ ⟨_,ho2,rfl⟩ noFill_list_add seq_list_add PySem.F.slot_list_add PySem.F.entry_list_add (PySem.F.args_list_add_2 _ _) (list_addW l l' items items' n n2 dd dd2 sl sl2 (by rw [len,len'];exact c)) ⟨ho,ho2,?_⟩
 exact h _ _ s.toks (aG _ _) (mD L (by rw [T3];exact r.append r') (by rw [Nu];exact c))
theorem Ea {us vs:List V} (L:iz D s.heap) (ra:b8 Z D s.heap a (.tup us)) (rb:b8 Z D s.heap b (.tup vs)) (c:us.length+vs.length≤16777216) (h:∀v h' k,bM s.heap h'→b8 Z D h' v (.tup (us++vs))→Q v {s with heap:=h',toks:=k}):
  NH (model Z.prog Z.w) A (binaryOp .Add a b) Q E s:=by
 have ra0:=ra
 have rb0:=rb
 refine Np fun nG=> ?_
 obtain ⟨l,items,rfl,⟨⟨cls,dd,data,sl⟩,ho,hc,n,hd⟩,r,len,_⟩:=ra.rd.tup
 obtain ⟨l',items',rfl,⟨⟨cls2,dd2,data2,sl2⟩,ho2,hc2,n2,hd2⟩,r',len',_⟩:=rb.rd.tup
 cases hc;cases hd;cases hc2;cases hd2
 refine nG ?_
 by_cases hv:items.size=0
 ·refine Tc ⟨_,ho,rfl⟩ ⟨_,ho2,rfl⟩ SM Ud Rf QZ (QP _ _)
   (tuple_addW0 l l' items items' n n2 dd dd2 sl sl2 (by simpa using hv)) ⟨ho,ho2,h _ _ s.toks (fun _ _ e=>e) ?_⟩
  cases SN.mp (len.symm.trans hv);exact rb0
 ·by_cases hw:items'.size=0
  ·refine Tc ⟨_,ho,rfl⟩ ⟨_,ho2,rfl⟩ SM Ud Rf QZ (QP _ _)
    (tuple_addW1 l l' items items' n n2 dd dd2 sl sl2 (by simpa using hv) (by simpa using hw)) ⟨ho,ho2,h _ _ s.toks (fun _ _ e=>e) ?_⟩
   cases SN.mp (len'.symm.trans hw);rw [NQ];exact ra0
  ·exact Tc ⟨_,ho,rfl⟩ ⟨_,ho2,rfl⟩ SM Ud Rf QZ (QP _ _)
    (tuple_addW2 l l' items items' n n2 dd dd2 sl sl2 (by simpa using hv) (by simpa using hw) (by rw [len,len'];exact c)) ⟨ho,ho2,h _ _ s.toks (aG _ _) (nz L (by rw [T3];exact r.append r') (by rw [Nu];exact c))⟩
theorem yT {o:FM} (L:iz D s.heap) (ra:b8 Z D s.heap a x) (rb:b8 Z D s.heap b y) (e:oI o x y=some u) (h:∀v h' k,bM s.heap h'→b8 Z D h' v u→Q v {s with heap:=h',toks:=k}):
  NH (model Z.prog Z.w) A (binaryOp (ES o) a b) Q E s:=by
 have g0:bM s.heap s.heap:=fun _ _ e=>e
 have fin:∀{r t} k,.int r=u→Q (.int r t) {s with toks:=k}:=fun k e=>h _ _ k g0 (e▸ .int _ _)
 cases o with
 |add=>
  refine Np fun nG=> ?_
  cases x with
  |int i=>
   refine am e fun j e1 e2=> ?_
   obtain ⟨t,h1⟩:=ra.says
   obtain ⟨t',h2⟩:=(cW e1▸rb:b8 Z D s.heap b (.int j)).says
   rw [h1,h2] at nG
   exact nG (PyProof.Rows.add_int (fin _ e2))
  |str q=>
   refine af e fun r e1 e2=>aL e2 fun c e3=> ?_
   obtain ⟨o1,t,h1⟩:=ra.says
   obtain ⟨o2,t',h2⟩:=(dR e1▸rb:b8 Z D s.heap b (.str r)).says
   rw [h1,h2] at nG
   exact nG (PyProof.Rows.add_str (fun t' tk=>by rw [FK];exact h _ _ _ g0 (Nq e3▸ .str _ _ (B8 o1 o2))) (by rw [gM,gM];exact eC c))
  |tup q=>exact af e fun r e1 e2=>aL e2 fun c e3=>nG (Ea L ra (kf e1▸rb) (eC c) (Nq e3▸h))
  |lst q=>exact af e fun r e1 e2=>aL e2 fun c e3=>nG (EV L ra.rd (b8.rd (f7 e1▸rb)) (eC c) (Nq e3▸h))
  |_=>cases e
 |sub=>exact eA ra.rd rb.rd e fun i j t t' r h1 h2 h3 h4=>by rw [h1,h2];exact PyProof.Rows.sub_int (Nq h3▸fin _ h4)
 |mul=>
  refine eA ra.rd rb.rd e fun i j t t' r h1 h2 h3 h4=>aL h3 fun c h3=> ?_
  have c:=Nz.mp c
  rw [h1,h2];exact PyProof.Rows.mul_int (Nq h3▸fin _ h4) (IntMulOk.of_bits (lO c.1).1 (lO c.2).1)
 |fdiv=>
  refine eA ra.rd rb.rd e fun i j t t' r h1 h2 h3 h4=>aL h3 fun c h3=> ?_
  have c:=Nz.mp c
  rw [h1,h2];exact V6 (ND c.1) (Nq h3▸fin _ h4) (.inl (PyProof.noPylong_of_log2 (lO (Nz.mp c.2).2).2))
 |mod=>
  refine eA ra.rd rb.rd e fun i j t t' r h1 h2 h3 h4=>aL h3 fun c h3=> ?_
  rw [h1,h2];exact PyProof.Rows.mod_int' c (Nq h3▸fin _ h4)
 |pow=>
  refine eA ra.rd rb.rd e fun i j t t' r h1 h2 h3 h4=>aL h3 fun c h3=> ?_
  have c:=Nz.mp c
  have c2:=Nz.mp c.2
  rw [h1,h2];exact pow_int_small (ND c.1) (RW (ND c2.1) (by decide)) (ND c2.2) (Nq h3▸fin _ h4)
 |band=>exact eA ra.rd rb.rd e fun i j t t' r h1 h2 h3 h4=>by rw [h1,h2];exact PyProof.Rows.and_int (Nq h3▸fin _ h4)
 |bxor=>exact eA ra.rd rb.rd e fun i j t t' r h1 h2 h3 h4=>by rw [h1,h2];exact PyProof.Rows.xor_int (Nq h3▸fin _ h4)
 |shr=>
  refine eA ra.rd rb.rd e fun i j t t' r h1 h2 h3 h4=>aL h3 fun c h3=> ?_
  rw [h1,h2];exact PyProof.Rows.rshift_int c (Nq h3▸fin _ h4)
end
end
section
open PySem PySem.W PyProof.Rows
set_option tactic.hygienic false
theorem gK {β:Type} {us:List β} {b:β} (e:one us=some b):us=[b]:=by
 match us,e with
 |[a],e=>rw [Nq e]
theorem gj {β α:Type} {us:List β} {f:β→β→Nr α} {r:α} (e:two us f=some r):∃a b,us=[a,b]∧f a b=some r:=by
 match us,e with
 |a::us,e=>exact af e fun b e1 e2=>⟨a,b,by rw [gK e1],e2⟩
abbrev DI (D:Addr→Prop) (I J:Addr):Addr→Prop:=fun b=>D b∨b=I∨b=J
section
variable {Z:Wd} {D D':Addr→Prop} {h h':Heap}
theorem pB {β α:Type} {us:List β} {f:β→β→Nr α} {r:α} {P:Prop} (e:two us f=some r) (K:∀a b,us=[a,b]→f a b=some r→P):P:=let ⟨a,b,h1,h2⟩:=gj e;K a b h1 h2
theorem mT {α:Type} {l:List α} {i:Nat} {x:α} {xs:List α} (e:l.drop i=x::xs):l[i]? =some x∧l.drop (i+1)=xs:=by
 have h1:(l.drop i)[0]? =some x:=by rw [e];rfl
 rw [PK] at h1
 refine ⟨by simpa using h1,?_⟩
 rw [←List.drop_drop,e];rfl
theorem ak.dropCons {vs:List Nv} {i:Nat} {x:V} {us:List V} (r:ak Z D h (vs.drop i) (x::us)):∃v,vs[i]? =some v∧b8 Z D h v x∧ak Z D h (vs.drop (i+1)) us:=by
 generalize hd:vs.drop i=w at r
 cases r with
 |cons a b=>
  obtain ⟨e1,e2⟩:=mT hd
  exact ⟨_,e1,a,e2▸b⟩
theorem ak.one {vs:List Nv} {x:V} (r:ak Z D h vs [x]):∃v,vs=[v]∧b8 Z D h v x:=by
 cases r with|cons a r=>cases r;exact ⟨_,rfl,a⟩
theorem ak.two {vs:List Nv} {x y:V} (r:ak Z D h vs [x,y]):∃v w,vs=[v,w]∧b8 Z D h v x∧b8 Z D h w y:=by
 cases r with|cons a r=>obtain ⟨w,rfl,b⟩:=r.one;exact ⟨_,_,rfl,a,b⟩
theorem ak.dropNil {vs:List Nv} {i:Nat} (r:ak Z D h (vs.drop i) []):vs[i]? =none:=by
 have:=r.length
 rw [Pa,RL] at this
 exact O0 (by omega)
end
section
variable {Z:Wd} {D:Addr→Prop} {h:Heap}
theorem pX {p:Str×Nv} {kvs:List (Str×Nv)} {k:Str} {v:Nv} (hn:p.1≠k):stored (p::kvs) k v=p::stored kvs k v:=by
 unfold stored
 simp only [Rz,hn,decide_false,Bool.false_or]
 split
 ·simp [hn]
 ·simp
theorem sE {k:Str} {v:Nv}:∀{l:List (Str×Nv)},(∀q∈l,q.1≠k)→l.map (fun kv=>if kv.1=k then (kv.1,v) else kv)=l
 |[],_=>rfl
 |q::l,hl=>by rw [NJ,N4 (hl q OY),sE fun y hy=>hl y (OS _ hy)]
theorem qy {p:Str×Nv} {kvs:List (Str×Nv)} {k:Str} {v:Nv} (e:p.1=k) (n:∀q∈kvs,q.1≠k):stored (p::kvs) k v=(k,v)::kvs:=by
 unfold stored
 simp only [Rz,e,decide_true,Td,if_true,NJ,sE n]
theorem ti {ks:List Sg} {us:List V} {x k:Sg} {u w:V} (e:k=x):eB (k::ks) (w::us) x u=(k::ks,u::us):=NP e
theorem tN {ks:List Sg} {us:List V} {x k:Sg} {u w:V} (e:k≠x):eB (k::ks) (w::us) x u=(k::(eB ks us x u).1,w::(eB ks us x u).2):=N4 e
theorem oC {x:Sg} {v:Nv} {u:V} {kvs:List (Str×Nv)} {ks:List Sg} {us:List V} (e:kvs.map (·.1)=ks.map bF) (r:ak Z D h (kvs.map (·.2)) us) (nd:(kvs.map (·.1)).Nodup) (rv:b8 Z D h v u):
  (stored kvs (bF x) v).map (·.1)=(eB ks us x u).1.map bF∧ak Z D h ((stored kvs (bF x) v).map (·.2)) (eB ks us x u).2:=by
 induction kvs generalizing ks us with
 |nil=>
  cases ks with
  |nil=>cases r;exact ⟨rfl,.cons rv .nil⟩
  |cons=>cases e
 |cons p kvs ih=>
  cases ks with
  |nil=>cases e
  |cons k ks=>
   cases r with
   |cons r0 r=>
    rw [NJ,Pl] at nd
    have e1:=OX e
    by_cases q:k=x
    ·have hk:p.1=bF x:=e1.1.trans (q▸rfl)
     rw [qy hk fun y hy z=>nd.1 (by rw [hk,←z];exact O1 hy),ti q]
     exact ⟨congr (NC List.cons (NC bF q.symm)) e1.2,.cons rv r⟩
    ·have:=ih e1.2 r nd.2
     rw [pX fun z=>q (o6 (e1.1.symm.trans z)),tN q]
     exact ⟨congr (NC List.cons e1.1) this.1,.cons r0 this.2⟩
theorem nj {P:Sg→Prop} {x:Sg} {u:V} (hx:P x):∀{ks:List Sg} {us:List V},(∀k∈ks,P k)→∀k∈(eB ks us x u).1,P k
 |[],_,_,k,m=>by cases N3.mp m;exact hx
 |y::ks,[],_,k,m=>by cases N3.mp m;exact hx
 |y::ks,w::us,a,k,m=>by
  by_cases q:y=x
  ·rw [ti q] at m;exact a k m
  ·rw [tN q] at m;exact (NW.mp m).elim (fun z=>z▸a y OY) fun m=>nj hx (fun z mz=>a z (OS _ mz)) k m
end
theorem sS:R0 (.type "list") "keys"=pure none:=am_miss_of_fast (by decide+kernel)
section
variable {prog:Ob} {w:Pz} {A:Od} {E:Nv→Nx→Prop} {s:Nx}
theorem zG {l:Addr} {o:Obj} {xs:Qe Nv} {k:Nat} {Q:Nr Nv→Nx→Prop} (hx:s.heap.get? l=some o) (hc:o.cls= .type "list") (hdat:o.data= .seq xs k) (hd:o.dict=none) (hA:A.handled=none)
  (h:∀h' tk,(∀b o,s.heap.get? b=some o→h'.get? b=some o)→Q none {s with heap:=h',toks:=tk}):
  NH (model prog w) A (getAttr? (.ref l) "keys") Q E s:=by
 obtain ⟨c,dct,dat,sl⟩:=o
 simp only at hc hdat hd
 subst hc hdat hd
 obtain ⟨hp,g,d,tk,os⟩:=s
 have hT:∀tk',(⟨hp,g,d,tk',os⟩:Nx).TypeIs (.ref l) "list":=fun _=>⟨_,hx,rfl⟩
 have f1:=sub_AttributeError
 have f3:=F.slot_list_getattribute.lookup
 have f4:=F.slot_list_getattribute.bind (.ref l)
 have f5:=am_list_getattr_none
 unfold getAttr? getAttrBy? getAttrBy
 repeat (any_goals (first|assumption|exact hT _|((with_reducible show NH _ _ (call (Value.builtin "list.__getattribute__") _ _) _ _ _);refine Ux F.slot_list_getattribute (hT _) am_entry_list_getattribute (F.args_list_getattribute_2 _ _) (meets_getattribute_miss_list l xs k sl "keys" _ sS (by decide+kernel) (by decide+kernel)) ⟨hx,hA,fun h' tk' e hx'=> ?_⟩)|wp_step))
 refine Np fun nG=> ?_
 obtain ⟨t',u',he⟩:=hx'.there
 refine nG ?_
 show NH _ _ (getattributeRaised _ _ _ _ _ _ _) _ _ _
 unfold getattributeRaised
 repeat (any_goals (first|assumption|wp_step))
 exact h _ _ hx'.keeps
end
theorem iN:entryFor table "dict.update.loop"=some Builtin.«dict.update.loop»:=entryFor_of_tree (by kernel_rfl)
theorem iM (args:Args):(UO "dict.update.loop" args).quiet=true:=R1 _ (by decide+kernel)
section
variable {Z:Wd} {A:Od} {s:Nx}
noncomputable def KO (ck:List Sg) (cw:List V) (ks:List Sg) (ws:List V):List Sg×List V:=(ks.zip ws).foldl (fun d kv=>eB d.1 d.2 kv.1 kv.2) (ck,cw)
theorem vI {x:Sg} {w:V}:∀{ks:List Sg} {ws:List V},(eB ks ws x w).1.length≤ks.length+1
 |[],_=>NI _
 |_::_,[]=>NX (Oe _)
 |k::ks,v::vs=>by
  by_cases q:k=x
  ·rw [ti q];exact NZ _
  ·rw [tN q];exact NX vI
theorem v8 {y:V} {ys:List V} {q:List Sg×List V} (e:ij (y::ys)=some q):∃k u q',y= .tup [.str k,u]∧ij ys=some q'∧q=(k::q'.1,u::q'.2):=
 af e fun p e1 e=>let ⟨a,u,e2,e⟩:=gj e;af e fun k e3 e=>am e fun q' e4 e=>⟨k,u,q',by rw [kf e1,e2,dR e3],e4,e.symm⟩
structure DL (Z:Wd) (D:Addr→Prop) (d I l:Addr) (items:Qe Nv) (i:Nat) (ys:List V) (kvs:List (Str×Nv)) (ck:List Sg) (cw:List V) (h:Heap):Prop where
 it:h.IsListIter I l i
 lst:∃o n,h.get? l=some o∧o.cls= .type "list"∧o.data= .seq items n
 rep:ak Z D h (items.toList.drop i) ys
 dof:h.DictOf (Oz Z.prog Z.w) d kvs
 keys:kvs.map (·.1)=ck.map bF
 vals:ak Z D h (kvs.map (·.2)) cw
 ok:∀k∈ck,eU k=true
structure DE (Z:Wd) (D:Addr→Prop) (d I:Addr) (cd:List Sg×List V) (h h':Heap) (kvs':List (Str×Nv)):Prop where
 keep:∀b o,b≠d→b≠I→h.get? b=some o→h'.get? b=some o
 dof:h'.DictOf (Oz Z.prog Z.w) d kvs'
 keys:kvs'.map (·.1)=cd.1.map bF
 vals:ak Z D h' (kvs'.map (·.2)) cd.2
 ok:∀k∈cd.1,eU k=true
theorem DictOf.keep {h h':Heap} {d:Addr} {kvs:List (Str×Nv)} (x:h.DictOf (Oz Z.prog Z.w) d kvs) (k:∀o,h.get? d=some o→h'.get? d=some o):h'.DictOf (Oz Z.prog Z.w) d kvs:=let ⟨o,es,ep,g,q⟩:=x;⟨o,es,ep,k o g,q⟩
theorem DictOf.nodup {h:Heap} {d:Addr} {kvs:List (Str×Nv)} (x:h.DictOf (Oz Z.prog Z.w) d kvs):(kvs.map (·.1)).Nodup:=let ⟨_,_,_,_,_,_,_,_,nd⟩:=x;nd
theorem y9 {D:Addr→Prop} {d I l:Addr} {items:Qe Nv} (hA:A.handled=none) (dI:d≠I) (dl:d≠l) (Il:I≠l) (dd:D d) (dI':D I):
  ∀{ys:List V} {q:List Sg×List V} {i:Nat} {s:Nx} {kvs:List (Str×Nv)} {ck:List Sg} {cw:List V} {t:Tok},ij ys=some q→DL Z D d I l items i ys kvs ck cw s.heap→ck.length+q.1.length≤16777216→∀{R:Qx→Nx→Prop},
   (∀h' tk kvs',DE Z D d I (KO ck cw q.1 q.2) s.heap h' kvs'→R (.ok (.ret .none)) {s with heap:=h',toks:=tk})→
   PB (model Z.prog Z.w) A (.builtin "dict.update.loop" ⟨[.ref d,.ref I,.int i t,.none],[]⟩) R s:=by
 intro ys
 induction ys with
 |nil=>
  intro q i s kvs ck cw t e S hz R h
  refine Np fun nG=> ?_
  obtain ⟨o,n,hl,hc,hd⟩:=S.lst
  cases Nq e
  refine nG ?_
  refine Vz iN ?_
  show NH _ _ (pyNext (.ref I)>>=_) _ _ _
  refine Ny (Tu hA S.it (l:=l) ⟨o,hl,hc,n,hd⟩ (by rw [←Ox];exact S.rep.dropNil) fun h' sb=> ?_)
  show NH _ _ (V8 d []>>=_) _ _ _
  exact Ny (NM (NM (h h' s.toks kvs ⟨fun b o _ b2 e=>sb b o b2 e,DictOf.keep S.dof fun o e=>sb d o dI e,S.keys,S.vals.mono fun b o q e=>⟨q,sb b o (fun z=>q (z▸dI')) e⟩,S.ok⟩)))
 |cons y ys ih=>
  intro q i s kvs ck cw t e S hz R h
  refine Np fun nG=> ?_
  obtain ⟨o,n,hl,hc,hd⟩:=S.lst
  obtain ⟨v,hv,rv,r'⟩:=S.rep.dropCons
  obtain ⟨k,u,q',rfl,ep,rfl⟩:=v8 e
  refine nG ?_
  refine Vz iN ?_
  show NH _ _ (pyNext (.ref I)>>=_) _ _ _
  refine Ny (Te S.it (l:=l) ⟨o,hl,hc,n,hd⟩ (x:=v) (by rw [←Ox];exact hv) fun h1 hi1 sb=> ?_)
  have old:∀b o,¬D b→s.heap.get? b=some o→¬D b∧h1.get? b=some o:=fun b o q e=>⟨q,sb.extBut b o (fun z=>q (z▸dI')) e⟩
  refine Np fun nG=> ?_
  obtain ⟨a,its,rfl,⟨ot,ga,ca,nt,ea⟩,ra,_,_⟩:=(rv.mono old).rd.tup
  obtain ⟨v1,v2,hits,r1,r2⟩:=ra.two
  have kok:=r1.rd.strOk
  obtain ⟨tk,rfl⟩:=r1.rd.str
  refine nG ?_
  refine Ny (Ou (Ny (wpAny_tryCatch ?_)))
  unfold Builtin.Dict.pairItems
  refine Ny (wpAny_typeOf ⟨ot,ga,ca⟩ ?_)
  rw [NP (by decide)]
  refine Ny (wpAny_seqItems ga ea (NM ?_))
  dsimp only [Option.getD_some]
  rw [hits]
  refine Ou (wpAny_dictSet_pairs (knd:=Oz Z.prog Z.w) (k:=bF k) (kvs:=kvs) (by simp [Oz,Value.isStrOf]) (DictOf.keep S.dof fun o e=>sb.extBut d o dI e) (fun h2 dof2 sb2=> ?_) ?_)
  ·have old2:∀b o,¬D b→h1.get? b=some o→¬D b∧h2.get? b=some o:=fun b o q e=>⟨q,sb2.extBut b o (fun z=>q (z▸dd)) e⟩
   have st:=oC (x:=k) S.keys ((S.vals.mono old).mono old2) (DictOf.nodup S.dof) (r2.mono old2)
   refine NM ⟨iM _,?_⟩
   show PB _ A (.builtin "dict.update.loop" ⟨[.ref d,.ref I,.int ((i+1:Nat):Int) 0,.none],[]⟩) R _
   exact ih (s:={s with heap:=h2,toks:=_}) ep
    ⟨hi1.extBut sb2.extBut (TX dI),⟨o,n,sb2.extBut l o (TX dl) (sb.extBut l o (TX Il) hl),hc,hd⟩,(r'.mono old).mono old2,dof2,st.1,st.2,nj kok S.ok⟩
    (Nt (OK vI _) (by rw [OA,O2 1];exact hz)) fun h3 tk3 kvs3 ⟨k3,d3,e3,r3,o3⟩=>h h3 tk3 kvs3 ⟨fun b o b1 b2 e=>k3 b o b1 b2 (sb2.extBut b o b1 (sb.extBut b o b2 e)),d3,e3,r3,o3⟩
  ·show kvs.length≤16777216
   rw [show kvs.length=ck.length by simpa using NC P1 S.keys]
   exact Nt (Oj _ _) hz
theorem wU {D:Addr→Prop} {v:Nv} {us:List V} {w:V} {Q:Nv→Nx→Prop} {X:Nv→Nx→Prop} (L:iz D s.heap) (hb:∀d,s.heap.objs.size≤d→(d==QX)=false) (hh:A.handled=none) (rv:Rd Z D s.heap v (.lst us)) (e:G3 us=some w)
  (h:∀v h' k,bM s.heap h'→b8 Z D h' v w→Q v {s with heap:=h',toks:=k}):NH (model Z.prog Z.w) A (call (.type "dict") [v]) Q X s:=by
  refine Np fun nG=> ?_
  refine af e fun q ep e=> ?_
  refine aL e fun hz e=> ?_
  cases Nq e
  obtain ⟨l,items,rfl,⟨o,gl,cl,n,el⟩,rl,⟨o',gl',xl⟩,_,_⟩:=rv.lst
  cases gl.symm.trans gl'
  refine nG ?_
  refine callType_codes (Q₁:=fun obj s₁=>obj= .ref s.heap.objs.size∧s₁={s with heap:=s.heap.push {cls:= .type "dict",data:= .dict #[]}}) F.kt_called_dict (F.kt_typeCall_dict_1 _) F.entry_dict_init (kt_code_dict_new _ ⟨rfl,rfl⟩) ?_
  rintro obj s₁ ⟨rfl,rfl⟩
  have hnew:(s.heap.push {cls:= .type "dict",data:= .dict #[]}).DictOf (Oz Z.prog Z.w) s.heap.objs.size []:=VA s.heap
  refine ⟨hnew.typeIs,F.args_dict_init_2 _ _,?_⟩
  unfold Builtin.«dict.__init__»
  refine Ny ?_
  unfold V9
  refine Ny (wpAny_notOrdered_dict hnew.typeIs ?_)
  show NH _ _ (pure (s.heap.objs.size,[Q1 l])) _ _ _
  refine NM ?_
  show NH _ _ (SO "dict.__init__" s.heap.objs.size (.ref l) [] .none) _ _ _
  unfold SO
  have gl1:(s.heap.push {cls:= .type "dict",data:= .dict #[]}).get? l=some o:=NV _ gl
  refine Ny (wpAny_typeOf (s:={s with heap:=s.heap.push {cls:= .type "dict",data:= .dict #[]}}) ⟨o,gl1,cl⟩ ?_)
  rw [NP (by decide)]
  refine Ny (zG (s:={s with heap:=s.heap.push {cls:= .type "dict",data:= .dict #[]}}) gl1 cl el xl hh fun h1 t1 k1=> ?_)
  have gl2:=k1 l o gl1
  simp only [Uy,if_true]
  refine Ny (wpAny_rule (Ny (Sm (s:={s with heap:=h1,toks:=t1}) ⟨o,gl2,cl,n,el⟩ ?_)))
  refine NM ⟨iM _,?_⟩
  dsimp only
  have nd:s.heap.get? s.heap.objs.size=none:=d9 _
  have gd:∃o,h1.get? s.heap.objs.size=some o:=⟨_,k1 _ _ (Oa _ rfl)⟩
  have ndI:s.heap.objs.size≠h1.objs.size:=fun z=>by obtain ⟨_,e⟩:=gd;rw [z] at e;exact OD _ (N7 e)
  have ndl:s.heap.objs.size≠l:=fun z=>by rw [←z,nd] at gl;cases gl
  have nIl:h1.objs.size≠l:=fun z=>by rw [←z] at gl2;exact OD _ (N7 gl2)
  have nI:s.heap.get? h1.objs.size=none:=by
   cases q:s.heap.get? h1.objs.size with
   |none=>rfl
   |some o=>exact absurd (N7 (k1 _ _ (NV _ q))) (OD _)
  have up:∀b o,s.heap.get? b=some o→(h1.push {cls:= .type "list_iterator",data:= .fields #[.ref l,.int 0 0]}).get? b=some o:=fun b o e=>NV _ (k1 _ _ (NV _ e))
  have old:∀b o,¬D b→s.heap.get? b=some o→¬DI D s.heap.objs.size h1.objs.size b∧(h1.push {cls:= .type "list_iterator",data:= .fields #[.ref l,.int 0 0]}).get? b=some o:=fun b o q e=>
   ⟨fun z=>z.elim q fun z=>z.elim (fun z=>by subst z;exact ar nd e) fun z=>by subst z;exact ar nI e,up b o e⟩
  refine y9 (A:=A.in1) (t:=0) (D:=DI D s.heap.objs.size h1.objs.size) (d:=s.heap.objs.size) (I:=h1.objs.size) (l:=l) (items:=items) (i:=0) (s:={s with heap:=h1.push {cls:= .type "list_iterator",data:= .fields #[.ref l,.int 0 0]},toks:=t1}) hh ndI ndl nIl (.inr (.inl rfl)) (.inr (.inr rfl)) ep
   (kvs:=[]) (ck:=[]) (cw:=[]) ⟨⟨_,Oa _ rfl,rfl,rfl⟩,⟨o,n,up l o gl,cl,el⟩,rl.mono old,DictOf.keep hnew fun o e=>NV _ (k1 _ _ e),rfl,.nil,fun _ m=>nomatch m⟩ (by rw [RL,Ow];exact eC hz) fun h3 tk3 kvs3 ⟨k3,d3,e3,r3,o3⟩=> ?_
  refine ⟨rfl,h _ h3 tk3 (fun b o e=>k3 b o (fun z=>by subst z;exact ar nd e) (fun z=>by subst z;exact ar nI e) (up b o e)) ?_⟩
  exact .dct (NO.mpr o3) (fun z=>let ⟨_,e⟩:=L _ z;ar nd e) (hb _ (NI _)) d3 e3 (r3.mono fun b o q e=>⟨fun z=>q (.inl z),e⟩)
end
end
section
open PySem PySem.W PyProof.Rows
inductive gz (Z:Wd) (D:Addr→Prop) (h:Heap):List Nv→List V→Prop
 |nil:gz Z D h [] []
 |cons {v vs u us}:Rd Z D h v u→gz Z D h vs us→gz Z D h (v::vs) (u::us)
section
variable {Z:Wd} {D:Addr→Prop} {h:Heap} {vs:List Nv} {us:List V} {u w:V} {P:Prop}
theorem gz.one (r:gz Z D h vs [u]):∃v,vs=[v]∧Rd Z D h v u:=by
 cases r with|cons a b=>cases b;exact ⟨_,rfl,a⟩
theorem gz.two (r:gz Z D h vs [u,w]):∃v y,vs=[v,y]∧Rd Z D h v u∧Rd Z D h y w:=by
 cases r with|cons a r=>obtain ⟨y,h1,b⟩:=gz.one r;subst h1;exact ⟨_,_,rfl,a,b⟩
theorem gz.one_elim {f:V→Nr V} (r:gz Z D h vs us) (e:(Internal.one us).bind f=some u) (k:∀v x,vs=[v]→Rd Z D h v x→f x=some u→P):P:=
 af e fun x e1 e2=>let ⟨v,h1,h2⟩:=gz.one (gK e1▸r);k v x h1 h2 e2
theorem gz.two_elim {f:V→V→Nr V} (r:gz Z D h vs us) (e:Internal.two us f=some u) (k:∀v v' x x',vs=[v,v']→Rd Z D h v x→Rd Z D h v' x'→f x x'=some u→P):P:=
 let ⟨a,b,e1,e2⟩:=gj e;let ⟨v,w,h1,h2,h3⟩:=gz.two (e1▸r);k v w a b h1 h2 h3 e2
theorem ak.one_elim {f:V→Nr V} (r:ak Z D h vs us) (e:(Internal.one us).bind f=some u) (k:∀v x,vs=[v]→b8 Z D h v x→f x=some u→P):P:=
 af e fun x e1 e2=>let ⟨v,h1,h2⟩:=ak.one (gK e1▸r);k v x h1 h2 e2
theorem ak.two_elim {f:V→V→Nr V} (r:ak Z D h vs us) (e:Internal.two us f=some u) (k:∀v v' x x',vs=[v,v']→b8 Z D h v x→b8 Z D h v' x'→f x x'=some u→P):P:=
 let ⟨a,b,e1,e2⟩:=gj e;let ⟨v,w,h1,h2,h3⟩:=ak.two (e1▸r);k v w a b h1 h2 h3 e2
end
noncomputable def Lp:Bf→Nv
 | .len=> .builtin "len"| .list_=> .type "list"| .tuple_=> .type "tuple"| .dict_=> .type "dict"| .str_=> .type "str"| .int_=> .type "int"
 | .all_=> .builtin "all"| .min_=> .builtin "min"| .max_=> .builtin "max"
section
variable {Z:Wd} {D:Addr→Prop} {A:Od} {E:Nv→Nx→Prop} {s:Nx} {vs:List Nv} {us:List V} {u:V} {Q:Nv→Nx→Prop}
noncomputable def oW (vs:List Nv) (i:Nat):Bool:=match vs[i]? with|some (.bool b)=>b|_=>true
theorem zo {h:Heap} {vs:List Nv} {us:List V} {b:Bool} (r:ak Z D h vs us) (e:Hb us=some b):(∀(i:Nat) (v:Nv),vs[i]? =some v→∃c,v=Value.bool c)∧(Pf vs.length).all (oW vs)=b:=by
 induction us generalizing vs b with
 |nil=>cases r;exact ⟨fun _ _ e=>(nomatch e),Nq e⟩
 |cons u us ih=>
  cases r with
  |cons x r=>
   refine af e fun c e1 e4=>am e4 fun d e2 e3=> ?_
   have hv:=(mW e1▸x:b8 Z D h _ (.bool c)).says
   have a:=ih r e2
   refine ⟨fun i w hi=> ?_,?_⟩
   ·cases i with
    |zero=>exact ⟨c,Nq hi▸hv⟩
    |succ i=>exact a.1 i w hi
   ·rw [O5,PW,List.all_cons,List.all_map,←e3,←a.2,hv];rfl
theorem oK (n:Nat):(NK (toString (n:Int)):Str)=bF (eK n):=by
 rw [Str.ofString_eq_toList]
 have:toString (n:Int)=String.ofList (Nat.toDigits 10 n):=rfl
 rw [this,String.toList_ofList]
 rfl
theorem vR {n:Nat} (h:n <10000000000):n.log2 <1920:=by
 by_cases h0:n=0
 ·subst h0;rw [Nat.log2_zero];omega
 ·have:n <2^34:=On h (OH rfl)
  have:=(Nat.log2_lt h0).mpr this
  omega
variable {v:Nv} {x:V}
theorem y6 (q:Rd Z D s.heap v x) (e:Jy x=some u) (h:∀i t k,.int i=u→Q (.int i t) {s with toks:=k}):NH (model Z.prog Z.w) A (call (.builtin "len") [v]) Q E s:=by
 cases x<;>first|cases e;done|skip
 ·refine aL e fun c e=> ?_
  obtain ⟨t,rfl⟩:=q.str
  have c:=ND c
  exact PyProof.Rows.len_str (by rw [gM];omega) (h _ _ _ (by rw [gM];exact Nq e))
 ·obtain ⟨a,items,rfl,hl,ri,len,le⟩:=q.tup
  exact PyProof.Rows.len_tuple hl (by rw [len];omega) (h _ _ _ (by rw [len];exact Nq e))
 ·obtain ⟨a,items,rfl,hl,ri,_,len,le⟩:=q.lst
  exact PyProof.Rows.len_list hl (by rw [len];omega) (h _ _ _ (by rw [len];exact Nq e))
theorem sA {h:Heap}:∀{l:List Nv} {cs:Sg},l.length=cs.length→(∀(j:Nat) (v:Nv),l[j]? =some v→∃c t,cs[j]? =some c∧v=Wj ⟨#[c]⟩ t)→eU cs=true→ak Z D h l (cs.map fun c=>V.str [c])
 |[],[],_,_,_=> .nil
 |[],_::_,hl,_,_=>nomatch hl
 |_::_,[],hl,_,_=>nomatch hl
 |v::l,c::cs,hl,hx,ok=>by
  have ok:=Nz.mp ok
  refine .cons ?_ (sA (PX hl) (fun j w hj=>hx (j+1) w hj) ok.2)
  obtain ⟨c',t',e1,rfl⟩:=hx 0 v rfl
  cases Nq e1
  exact .str [c] t' (Nz.mpr ⟨ok.1,rfl⟩)
theorem uu {h:Heap} {prog:Ob} {w:Pz}:∀{l:List Nv} {ks:List Sg} {kvs:List (Str×Nv)},l.length=ks.length→kvs.map (·.1)=ks.map bF→(∀(j:Nat) (v:Nv),l[j]? =some v→∃k x,kvs[j]? =some (k,x)∧(Oz prog w).is k v=true)→ks.all eU=true→ak Z D h l (po ks)
 |[],[],_,_,_,_,_=> .nil
 |[],_::_,_,hl,_,_,_=>nomatch hl
 |_::_,[],_,hl,_,_,_=>nomatch hl
 |_::_,_::_,[],_,he,_,_=>nomatch he
 |v::l,c::cs,kv::kvs,hl,he,hx,ok=>by
  have ok:=Nz.mp ok
  refine .cons ?_ (uu (PX hl) (OX he).2 (fun j w hj=>hx (j+1) w hj) ok.2)
  obtain ⟨k,x,e1,e2⟩:=hx 0 v rfl
  cases Nq e1
  obtain ⟨t,rfl⟩:=T4 e2
  cases (OX he).1
  exact .str c t ok.1
theorem wN (L:iz D s.heap) (hh:A.handled=none) (q:Rd Z D s.heap v x) (e:Gc x=some u)
  (h:∀v h' k,bM s.heap h'→b8 Z D h' v u→Q v {s with heap:=h',toks:=k}):NH (model Z.prog Z.w) A (call (.type "list") [v]) Q E s:=by
 cases x<;>first|cases e;done|skip
 ·rename_i xs
  refine Np fun nG=> ?_
  refine aL e fun c e=> ?_
  cases Nq e
  have ok:=q.strOk
  obtain ⟨t,rfl⟩:=q.str
  refine nG ?_
  have hz:=eC (Nz.mp c).1
  refine call_list_str hh (bF xs) t (hn:=by show (bF xs).length≤_;rw [gM];exact hz) fun h' tk acc' c' hk hS' hacc=>h _ _ _ hk (.lst (by rw [Nw];exact hz) L.size hS' rfl rfl rfl (sA (by rw [OQ];exact hacc.1.trans (gM xs)) (fun j v hj=> ?_) ok))
  obtain ⟨c',u',e1,e2⟩:=hacc.2 j v (by rw [←Ox];exact hj)
  exact ⟨c',u',by simpa [bF] using e1,e2⟩
 ·obtain ⟨a,items,rfl,⟨o,ho,hc,n,hd⟩,ri,len,le⟩:=q.tup
  exact call_list_seq (hsz:=by rw [len];exact le) a (.inr rfl) ho hc hd fun h' c' k e'=>h _ _ _ k (Nq e▸ .lst le L.size e' rfl rfl rfl (ri.grows k))
 ·obtain ⟨a,items,rfl,⟨o,ho,hc,n,hd⟩,ri,_,len,le⟩:=q.lst
  exact call_list_seq (hsz:=by rw [len];exact le) a (.inl rfl) ho hc hd fun h' c' k e'=>h _ _ _ k (Nq e▸ .lst le L.size e' rfl rfl rfl (ri.grows k))
 ·rename_i ks ws
  refine aL e fun c e=> ?_
  cases Nq e
  obtain ⟨d,kvs,rfl,sm,hd,ek,ri,ok⟩:=q.dct
  have hkl:kvs.length=ks.length:=by simpa using NC P1 ek
  obtain ⟨ep,hda⟩:=hd.dictAt
  exact kdl_call (kdl_dict (knd:=Oz Z.prog Z.w) (kvs:=kvs) (ep:=ep) sm) hh hda (by rw [hkl];exact eC c) fun h' tk acc' c' hk hS' hacc=>h _ _ _ hk (.lst (by rw [po,Nw];exact eC c) L.size hS' rfl rfl rfl
   (uu (prog:=Z.prog) (w:=Z.w) (by rw [OQ];exact hacc.1.trans hkl) ek (fun j v hj=>hacc.2 j v (by rw [←Ox];exact hj)) ok))
theorem zw (n:Nat):eU (eK n)=true:=NO.mpr fun x m=>by
 obtain ⟨c,_,rfl⟩:=Op.mp m
 refine NF ?_
 show c.val.toNat <_
 rcases c.valid with h|h
 ·exact PE h (by decide)
 ·exact h.2
theorem zg {i:Int} (q:Rd Z D s.heap v (.int i)) (e:vY i=some u) (h:∀x t k,eU x=true→ .str x=u→Q (.str (bF x) t) {s with toks:=k}):NH (model Z.prog Z.w) A (call (.type "str") [v]) Q E s:=by
 refine aL e fun c e=> ?_
 have c:=Nz.mp c
 have c1:=ND c.1
 have c2:=ND c.2
 obtain ⟨t,rfl⟩:=q.int
 obtain ⟨n,rfl⟩:=Ql c1
 exact PySem.P.str_of_int (vR (n:=n) (by omega)) (by rw [show (NK (toString (n:Int)):Str)=bF (eK n) from oK n];exact h _ _ _ (zw n) (Nq e))
theorem yR {xs:List V} {b:Bool} (hh:A.handled=none) (q:Rd Z D s.heap v (.lst xs)) (e:Hb xs=some b) (h:∀h' k,bM s.heap h'→Q (.bool b) {s with heap:=h',toks:=k}):NH (model Z.prog Z.w) A (call (.builtin "all") [v]) Q E s:=by
 obtain ⟨a,items,rfl,hl,ri,_,_,_⟩:=q.lst
 obtain ⟨a1,a2⟩:=zo ri e
 have hsz:(s.heap.push {cls:= .type "list_iterator",data:= .fields #[.ref a,.int 0 0]}).get? s.heap.objs.size=_:=Oa _ rfl
 have hne:a≠s.heap.objs.size:=fun e=>by obtain ⟨o,ho,_⟩:=hl;rw [e,d9] at ho;cases ho
 refine call_all_walk (Sm hl ⟨_,_,_,_,_,_,oW items.toList,rfl,Walks.list (A:=A.in1) hh _ a hne items,⟨⟨_,hsz,rfl,rfl⟩,hl.push _⟩,fun i v s' Q' E' hv hq=> ?_,fun h' tk hk=> ?_⟩)
 ·obtain ⟨c,rfl⟩:=a1 i v (by rw [Ox];exact hv)
  refine PF ?_
  rwa [show oW items.toList i=c by simp only [oW,Ox,hv]] at hq
 ·rw [←OQ,a2]
  exact h h' tk fun b o e=>hk b o (fun m=>by cases N3.mp m;rw [d9] at e;cases e) (NV _ e)
theorem vz {b:Bf} (L:iz D s.heap) (hb:∀d,s.heap.objs.size≤d→(d==QX)=false) (hh:A.handled=none) (r:gz Z D s.heap vs us) (e:vO b us=some u)
  (h:∀v h' k,bM s.heap h'→b8 Z D h' v u→Q v {s with heap:=h',toks:=k}):NH (model Z.prog Z.w) A (call (Lp b) vs) Q E s:=by
 have g0:bM s.heap s.heap:=fun _ _ e=>e
 cases b with
 |len=>exact r.one_elim e fun v x h1 q e=>h1▸y6 q e fun i t k e=>h _ _ k g0 (e▸ .int _ _)
 |list_=>exact r.one_elim e fun v x h1 q e=>h1▸wN L hh q e h
 |tuple_=>
  refine r.one_elim e fun v x h1 q e=>am e fun ys e1 e=> ?_
  rw [h1];cases e
  cases x<;>first|cases e1;done|skip
  ·cases Nq e1
   obtain ⟨a,items,rfl,hl,_⟩:=q.tup
   refine call_tuple_tup hl (h _ _ s.toks g0 ?_)
   rcases q with q|⟨_,_,c⟩
   ·exact q
   ·exact c.elim
  ·cases Nq e1
   obtain ⟨a,items,rfl,hl,ri,_,len,le⟩:=q.lst
   exact call_tuple_list (hsz:=by rw [len];exact le) hl fun h' hk=>h _ _ s.toks (fun b o e=>aG _ _ b o (hk b o e)) (nz (L.grows hk) (ri.grows hk) le)
 |dict_=>exact r.one_elim e fun v x h1 q e=>af e fun ys e1 e=>h1▸wU L hb hh (f7 e1▸q) e h
 |str_=>exact r.one_elim e fun v x h1 q e=>af e fun i e1 e=>h1▸zg (cW e1▸q) e fun x t k ok e=>h _ _ k g0 (e▸ .str _ _ ok)
 |int_=>exact r.one_elim e fun v x h1 q e=>am e fun i e1 e=>let ⟨t,h2⟩:=Rd.int (cW e1▸q);h1▸h2▸call_int_int (h _ _ s.toks g0 (e▸ .int _ _))
 |all_=>exact r.one_elim e fun v x h1 q e=>af e fun ys e1 e=>am e fun b e2 e=>h1▸yR hh (f7 e1▸q) e2 fun h' k g=>h _ _ k g (e▸ .bool _)
 |min_=>
  refine r.two_elim e fun v v' x x' h1 q q' e=>eA q q' e fun i j t t' r h2 h3 e1 e=> ?_
  rw [h1,h2,h3]
  refine min_two_ints hh fun h' tk hk=>h _ _ _ hk (e▸Nq e1▸?_)
  split<;>exact .int _ _
 |max_=>
  refine r.two_elim e fun v v' x x' h1 q q' e=>eA q q' e fun i j t t' r h2 h3 e1 e=> ?_
  rw [h1,h2,h3]
  refine max_two_ints hh fun h' tk hk=>h _ _ _ hk (e▸Nq e1▸?_)
  split<;>exact .int _ _
end
end
section
open PySem PySem.W PyProof.Rows
set_option tactic.hygienic false
noncomputable def mM (x:Sg) (sep:Nr Sg) (r:List Sg):Prop:=(r.all eU=true∧r.length≤16777216)∧match sep with
 |none=>(Rg (bF x) ((bF x).length+1)==[(0,(bF x).length)])=false∧PySem.wordsOf (bF x)=r.map bF∧(bF x).length≤PV∧(Rg (bF x) ((bF x).length+1)).length≤PV
 |some y=>(decide ((bF x).length <(bF y).length)||decide (QJ (bF x) <QJ (bF y)))=false∧((bF y).length==0)=false∧
   (Q2 (bF x) (bF y) 0 (bF x).length ((bF x).length+1)).isEmpty=false∧
   Sy (bF x) (Q2 (bF x) (bF y) 0 (bF x).length ((bF x).length+1)) (bF y).length=r.map bF∧(bF x).length≤PV∧r.length≤PV
noncomputable def Jl:Mf→Str
 | .startswith=>NK "startswith"| .split=>NK "split"| .append=>NK "append"| .pop=>NK "pop"| .index=>NK "index"| .get=>NK "get"
noncomputable def vK:Mf→Rc
 | .startswith=>"str.startswith"| .split=>"str.split"| .append=>"list.append"| .pop=>"list.pop"| .index=>"list.index"| .get=>"dict.get"
section
variable {Z:Wd} {D:Addr→Prop} {A:Od} {E:Nv→Nx→Prop} {s:Nx} {v:Nv} {vs:List Nv} {w u:V} {us:List V} {Q:Nv→Nx→Prop}
theorem uO {h:Heap}:∀(k:Nat) (r:List Sg),r.all eU=true→ak Z D h (strsFrom k (r.map bF)) (r.map .str)
 |_,[],_=> .nil
 |k,x::r,ok=> .cons (.str x k (Nz.mp ok).1) (uO (k+1) r (Nz.mp ok).2)
theorem zS (x y:Sg):VR (bF x) (bF y)=y.isPrefixOf x:=by
 unfold VR
 rw [StrLaws.subAt_eq,gM,gM]
 show (decide (0+y.length≤x.length)&&(((x.drop 0).take y.length)==y))=_
 rw [Rh,Ow]
 by_cases h:y<+:x
 ·rw [R2.mpr h]
  have h1:=h.length_le
  have h2:=SP.mp h
  rw [NF h1,←h2];simp
 ·have:y.isPrefixOf x=false:=by
   cases e:y.isPrefixOf x with
   |false=>rfl
   |true=>exact absurd (R2.mp e) h
  rw [this]
  cases e:(List.take y.length x==y) with
  |false=>simp
  |true=>exact absurd (SP.mpr (NE e).symm) h
theorem mj:∀{us:List V} {x:V} {k:Nat},ua x us=some k→us[k]? =some x∧∀(j:Nat) (y:V),j <k→us[j]? =some y→y≠x
 |[],_,_,e=>nomatch e
 |y::ys,x,k,e=>by
  by_cases h:y=x
  ·cases Nq ((NP h).symm.trans e)
   exact ⟨NC some h,fun j _ hj=>absurd hj (PS j)⟩
  ·obtain ⟨m,e1,rfl⟩:=map_some ((N4 h).symm.trans e)
   obtain ⟨a,b⟩:=mj e1
   refine ⟨a,fun j z hj hz=> ?_⟩
   cases j with
   |zero=>exact Nq hz▸h
   |succ j=>exact b j z (OT hj) hz
noncomputable def Ks (m:Mf) (w:V):Prop:=match m with
 | .startswith=>∃x,w= .str x
 | .split=>∃x,w= .str x
 | .append=>∃x,w= .lst x
 | .pop=>∃x,w= .lst x
 | .index=>∃x,w= .lst x
 | .get=>∃x y,w= .dct x y
theorem xv {m:Mf} {pl:Sem Bool} {R:Nv×List Nv→Nx→Prop} (r:Rd Z D s.heap v w) (k:Ks m w) (h:R (.builtin (vK m),[v]) s):NH (model Z.prog Z.w) A (getMethod v (Jl m) pl) R E s:=by
 have ls:∀x,w= .lst x→s.TypeIs v "list"∧∀b,v= .ref b→∃o,s.heap.get? b=some o∧o.dict=none:=fun x e=>by
  subst e
  obtain ⟨a,items,rfl,hl,ri,d,_,_⟩:=r.lst
  exact ⟨hl.typeIs,fun b e=>by cases e;exact d⟩
 cases m with
 |startswith=>obtain ⟨x,rfl⟩:=k;obtain ⟨t,rfl⟩:=r.str;dsimp only [vK] at h;show NH _ _ (getMethod _ (NK "startswith") pl) _ _ _;with_reducible exact GM.startswith h
 |split=>obtain ⟨x,rfl⟩:=k;obtain ⟨t,rfl⟩:=r.str;dsimp only [vK] at h;show NH _ _ (getMethod _ (NK "split") pl) _ _ _;with_reducible exact GM.split h
 |append=>obtain ⟨x,e⟩:=k;obtain ⟨h1,h2⟩:=ls x e;dsimp only [vK] at h;show NH _ _ (getMethod _ (NK "append") pl) _ _ _;with_reducible exact Ri h1 Q3 PySem.F.slot_list_append PySem.F.type_list_append h2 h
 |pop=>obtain ⟨x,e⟩:=k;obtain ⟨h1,h2⟩:=ls x e;dsimp only [vK] at h;show NH _ _ (getMethod _ (NK "pop") pl) _ _ _;with_reducible exact Ri h1 Q3 PySem.F.slot_list_pop PySem.F.type_list_pop h2 h
 |index=>obtain ⟨x,e⟩:=k;obtain ⟨h1,h2⟩:=ls x e;dsimp only [vK] at h;show NH _ _ (getMethod _ (NK "index") pl) _ _ _;with_reducible exact Ri h1 Q3 SQ PySem.F.type_list_index h2 h
 |get=>
  refine Np fun nG=> ?_
  obtain ⟨x,y,rfl⟩:=k
  obtain ⟨a,kvs,rfl,sm,hd,_⟩:=r.dct
  refine nG ?_
  dsimp only [vK] at h
  show NH _ _ (getMethod _ (NK "get") pl) _ _ _
  with_reducible exact Ri hd.typeIs PySem.F.plainAttrs_dict Tv PySem.F.type_dict_get hd.mapOf.noDict h
theorem tR {m:Mf} (e:GO Z.P m w us=some u):Ks m w:=by
 cases m with
 |startswith=>exact af e fun x e1 _=>⟨x,dR e1⟩
 |split=>exact af e fun x e1 _=>⟨x,dR e1⟩
 |append=>cases e
 |pop=>cases e
 |index=>exact af e fun x e1 _=>⟨x,f7 e1⟩
 |get=>cases w<;>first|cases e;done|exact ⟨_,_,rfl⟩
theorem tv {x:Sg} (r:Rd Z D s.heap v (.str x)) (ra:ak Z D s.heap vs us) (e:((one us).bind fun t=>t.str?.map fun t=>V.bool (t.isPrefixOf x))=some u) (h:∀b,.bool b=u→Q (.bool b) s):NH (model Z.prog Z.w) A (call (.builtin "str.startswith") (v::vs)) Q E s:=by
 obtain ⟨t,rfl⟩:=r.str
 refine ra.one_elim e fun b y h1 rb e=>am e fun z e1 e=> ?_
 obtain ⟨t',h2⟩:=Rd.str (dR e1▸rb.rd)
 rw [h1,h2]
 exact SC.startswith (by rw [zS];exact h _ e)
theorem rD {k:Nat} {l:List Sg} (L:iz D s.heap) (ok:l.all eU=true∧l.length≤16777216) (h:∀v h' k,bM s.heap h'→b8 Z D h' v (.lst (l.map .str))→Q v {s with heap:=h',toks:=k}) {n m:Nat}:
  Q (.ref s.heap.objs.size) {s with heap:=s.heap.push {cls:= .type "list",data:= .seq (strsFrom k (l.map bF)).toArray n},toks:=m}:=
 h _ _ _ (aG _ _) (mD L (by simpa using uO k l ok.1) (by rw [Nw];exact ok.2))
theorem uw {x:Sg} (hsp:∀x sep r,Z.P.splits x sep=some r→mM x sep r) (L:iz D s.heap) (r:Rd Z D s.heap v (.str x)) (ra:ak Z D s.heap vs us) (e:GO Z.P .split (.str x) us=some u)
  (h:∀v h' k,bM s.heap h'→b8 Z D h' v u→Q v {s with heap:=h',toks:=k}):NH (model Z.prog Z.w) A (call (.builtin "str.split") (v::vs)) Q E s:=by
 obtain ⟨t,rfl⟩:=r.str
 cases us with
 |nil=>
  cases ra
  refine am e fun l e1 e=> ?_
  refine Np fun nG=> ?_
  cases e
  obtain ⟨ok,h1,h2,h3,h4⟩:=hsp _ _ _ e1
  refine nG ?_
  refine Ux Tf (VS _ _ _) SR (PySem.F.args_str_split_1 _) (meets_str_split_space (bF x) t h3 h4) ?_
  rw [h1]
  simp only [Qu,UK]
  rw [h2]
  exact rD L ok h
 |cons y ys=>
  refine ra.one_elim (us:=y::ys) e fun b y h1 rb e=>af e fun z e1 e=>am e fun l e2 e=> ?_
  refine Np fun nG=> ?_
  cases e
  obtain ⟨t',h2⟩:=Rd.str (dR e1▸rb.rd)
  obtain ⟨ok,h3,h4,h5,h6,h7,h8⟩:=hsp _ _ _ e2
  refine nG ?_
  rw [h1,h2]
  refine Ux Tf (VS _ _ _) SR (PySem.F.args_str_split_2 _ _) (meets_str_split_sep (bF x) (bF z) t t' h3 h4 h5 h7 (by rw [h6,Nw];exact h8)) ?_
  rw [h6]
  exact rD L ok h
theorem uU:∀{us:List V} {j:Nat} {y:V},V.dats us=true→us[j]? =some y→y.dat=true
 |[],_,_,_,h=>nomatch h
 |z::zs,0,_,hd,h=>Nq h▸(Nz.mp hd).1
 |z::zs,j+1,_,hd,h=>uU (us:=zs) (Nz.mp hd).2 h
theorem vh {xs:List V} {x:Sg} {k:Nat} {b:Nv} (hu:A.units+100 <SJ) (r:Rd Z D s.heap v (.lst xs)) (rb:b8 Z D s.heap b (.str x)) (c:gY (.str x) xs=true) (ef:ua (.str x) xs=some k) (h:Q (.int k s.toks) {s with toks:=s.toks+1}):
  NH (model Z.prog Z.w) A (call (.builtin "list.index") [v,b]) Q E s:=by
 have ok:=rb.rd.strOk
 have lay:Qf (V.pys xs)=true:=r.rep.lst_lay (Nz.mp (Nz.mp c).1).2
 have dts:=(Nz.mp (Nz.mp c).1).2
 refine Np fun nG=> ?_
 obtain ⟨a,items,rfl,⟨⟨cls,dd,data,slt⟩,ho,hc,n,hd⟩,ri,_,len,le⟩:=r.lst
 obtain ⟨t,rfl⟩:=rb.rd.str
 obtain ⟨f1,f2⟩:=mj ef
 have hk:k <items.size:=by rw [len];exact (NA.mp f1).1
 obtain ⟨as,q⟩:=ri.reads dts
 obtain ⟨bs,q'⟩:=rb.reads (.inl rfl)
 cases hc;cases hd
 refine nG ?_
 have eqs:∀(j:Nat) (hj:j <items.size) (y:V),xs[j]? =some y→QB (Uz s.heap items[j]) (V.str x).py=decide (y= .str x):=fun j hj y hx=>by
  refine Np fun nG=> ?_
  obtain ⟨vj,hvj,rj⟩:=ri.get hx
  have d:=uU dts hx
  obtain ⟨cs,rc⟩:=rj.reads (.inl d)
  refine nG ?_
  rw [show items[j]=vj from Nq (by rw [←hvj,Ox,Sk hj]),PySem.SeqAt.readOf_eq (rj.lay d) rc,vP _ _ d rfl]
 have room:A.units+1+min (QS (V.pys xs)) (V.str x).py.depth <SJ:=by
  have h2:=Nt (Rv (QS (V.pys xs)) (V.str x).py.depth) (wW (.str x))
  have h3:(V.str x).dep=0:=rfl
  clear eqs q q' ri f2
  omega
 refine Ux SQ ⟨_,ho,rfl⟩ PySem.F.entry_list_index (PySem.F.args_list_index_2 _ _)
  (Wa a items n dd slt (.str (bF x) t) (fun y=>QB (Uz s.heap y) (V.str x).py) k (by omega) (by omega) ?_ ?_)
  ⟨ho,PySem.SeqAt.items_eqAt q q' lay (rb.lay rfl) room,h⟩
 ·exact (eqs k hk _ f1).trans (NF rfl)
 ·intro m hm hmk
  obtain ⟨y,hy⟩:∃y,xs[m]? =some y:=⟨_,NB (by rw [←len];exact hm)⟩
  exact (eqs m hm y hy).trans (N0 (f2 m y hmk hy))
theorem y4 {ks:List Sg} {ws:List V} (r:Rd Z D s.heap v (.dct ks ws)) (ra:ak Z D s.heap vs us) (e:GO Z.P .get (.dct ks ws) us=some u) (h:∀v k,b8 Z D s.heap v u→Q v {s with toks:=k}):
  NH (model Z.prog Z.w) A (call (.builtin "dict.get") (v::vs)) Q E s:=by
 refine ra.two_elim e fun b y z d h1 rb ry e=>am e fun x e1 e=> ?_
 obtain ⟨a,kvs,rfl,sm,hd,ek,ri,_⟩:=r.dct
 obtain ⟨t,h2⟩:=Rd.str (dR e1▸rb.rd)
 rw [h1,h2]
 refine call_meetsIn Tv hd.typeIs PySem.F.entry_dict_get (PySem.F.args_dict_get_3 _ _ _) (meets_dict_get_default (Oz Z.prog Z.w) a (k:=bF x) (Ta _ _ _ _) sm y) ⟨Ry kvs,hd.mapOf,?_⟩
 rcases rJ (x:=x) ek ri with ⟨v,u',q1,q2,q3⟩|⟨q1,q2⟩
 ·rw [q2] at e;rw [q1];exact h _ _ (e▸q3)
 ·rw [q2] at e;rw [q1];exact h _ _ (e▸ry)
theorem Dy {m:Mf} (hsp:∀x sep r,Z.P.splits x sep=some r→mM x sep r) (L:iz D s.heap) (hu:A.units+100 <SJ) (r:Rd Z D s.heap v w) (ra:ak Z D s.heap vs us) (e:GO Z.P m w us=some u)
  (h:∀v h' k,bM s.heap h'→b8 Z D h' v u→Q v {s with heap:=h',toks:=k}):NH (model Z.prog Z.w) A (call (.builtin (vK m)) (v::vs)) Q E s:=by
 have g0:bM s.heap s.heap:=fun _ _ e=>e
 cases m with
 |startswith=>exact af e fun x e1 e=>tv (dR e1▸r) ra e fun b e=>h _ _ s.toks g0 (e▸ .bool _)
 |split=>obtain ⟨x,rfl⟩:=tR e;exact uw hsp L r ra e h
 |append=>cases e
 |pop=>cases e
 |index=>
  refine af e fun xs e1 e=>ra.one_elim e fun b y h1 rb e=>af e fun x e2 e=> ?_
  refine aL e fun c e=> ?_
  refine am e fun k e3 e=> ?_
  rw [h1]
  exact vh hu (f7 e1▸r) (dR e2▸rb) c e3 (h _ _ _ g0 (e▸ .int _ _))
 |get=>obtain ⟨x,y,rfl⟩:=tR e;exact y4 r ra e fun v k=>h v _ k g0
theorem q9 {l:Addr} {items:Qe Nv} {k:Int} {t:Tok} {x:Nv} {R:Unit→Nx→Prop} (hl:s.heap.PlainList l items) (h0:0≤k) (hfit:k <2^63) (hn:k <items.size)
  (hR:∀h',h'.PlainList l (items.setIfInBounds k.toNat x)→Pn l s.heap h'→R () {s with heap:=h'}):
  NH (model Z.prog Z.w) A (setItem (.ref l) (.int k t) x) R E s:=by
 obtain ⟨n,ho⟩:=id hl
 unfold setItem
 try with_reducible refine Ou ?_
 refine Ny (wpAny_sequenceKey hl.isList.typeIs (by decide) ?_)
 refine Ny (wpAny_callSpecial?_slot (name:=NK "__setitem__") hl.isList.typeIs UP
  (wpAny_call_entry UP hl.isList.typeIs entry_list_setitem ?_ (args_list_setitem _ _ _)))
 show NH _ _ (VJ (.int k t)>>=_) _ _ s
 refine Ny (wpAny_listSubscript_int (fitsIndex_of h0 hfit) ?_)
 clear hfit
 obtain ⟨j,rfl⟩:=Ql h0
 have hj:j <items.size:=by omega
 have hx':items[j]? =some items[j]:=Sk hj
 show NH _ _ ((seqItemAt l j>>=fun r=>pure (r.map (j,·)))>>=_) _ _ s
 refine Ny (Ny (wpAny_seqItemAt ho rfl (NM ?_)))
 rw [hx']
 show NH _ _ (setSeqItemAt l j x>>=_) _ _ s
 have eq:VT (·.setIfInBounds j x) {cls:= .type "list",data:= .seq items n}={cls:= .type "list",data:= .seq (items.setIfInBounds j x) n}:=by
  simp [VT]
 have hfin:(s.heap.update l (VT (·.setIfInBounds j x))).PlainList l (items.setIfInBounds j x):=⟨n,by rw [Qy _ ho (by rw [eq];rfl),eq]⟩
 exact Ny (wpAny_setSeqItemAt ho rfl (NM ⟨.none,rfl,NM (hR _ hfin (T5 ..))⟩))
end
structure Ctx where
 sc:Px
 vars:eE
noncomputable def ta:Ue→Nr V
 | .none=>some .none
 | .bool b=>some (.bool b)
 | .int i=>some (.int i)
 | .str s=>if eU s.cps.toList then some (.str s.cps.toList) else none
 |_=>none
noncomputable def oO (e:Expr):Bool:=e.ctorIdx !=22
noncomputable def eR (e:Expr):Bool:=e.ctorIdx !=8&&(e.ctorIdx !=9&&e.ctorIdx !=10)
noncomputable def fh (e:Expr):Bool:=e.ctorIdx !=7
noncomputable def jd (e:Expr):Bool:=e.ctorIdx !=26
noncomputable def Bx (c:Ctx) (x:Str) (i:Nat):Bool:=c.vars.contains (x,i)&& !(x==("__debug__":Str))&& !(x==("__classdict__":Str))
noncomputable def oN (sc:Px) (x:Str):Bool:=sc.names.lookup x==some .globalImplicit&& !(x==("__debug__":Str))
noncomputable def eX (c:Ctx) (x:Str):Bool:=c.sc.names.lookup x==some .globalImplicit&& !(x==("__debug__":Str))
noncomputable def cn:iJ→Str
 | .line=>NK "Line"| .ins=>NK "Instruction"| .reg=>NK "Reg"| .imm=>NK "Imm"| .rel=>NK "Rel"| .register=>NK "Register"
noncomputable def bn:Bf→Str
 | .len=>NK "len"| .list_=>NK "list"| .tuple_=>NK "tuple"| .dict_=>NK "dict"| .str_=>NK "str"| .int_=>NK "int"
 | .all_=>NK "all"| .min_=>NK "min"| .max_=>NK "max"
noncomputable def mn:D7→Str
 | .told=>NK "told"| .symbol=>NK "symbol"
noncomputable def IJ (e:Ue):Nr Str:=if h:e.ctorIdx=5 then some (TG (motive:=fun _=>Str) e h fun a=>a) else none
theorem uz {e:Ue} {q:Str} (h:IJ e=some q):e= .str q:=
 let ⟨k,h⟩:=aM h
 TG (motive:=fun e=>∀k:e.ctorIdx=5,TG (motive:=fun _=>Str) e k (fun a=>a)=q→e= .str q) e k (fun _ _ h=>NC Const.str h) k h
noncomputable def lX (e:Expr):Nr (Ue):=if h:e.ctorIdx=19 then some (R3 (motive_1:=fun _=>Ue) e h fun k _ _=>k) else none
theorem gS {e:Expr} {q:Ue} (h:lX e=some q):∃n p,e= .Constant q n p:=
 let ⟨k,h⟩:=aM h
 R3 (motive_1:=fun e=>∀k:e.ctorIdx=19,R3 (motive_1:=fun _=>Ue) e k (fun k _ _=>k)=q→∃n p,e= .Constant q n p) e k (fun k n p _ h=>⟨n,p,NC (fun q:Ue=>Expr.Constant q n p) (h:k=q)⟩) k h
noncomputable def HR (e:Expr):Nr (UnaryOp×Expr):=if h:e.ctorIdx=3 then some (Sn (motive_1:=fun _=>UnaryOp×Expr) e h fun o e _=>(o,e)) else none
theorem uT {e:Expr} {q:UnaryOp×Expr} (h:HR e=some q):∃p,e= .UnaryOp q.1 q.2 p:=
 let ⟨k,h⟩:=aM h
 Sn (motive_1:=fun e=>∀k:e.ctorIdx=3,Sn (motive_1:=fun _=>UnaryOp×Expr) e k (fun o e _=>(o,e))=q→∃p,e= .UnaryOp q.1 q.2 p) e k (fun o e p _ h=>⟨p,NC (fun q:UnaryOp×Expr=>Expr.UnaryOp q.1 q.2 p) (h:(o,e)=q)⟩) k h
noncomputable def cA (e:Expr):Nr (Str):=if h:e.ctorIdx=23 then some (R4 (motive_1:=fun _=>Str) e h fun x _=>x) else none
theorem aY {e:Expr} {q:Str} (h:cA e=some q):∃p,e= .Name q p:=
 let ⟨k,h⟩:=aM h
 R4 (motive_1:=fun e=>∀k:e.ctorIdx=23,R4 (motive_1:=fun _=>Str) e k (fun x _=>x)=q→∃p,e= .Name q p) e k (fun x p _ h=>⟨p,NC (fun q:Str=>Expr.Name q p) (h:x=q)⟩) k h
noncomputable def vC (e:Expr):Nr (List Expr):=if h:e.ctorIdx=25 then some (RM (motive_1:=fun _=>List Expr) e h fun es _ _=>es) else none
theorem kA {e:Expr} {q:List Expr} (h:vC e=some q):∃n p,e= .Tuple q n p:=
 let ⟨k,h⟩:=aM h
 RM (motive_1:=fun e=>∀k:e.ctorIdx=25,RM (motive_1:=fun _=>List Expr) e k (fun es _ _=>es)=q→∃n p,e= .Tuple q n p) e k (fun es n p _ h=>⟨n,p,NC (fun q:List Expr=>Expr.Tuple q n p) (h:es=q)⟩) k h
noncomputable def Gy (e:Expr):Nr (List Expr):=if h:e.ctorIdx=24 then some (TH (motive_1:=fun _=>List Expr) e h fun es _=>es) else none
theorem zO {e:Expr} {q:List Expr} (h:Gy e=some q):∃p,e= .List q p:=
 let ⟨k,h⟩:=aM h
 TH (motive_1:=fun e=>∀k:e.ctorIdx=24,TH (motive_1:=fun _=>List Expr) e k (fun es _=>es)=q→∃p,e= .List q p) e k (fun es p _ h=>⟨p,NC (fun q:List Expr=>Expr.List q p) (h:es=q)⟩) k h
noncomputable def GA (e:Expr):Nr (List (Nr Expr)×List Expr):=if h:e.ctorIdx=6 then some (TI (motive_1:=fun _=>List (Nr Expr)×List Expr) e h fun ks vs _=>(ks,vs)) else none
theorem zb {e:Expr} {q:List (Nr Expr)×List Expr} (h:GA e=some q):∃p,e= .Dict q.1 q.2 p:=
 let ⟨k,h⟩:=aM h
 TI (motive_1:=fun e=>∀k:e.ctorIdx=6,TI (motive_1:=fun _=>List (Nr Expr)×List Expr) e k (fun ks vs _=>(ks,vs))=q→∃p,e= .Dict q.1 q.2 p) e k (fun ks vs p _ h=>⟨p,NC (fun q:List (Nr Expr)×List Expr=>Expr.Dict q.1 q.2 p) (h:(ks,vs)=q)⟩) k h
noncomputable def tm (e:Expr):Nr (Expr×Str×Pos):=if h:e.ctorIdx=20 then some (RQ (motive_1:=fun _=>Expr×Str×Pos) e h fun e a p=>(e,a,p)) else none
theorem lm {e:Expr} {q:Expr×Str×Pos} (h:tm e=some q):e= .Attribute q.1 q.2.1 q.2.2:=
 let ⟨k,h⟩:=aM h
 RQ (motive_1:=fun e=>∀k:e.ctorIdx=20,RQ (motive_1:=fun _=>Expr×Str×Pos) e k (fun e a p=>(e,a,p))=q→e= .Attribute q.1 q.2.1 q.2.2) e k (fun e a p _ h=>NC (fun q:Expr×Str×Pos=>Expr.Attribute q.1 q.2.1 q.2.2) (h:(e,a,p)=q)) k h
noncomputable def uK (e:Expr):Nr (Expr×Expr):=if h:e.ctorIdx=21 then some (RS (motive_1:=fun _=>Expr×Expr) e h fun e i _=>(e,i)) else none
theorem kq {e:Expr} {q:Expr×Expr} (h:uK e=some q):∃p,e= .Subscript q.1 q.2 p:=
 let ⟨k,h⟩:=aM h
 RS (motive_1:=fun e=>∀k:e.ctorIdx=21,RS (motive_1:=fun _=>Expr×Expr) e k (fun e i _=>(e,i))=q→∃p,e= .Subscript q.1 q.2 p) e k (fun e i p _ h=>⟨p,NC (fun q:Expr×Expr=>Expr.Subscript q.1 q.2 p) (h:(e,i)=q)⟩) k h
noncomputable def BR (e:Expr):Nr (Nr Expr×Nr Expr×Nr Expr):=if h:e.ctorIdx=26 then some (To (motive_1:=fun _=>Nr Expr×Nr Expr×Nr Expr) e h fun l u st _=>(l,u,st)) else none
theorem sv {e:Expr} {q:Nr Expr×Nr Expr×Nr Expr} (h:BR e=some q):∃p,e= .Slice q.1 q.2.1 q.2.2 p:=
 let ⟨k,h⟩:=aM h
 To (motive_1:=fun e=>∀k:e.ctorIdx=26,To (motive_1:=fun _=>Nr Expr×Nr Expr×Nr Expr) e k (fun l u st _=>(l,u,st))=q→∃p,e= .Slice q.1 q.2.1 q.2.2 p) e k (fun l u st p _ h=>⟨p,NC (fun q:Nr Expr×Nr Expr×Nr Expr=>Expr.Slice q.1 q.2.1 q.2.2 p) (h:(l,u,st)=q)⟩) k h
noncomputable def G5 (e:Expr):Nr (Expr×TF×Expr):=if h:e.ctorIdx=2 then some (Tp (motive_1:=fun _=>Expr×TF×Expr) e h fun l o r _=>(l,o,r)) else none
theorem zx {e:Expr} {q:Expr×TF×Expr} (h:G5 e=some q):∃p,e= .BinOp q.1 q.2.1 q.2.2 p:=
 let ⟨k,h⟩:=aM h
 Tp (motive_1:=fun e=>∀k:e.ctorIdx=2,Tp (motive_1:=fun _=>Expr×TF×Expr) e k (fun l o r _=>(l,o,r))=q→∃p,e= .BinOp q.1 q.2.1 q.2.2 p) e k (fun l o r p _ h=>⟨p,NC (fun q:Expr×TF×Expr=>Expr.BinOp q.1 q.2.1 q.2.2 p) (h:(l,o,r)=q)⟩) k h
noncomputable def BQ (e:Expr):Nr (Expr×List CmpOp×List Expr):=if h:e.ctorIdx=15 then some (So (motive_1:=fun _=>Expr×List CmpOp×List Expr) e h fun l o r _=>(l,o,r)) else none
theorem sy {e:Expr} {q:Expr×List CmpOp×List Expr} (h:BQ e=some q):∃p,e= .Compare q.1 q.2.1 q.2.2 p:=
 let ⟨k,h⟩:=aM h
 So (motive_1:=fun e=>∀k:e.ctorIdx=15,So (motive_1:=fun _=>Expr×List CmpOp×List Expr) e k (fun l o r _=>(l,o,r))=q→∃p,e= .Compare q.1 q.2.1 q.2.2 p) e k (fun l o r p _ h=>⟨p,NC (fun q:Expr×List CmpOp×List Expr=>Expr.Compare q.1 q.2.1 q.2.2 p) (h:(l,o,r)=q)⟩) k h
noncomputable def tn (e:Expr):Nr (BoolOp×List Expr):=if h:e.ctorIdx=0 then some (SU (motive_1:=fun _=>BoolOp×List Expr) e h fun o es _=>(o,es)) else none
theorem xA {e:Expr} {q:BoolOp×List Expr} (h:tn e=some q):∃p,e= .BoolOp q.1 q.2 p:=
 let ⟨k,h⟩:=aM h
 SU (motive_1:=fun e=>∀k:e.ctorIdx=0,SU (motive_1:=fun _=>BoolOp×List Expr) e k (fun o es _=>(o,es))=q→∃p,e= .BoolOp q.1 q.2 p) e k (fun o es p _ h=>⟨p,NC (fun q:BoolOp×List Expr=>Expr.BoolOp q.1 q.2 p) (h:(o,es)=q)⟩) k h
noncomputable def Kl (e:Expr):Nr (Expr×Expr×Expr):=if h:e.ctorIdx=5 then some (Tq (motive_1:=fun _=>Expr×Expr×Expr) e h fun t b o _=>(t,b,o)) else none
theorem Ax {e:Expr} {q:Expr×Expr×Expr} (h:Kl e=some q):∃p,e= .IfExp q.1 q.2.1 q.2.2 p:=
 let ⟨k,h⟩:=aM h
 Tq (motive_1:=fun e=>∀k:e.ctorIdx=5,Tq (motive_1:=fun _=>Expr×Expr×Expr) e k (fun t b o _=>(t,b,o))=q→∃p,e= .IfExp q.1 q.2.1 q.2.2 p) e k (fun t b o p _ h=>⟨p,NC (fun q:Expr×Expr×Expr=>Expr.IfExp q.1 q.2.1 q.2.2 p) (h:(t,b,o)=q)⟩) k h
noncomputable def wR (e:Expr):Nr (Expr×List Expr×List TY×Pos):=if h:e.ctorIdx=16 then some (TJ (motive_1:=fun _=>Expr×List Expr×List TY×Pos) e h fun f a k p=>(f,a,k,p)) else none
theorem qE {e:Expr} {q:Expr×List Expr×List TY×Pos} (h:wR e=some q):e= .Call q.1 q.2.1 q.2.2.1 q.2.2.2:=
 let ⟨k,h⟩:=aM h
 TJ (motive_1:=fun e=>∀k:e.ctorIdx=16,TJ (motive_1:=fun _=>Expr×List Expr×List TY×Pos) e k (fun f a k p=>(f,a,k,p))=q→e= .Call q.1 q.2.1 q.2.2.1 q.2.2.2) e k (fun f a k p _ h=>NC (fun q:Expr×List Expr×List TY×Pos=>Expr.Call q.1 q.2.1 q.2.2.1 q.2.2.2) (h:(f,a,k,p)=q)) k h
noncomputable def Ar (e:Expr):Nr (Expr×List N9×Px):=if h:e.ctorIdx=8 then some (R6 (motive_1:=fun _=>Expr×List N9×Px) e h fun e g sc _=>(e,g,sc)) else none
theorem pC {e:Expr} {q:Expr×List N9×Px} (h:Ar e=some q):∃p,e= .ListComp q.1 q.2.1 q.2.2 p:=
 let ⟨k,h⟩:=aM h
 R6 (motive_1:=fun e=>∀k:e.ctorIdx=8,R6 (motive_1:=fun _=>Expr×List N9×Px) e k (fun e g sc _=>(e,g,sc))=q→∃p,e= .ListComp q.1 q.2.1 q.2.2 p) e k (fun e g sc p _ h=>⟨p,NC (fun q:Expr×List N9×Px=>Expr.ListComp q.1 q.2.1 q.2.2 p) (h:(e,g,sc)=q)⟩) k h
noncomputable def fT (e:Expr):Nr (Str×List Expr):=(wR e).bind fun q=>if q.2.2.1.isEmpty then (cA q.1).map fun x=>(x,q.2.1) else none
noncomputable def o0 (e:Expr):Nr (Expr×Str×List Expr):=(wR e).bind fun q=>if q.2.2.1.isEmpty then (tm q.1).bind fun a=>if a.2.2.endLine==q.2.2.2.line then some (a.1,a.2.1,q.2.1) else none else none
theorem aF {β:Type} {l:List β} (h:l.isEmpty=true):l=[]:=Rt.mp h
theorem cU {e:Expr} {q} (h:fT e=some q):∃np pos,e= .Call (.Name q.1 np) q.2 [] pos:=
 af h fun a h1 h2=>let ⟨h3,h4⟩:=bU (c:=a.2.2.1.isEmpty=true) h2;am h4 fun x h5 h6=>let ⟨np,h7⟩:=aY h5;⟨np,a.2.2.2,by rw [qE h1,h7,aF h3,←h6]⟩
theorem iR {e:Expr} {q} (h:o0 e=some q):∃ap pos,e= .Call (.Attribute q.1 q.2.1 ap) q.2.2 [] pos∧(ap.endLine==pos.line)=true:=
 af h fun a h1 h2=>let ⟨h3,h4⟩:=bU (c:=a.2.2.1.isEmpty=true) h2;af h4 fun x h5 h6=>let ⟨h7,h8⟩:=bU (c:=(x.2.2.endLine==a.2.2.2.line)=true) h6;⟨x.2.2,a.2.2.2,by rw [qE h1,lm h5,aF h3,←Nq h8],h7⟩
noncomputable def dQ (e:Expr):Bool:=e.ctorIdx !=16||(fT e).any fun q=>q.1 !=("super":Str)
noncomputable def jQ {β:Type} (us:List β) (f:β→List β→Bool):Bool:=match us with
 |[]=>false
 |a::r=>f a r
theorem cV {β:Type} {us:List β} {f:β→List β→Bool} (h:jQ us f=true):∃a r,us=a::r∧f a r=true:=by
 cases us with
 |nil=>cases h
 |cons a r=>exact ⟨a,r,rfl,h⟩
noncomputable def kM {β:Type} (us:List β) (f:β→Bool):Bool:=jQ us fun a r=>r.isEmpty&&f a
theorem uP {β:Type} {us:List β} {f:β→Bool} (h:kM us f=true):∃a,us=[a]∧f a=true:=let ⟨a,r,h1,h2⟩:=cV h;let h3:=Nz.mp h2;⟨a,by rw [h1,aF h3.1],h3.2⟩
theorem hS {β:Type} {us:List β} {f:β→List β→Bool} {P:Prop} (h:jQ us f=true) (K:∀a r,us=a::r→f a r=true→P):P:=let ⟨a,r,h1,h2⟩:=cV h;K a r h1 h2
theorem ib {β:Type} {us:List β} {f:β→Bool} {P:Prop} (h:kM us f=true) (K:∀a,us=[a]→f a=true→P):P:=let ⟨a,h1,h2⟩:=uP h;K a h1 h2
noncomputable def At {β:Type} (us:List β) (f:β→β→Bool):Bool:=jQ us fun a r=>kM r (f a)
theorem mr {β:Type} {us:List β} {f:β→β→Bool} (h:At us f=true):∃a b,us=[a,b]∧f a b=true:=let ⟨a,r,h1,h2⟩:=cV h;let ⟨b,h3,h4⟩:=uP h2;⟨a,b,by rw [h1,h3],h4⟩
theorem ac {a b:Bool} (h:(a&&b)=true):a=true∧b=true:=Nz.mp h
noncomputable def d7 (f:Expr→CE→Bool) (es:List Expr) (cs:List CE):Bool:=List.rec (motive:=fun _=>List CE→Bool) List.isEmpty (fun e _ ih cs=>jQ cs fun c cs=>oO e&&(f e c&&ih cs)) es cs
noncomputable def xE (f:Expr→CE→Bool) (e:Nr Expr) (c:Nr CE):Bool:=match c with
 |none=>e.isNone
 |some c=>e.any fun e=>f e c
noncomputable def js (scope sc:Px):Px:=
 {scope with names:=scope.names.map fun (n,k)=>if (k== .free&&sc.kind== .function&&sc.names.lookup n==some .cell) then (n,.cell) else (n,k)}
noncomputable def CG.tgt:CG→kT
 | .mk t _ _=>t
noncomputable def CG.it:CG→It
 | .mk _ it _=>it
noncomputable def CG.ifs:CG→List CE
 | .mk _ _ ifs=>ifs
noncomputable def o5 (t:Expr) (t':kT):Nr eE:=match t' with
 | .one i=>(cA t).map fun x=>[(x,i)]
 | .two i j=>(vC t).bind fun ts=>two ts fun a b=>(cA a).bind fun x=>(cA b).map fun y=>[(x,i),(y,j)]
noncomputable def j9 (gs:List N9) (cs:List CG):Nr eE:=List.rec (motive:=fun _=>List CG→Nr eE) (fun cs=>if cs.isEmpty then some [] else none) (fun g _ ih cs=>yS cs fun c cs=>(o5 g.target c.tgt).bind fun a=>(ih cs).map (a++ ·)) gs cs
noncomputable def tU (vars:eE):Bool:=vars.all fun a=>vars.all fun b=>decide (a.1=b.1)==decide (a.2=b.2)
noncomputable def jT (c:Ctx) (t:Expr) (t':kT) (loc:Bool):Bool:=(o5 t t').any fun vs=>vs.all fun v=>c.vars.contains v&&(c.sc.names.lookup v.1==some .local||(!loc&&c.sc.names.lookup v.1==some .cell))
noncomputable def Hg (f:Expr→CE→Bool) (c:Ctx) (e:Expr) (it:It):Bool:=match it with
 | .seq ce=>fh e&&f e ce
 | .range cs=>(fT e).any fun q=>eX c q.1&&(q.1==NK "range"&&d7 f q.2 cs)
 | .enum ce=>(fT e).any fun q=>eX c q.1&&(q.1==NK "enumerate"&&kM q.2 fun a=>oO a&&f a ce)
noncomputable def BK (t:kT) (it:It):Bool:=match t with
 | .two _ _=>match it with
  | .enum _=>true
  |_=>false
 | .one _=>match it with
  | .enum _=>false
  |_=>true
noncomputable def Gw (f:Expr→CE→Bool) (ff:Expr→CE→Bool) (c c':Ctx) (g:N9) (cg:CG):Bool:=
 g.is_async==0&&(jT c' g.target cg.tgt true&&(BK cg.tgt cg.it&&(fh g.iter&&(Hg f c g.iter cg.it&&d7 ff g.ifs cg.ifs))))
noncomputable def Au (f:Expr→CE→Bool) (c':Ctx) (gs:List N9) (cs:List CG):Bool:=List.rec (motive:=fun _=>List CG→Bool) List.isEmpty (fun g _ ih cs=>jQ cs fun cg cs=>Gw f f c' c' g cg&&ih cs) gs cs
noncomputable def tH (f:Ctx→Expr→CE→Bool) (c c':Ctx) (gs:List N9) (cs:List CG):Bool:=jQ gs fun g gs=>jQ cs fun cg cs=>Gw (f c) (f c') c c' g cg&&Au (f c') c' gs cs
noncomputable def fS (c:Ctx) (scope:Px) (vs:eE):Ctx:={sc:=js scope c.sc,vars:=vs++c.vars.filter fun v=>scope.names.lookup v.1==some .free}
noncomputable def sV (c:Ctx) (scope:Px):Bool:=scope.kind== .function&&scope.names.all (fun x=>x.2 != .cell)&&scope.names.all (fun x=>x.2 != .local||scope.names.lookup x.1==some .local)&&
 scope.names.all (fun x=>x.2 != .free||c.sc.names.lookup x.1==some .cell)
noncomputable def xW (e:Expr) (i:Int):Bool:=(HR e).any fun q=>decide (q.1= .USub)&&(lX q.2).any fun k=>decide (k= .int i)
noncomputable def au (fnm:Nat→Nr Str):Nat→Ctx→Expr→CE→Bool
 |0,_,_,_=>false
 |n+1,c,e,ce=>match ce with
  | .cst u=>(lX e).any fun k=>decide (ta k=some u)
  | .neg i=>xW e i
  | .var i=>(cA e).any fun x=>Bx c x i
  | .glob g=>(cA e).any fun x=>eX c x&&x==bF g
  | .tup cs=>(vC e).any fun es=>d7 (au fnm n c) es cs
  | .lst cs=>(Gy e).any fun es=>d7 (au fnm n c) es cs
  | .dct0=>(GA e).any fun q=>q.1.isEmpty&&q.2.isEmpty
  | .attr ce f=>(tm e).any fun q=>q.2.1==fs f&&(dQ q.1&&au fnm n c q.1 ce)
  | .idx ce ci=>(uK e).any fun q=>jd q.2&&(au fnm n c q.1 ce&&au fnm n c q.2 ci)
  | .slc ce lo hi=>(uK e).any fun q=>au fnm n c q.1 ce&&(BR q.2).any fun r=>r.2.2.isNone&&(xE (au fnm n c) r.1 lo&&xE (au fnm n c) r.2.1 hi)
  | .rev ce=>(uK e).any fun q=>au fnm n c q.1 ce&&(BR q.2).any fun r=>r.1.isNone&&(r.2.1.isNone&&r.2.2.any fun e=>xW e 1)
  | .bin o a b=>(G5 e).any fun q=>decide (q.2.1=ES o)&&(au fnm n c q.1 a&&au fnm n c q.2.2 b)
  | .cmp a o b=>(BQ e).any fun q=>decide (q.2.1=[eD o])&&(au fnm n c q.1 a&&kM q.2.2 fun r=>fh r&&au fnm n c r b)
  | .cmp2 a o b o' d=>(BQ e).any fun q=>decide (q.2.1=[eD o,eD o'])&&(au fnm n c q.1 a&&At q.2.2 fun r r'=>fh r&&(fh r'&&(au fnm n c r b&&au fnm n c r' d)))
  | .and cs=>(tn e).any fun q=>decide (q.1= .And)&&d7 (au fnm n c) q.2 cs
  | .or cs=>(tn e).any fun q=>decide (q.1= .Or)&&d7 (au fnm n c) q.2 cs
  | .not ce=>(HR e).any fun q=>decide (q.1= .Not)&&au fnm n c q.2 ce
  | .ite x y z=>(Kl e).any fun q=>au fnm n c q.1 x&&(au fnm n c q.2.1 y&&au fnm n c q.2.2 z)
  | .callF i cs=>(fT e).any fun q=>eX c q.1&&(fnm i==some q.1&&d7 (au fnm n c) q.2 cs)
  | .mk k cs=>(fT e).any fun q=>eX c q.1&&(q.1==cn k&&d7 (au fnm n c) q.2 cs)
  | .callB b cs=>(fT e).any fun q=>eX c q.1&&(q.1==bn b&&d7 (au fnm n c) q.2 cs)
  | .callM ce m=>(o0 e).any fun q=>q.2.1==mn m&&(dQ q.1&&(q.2.2.isEmpty&&au fnm n c q.1 ce))
  | .callS m ce cs=>(o0 e).any fun q=>q.2.1==Jl m&&(dQ q.1&&(decide (q.2.2.length <20)&&(au fnm n c q.1 ce&&d7 (au fnm n c) q.2.2 cs)))
  | .comp elt cgs=>(Ar e).any fun q=>(j9 q.2.1 cgs).any fun vs=>sV c q.2.2&&(tU (fS c q.2.2 vs).vars&&(tH (au fnm n) c (fS c q.2.2 vs) q.2.1 cgs&&au fnm n (fS c q.2.2 vs) q.1 elt))
  | .stuck=>eR e
structure Wd.Ok (Z:Wd) (p:Ob) (loose:List Str) (mg mb:Str→Nr Nv):Prop where
 X:Z.K.In Z.base
 T:TopRead p loose mg mb Z.base
 splits:∀x sep r,Z.P.splits x sep=some r→mM x sep r
 sysM:QX <Z.base.objs.size
 fld:∀c f,f∈c.fields→plainGet Z.K (Z.ca c) (fs f)=true∧hasDictIn Z.K (Z.ca c)=true∧∃attr,findIn Z.K (.ref (Z.ca c)) (fs f)=some attr∧noGet Z.K attr=true
 meth:∀c m i,Z.P.meth c m=some i→plainGet Z.K (Z.ca c) (mn m)=true∧findIn Z.K (.ref (Z.ca c)) (mn m)=some (some (.ref (Z.fa i)))∧isFn Z.K (.ref (Z.fa i))=true∧keepIn Z.K (.ref (Z.fa i))=true
 noFld:∀c m f,f∈iJ.fields c→fs f≠mn m
 glob:∀x s,Z.P.glob x=some s→∃t,eU s=true∧nsIn Z.K Og (bF x)=some (some (.str (bF s) t))
 fn:∀i x,Z.fname i=some x→nsIn Z.K Og x=some (some (.ref (Z.fa i)))∧keepIn Z.K (.ref (Z.fa i))=true
 cls:∀c,nsIn Z.K Og (cn c)=some (some (.ref (Z.ca c)))∧keepIn Z.K (.ref (Z.ca c))=true
 bf:∀b,nsIn Z.K Og (bn b)=some none∧bootBuiltins (bn b)=some (Lp b)∧bn b≠"__name__"
 rng:nsIn Z.K Og "range"=some none∧bootBuiltins "range"=some (.type "range")
 enm:nsIn Z.K Og "enumerate"=some none∧bootBuiltins "enumerate"=some (.type "enumerate")
structure az (env:Env) (c:Ctx):Prop where
 sc:env.scope=c.sc
 kind:c.sc.kind= .function
 glb:env.globals=Og
 blt:env.builtins=R7
 vars:kh c.vars
structure aN (n:Nat) (A:Od):Prop where
 depth:A.depth+n+40 <recursionLimit
 units:A.units+10*n+200 <SJ
 calm:A.handled=none
noncomputable def eI (Z:Wd) (A:Od) (CA:List Addr) (D:Addr→Prop) (σ':ag) (U:aA) (t:Sem Nv) (s:Nx):Prop:=
 ∀(Q:Nv→Nx→Prop) (X:Nv→Nx→Prop),(∀v h' tk,aw (We CA) s.heap h'→aE Z CA σ' D h'→iH Z s.heap CA σ' D h' v U→Q v {s with heap:=h',toks:=tk})→NH (model Z.prog Z.w) A t Q X s
noncomputable def bK (Z:Wd) (n:Nat) (E:Ev):Prop:=∀(k:Nat) (c:Ctx) (e:Expr) (ce:CE),au Z.fname k c e ce=true→∀(env:Env) (A:Od) (s:Nx) (ρ:Loc) (σ:ag) (CA:List Addr) (D:Addr→Prop) (U:aA) (σ':ag),
 az env c→St Z env c.vars ρ CA σ D s.heap→aN n A→E.e ce ρ σ=some (U,σ')→eI Z A CA D σ' U (eval e env) s
noncomputable def gX (Z:Wd) (n:Nat) (E:Ev):Prop:=∀(k:Nat) (c:Ctx) (e:Expr) (ce:CE),au Z.fname k c e ce=true→∀(env:Env) (A:Od) (s:Nx) (ρ:Loc) (σ:ag) (CA:List Addr) (D:Addr→Prop) (b:Bool) (σ':ag),
 az env c→St Z env c.vars ρ CA σ D s.heap→aN n A→E.e ce ρ σ=some (.v (.bool b),σ')→
 ∀(Q:Bool→Nx→Prop) (X:Nv→Nx→Prop),(∀h' tk,aw (We CA) s.heap h'→aE Z CA σ' D h'→Q b {s with heap:=h',toks:=tk})→NH (model Z.prog Z.w) A (isTrue e env (eval e env)) Q X s
noncomputable def qb (Z:Wd) (n:Nat) (E:Ev):Prop:=∀(i:Nat) (args:List aA) (σ:ag) (U:aA) (σ':ag),E.c i args σ=some (.ok U,σ')→∀(A:Od) (s:Nx) (vs:List Nv) (CA:List Addr) (D:Addr→Prop),
 aN n A→Gd Z CA σ D s.heap→bS Z CA D s.heap vs args→∀R:Qx→Nx→Prop,
 (∀v h' tk,aw (We CA) s.heap h'→aE Z CA σ' D h'→iH Z s.heap CA σ' D h' v U→R (.ok (.ret v)) {s with heap:=h',toks:=tk})→PB (model Z.prog Z.w) A (.call (.ref (Z.fa i)) ⟨vs,[]⟩) R s
section
variable {Z:Wd} {CA:List Addr} {D:Addr→Prop} {σ σ':ag} {h h':Heap}
theorem eF.toV {v:Nv} {U:aA} {u:V} (r:eF Z CA D h v U.bind) (e:U.toV=some u):b8 Z D h v u:=by
 cases U<;>simp only [aA.toV] at e
 ·injection e with e;subst e;exact r
 ·injection e with e;subst e;exact r
 ·cases e
theorem eF.rd {v:Nv} {U:aA} {u:V} (c:aE Z CA σ D h) (r:eF Z CA D h v U.bind) (e:U.deref σ=some u):Rd Z D h v u:=by
 cases U<;>simp only [aA.deref] at e
 ·injection e with e;subst e;exact .inl r
 ·injection e with e;subst e;exact .inl r
 ·obtain ⟨a,ha,rfl⟩:=r;exact .inr ⟨a,rfl,c.at_ _ _ _ ha e⟩
theorem bS.toVs:∀{vs:List Nv} {Us:List aA} {us:List V},bS Z CA D h vs (Us.map aA.bind)→toVs Us=some us→ak Z D h vs us
 |_,[],_,r,e=>by cases r;exact Nq e▸ .nil
 |_,_::_,_,.cons x r,e=>af e fun u e1 e=>af e fun us' e2 e=>Nq e▸ .cons (x.toV e1) (r.toVs e2)
theorem bS.rds (c:aE Z CA σ D h):∀{vs:List Nv} {Us:List aA} {us:List V},bS Z CA D h vs (Us.map aA.bind)→nH σ Us=some us→gz Z D h vs us
 |_,[],_,r,e=>by cases r;exact Nq e▸ .nil
 |_,_::_,_,.cons x r,e=>af e fun u e1 e=>af e fun us' e2 e=>Nq e▸ .cons (x.rd c e1) (r.rds c e2)
theorem aE.grows (c:aE Z CA σ D h) (g:bM h h'):aE Z CA σ D h':=c.mono fun b o e _=>g b o e
end
section
variable {Z:Wd} {n:Nat} {E:Ev} {c:Ctx} {env:Env} {A:Od} {s:Nx} {ρ:Loc} {σ σ':ag} {CA:List Addr} {D:Addr→Prop} {X:Nv→Nx→Prop}
theorem bt {e:Expr} (h:oO e=true) (es:List Expr) (env:Env):starEach (e::es) env=(false,eval e env)::starEach es env:=by
 cases e<;>first|rfl|cases h
theorem jk (SE:bK Z n E) {k:Nat} {pos:Pos} (EO:az env c) (R:aN n A):∀{es:List Expr} {cs:List CE},d7 (au Z.fname k c) es cs=true→∀{s:Nx} {σ:ag} {q:List aA×ag},
  St Z env c.vars ρ CA σ D s.heap→kO E cs ρ σ=some q→∀{Q:List Nv→Nx→Prop},
  (∀vs h' tk,aw (We CA) s.heap h'→aE Z CA q.2 D h'→bS Z CA D h' vs (q.1.map aA.bind)→Q vs {s with heap:=h',toks:=tk})→
  NH (model Z.prog Z.w) A (spliced (backTo pos (starEach es env))) Q X s:=by
 intro es
 induction es with
 |nil=>
  intro cs hc s σ q S e Q h
  refine Np fun nG=> ?_
  cases aF hc
  cases Nq e
  refine nG ?_
  exact Ps (h [] s.heap s.toks aw.refl S.cells .nil)
 |cons e es ih=>
  intro cs hc s σ q S ev Q h
  refine Np fun nG=> ?_
  obtain ⟨ce,cs,rfl,hc⟩:=cV hc
  refine nG ?_
  refine af ev fun r1 e1 ev=>af ev fun r2 e2 ev=> ?_
  refine Np fun nG=> ?_
  cases Nq ev
  refine nG ?_
  rw [bt (ac hc).1]
  refine O9 (SE k c e ce (ac (ac hc).2).1 env A s ρ σ CA D r1.1 r1.2 EO S R e1 _ _ fun v h1 t1 k1 c1 q1=>ih (ac (ac hc).2).2 (s:={s with heap:=h1,toks:=t1}) (S.step k1 c1) e2 fun vs h2 t2 k2 c2 q2=> ?_)
  exact h (v::vs) h2 t2 (k1.trans k2) c2 (.cons ((q1.bindV fun a=>S.toGd.fresh_notD).mono ((S.step k1 c1).toGd.old k2)) q2)
theorem cT (SE:bK Z n E) {k:Nat} {e:Expr} {ce:CE} (hc:au Z.fname k c e ce=true) {q:V×ag} (EO:az env c) (S:St Z env c.vars ρ CA σ D s.heap) (R:aN n A) (ev:eO E ce ρ σ=some q)
  {Q:Nv→Nx→Prop} (h:∀v h' tk,aw (We CA) s.heap h'→aE Z CA q.2 D h'→b8 Z D h' v q.1→Q v {s with heap:=h',toks:=tk}):NH (model Z.prog Z.w) A (eval e env) Q X s:=
 af ev fun r e1 ev=>af ev fun u e2 ev=>SE k c e ce hc env A s ρ σ CA D r.1 r.2 EO S R e1 _ _ fun v h1 t1 k1 c1 r1=>h v h1 t1 k1 (Nq ev▸c1) (Nq ev▸(r1.bindV fun a=>S.toGd.fresh_notD).toV e2)
theorem rV (SE:bK Z n E) {k k':Nat} {e e':Expr} {ce ce':CE} (hc:au Z.fname k c e ce=true) (hc':au Z.fname k' c e' ce'=true) {q:List aA×ag} (EO:az env c) (S:St Z env c.vars ρ CA σ D s.heap) (R:aN n A)
  (ev:kO E [ce,ce'] ρ σ=some q) {Q:Nv→Nv→Nx→Prop}
  (h:∀v v' h' tk,aw (We CA) s.heap h'→aE Z CA q.2 D h'→bS Z CA D h' [v,v'] (q.1.map aA.bind)→Q v v' {s with heap:=h',toks:=tk}):
  NH (model Z.prog Z.w) A (eval e env) (fun v s₁=>NH (model Z.prog Z.w) A (eval e' env) (fun v' s₂=>Q v v' s₂) X s₁) X s:=
 af ev fun r e1 ev=>af ev fun r' e2 ev=>af e2 fun r2 e3 e2=>af e2 fun _ e4 e2=>by
  refine Np fun nG=> ?_
  cases Nq e4
  cases Nq e2
  cases Nq ev
  refine nG ?_
  exact SE k c e ce hc env A s ρ σ CA D r.1 r.2 EO S R e1 _ _ fun v h1 t1 k1 c1 q1=>
   SE k' c e' ce' hc' env A {s with heap:=h1,toks:=t1} ρ r.2 CA D r2.1 r2.2 EO (S.step k1 c1) R e3 _ _ fun v' h2 t2 k2 c2 q2=>h v v' h2 t2 (k1.trans k2) c2
    (.cons ((q1.bindV fun a=>S.toGd.fresh_notD).mono ((S.step k1 c1).toGd.old k2)) (.cons (q2.bindV fun a=>(S.step k1 c1).toGd.fresh_notD) .nil))
theorem qi (SE:bK Z n E) {k k':Nat} {e e':Expr} {ce ce':CE} (hc:au Z.fname k c e ce=true) (hc':au Z.fname k' c e' ce'=true) {q:List V×ag} {a b:V} (hq:q.1=[a,b]) (EO:az env c) (S:St Z env c.vars ρ CA σ D s.heap) (R:aN n A)
  (ev:jw E [ce,ce'] ρ σ=some q) {Q:Nv→Nv→Nx→Prop}
  (h:∀v v' h' tk,aw (We CA) s.heap h'→aE Z CA q.2 D h'→b8 Z D h' v a→b8 Z D h' v' b→Q v v' {s with heap:=h',toks:=tk}):
  NH (model Z.prog Z.w) A (eval e env) (fun v s₁=>NH (model Z.prog Z.w) A (eval e' env) (fun v' s₂=>Q v v' s₂) X s₁) X s:=
 af ev fun r e1 ev=>af ev fun us e2 ev=>rV SE hc hc' EO S R e1 fun v v' h' tk k1 c1 q1=>by
  cases Nq ev
  cases (hq▸q1.toVs e2:ak Z D h' [v,v'] [a,b]) with
  |cons x r=>cases r with|cons y _=>exact h v v' h' tk k1 c1 x y
theorem p8 (SE:bK Z n E) {k k':Nat} {e e':Expr} {ce ce':CE} (hc:au Z.fname k c e ce=true) (hc':au Z.fname k' c e' ce'=true) {q:List V×ag} {a b:V} (hq:q.1=[a,b]) (EO:az env c) (S:St Z env c.vars ρ CA σ D s.heap) (R:aN n A)
  (ev:rL E [ce,ce'] ρ σ=some q) {Q:Nv→Nv→Nx→Prop}
  (h:∀v v' h' tk,aw (We CA) s.heap h'→aE Z CA q.2 D h'→Rd Z D h' v a→Rd Z D h' v' b→Q v v' {s with heap:=h',toks:=tk}):
  NH (model Z.prog Z.w) A (eval e env) (fun v s₁=>NH (model Z.prog Z.w) A (eval e' env) (fun v' s₂=>Q v v' s₂) X s₁) X s:=
 af ev fun r e1 ev=>af ev fun us e2 ev=>rV SE hc hc' EO S R e1 fun v v' h' tk k1 c1 q1=>by
  cases Nq ev
  cases (hq▸q1.rds c1 e2:gz Z D h' [v,v'] [a,b]) with
  |cons x r=>cases r with|cons y _=>exact h v v' h' tk k1 c1 x y
theorem Gd.noSys {p:Ob} {loose:List Str} {mg mb:Str→Nr Nv} (O:Wd.Ok Z p loose mg mb) {h1:Heap} (G:Gd Z CA σ D h1) (d:Addr) (n:h1.objs.size≤d):(d==QX)=false:=by
 refine PU.mpr fun z=> ?_
 subst z
 exact absurd (PE O.sysM (On G.size n)) (OD _)
variable {p:Ob} {loose:List Str} {mg mb:Str→Nr Nv}
theorem cJ {b:Bool} (h:(!b)=true):b=false:=by cases b<;>first|rfl|cases h
theorem jB {x:Str} (g:eX c x=true):c.sc.names.lookup x=some .globalImplicit∧(x==("__debug__":Str))=false:=⟨NE (ac g).1,cJ (ac g).2⟩
theorem jZ (O:Wd.Ok Z p loose mg mb) (EO:az env c) (b:∀a o,Z.base.get? a=some o→s.heap.get? a=some o) {x:Str} {pos:Pos} {v:Nv} (g:eX c x=true) (e:nsIn Z.K Og x=some (some v)) {Q:Nv→Nx→Prop} (h:Q v s):
  NH (model Z.prog Z.w) A (eval (.Name x pos) env) Q X s:=
 O6 (by rw [EO.sc];exact EO.kind) (by unfold PT;rw [EO.sc];exact (jB g).1) (Qn (mg:=mg) (by rw [EO.glb];exact O.T.g.keeps b) (mg_of O.X O.T.g e) h) (jB g).2
theorem qx (O:Wd.Ok Z p loose mg mb) (EO:az env c) (b:∀a o,Z.base.get? a=some o→s.heap.get? a=some o) {x:Str} {pos:Pos} {v:Nv} (g:eX c x=true) (e:nsIn Z.K Og x=some none) (hv:bootBuiltins x=some v) (hn:x≠"__name__") {Q:Nv→Nx→Prop} (h:Q v s):
  NH (model Z.prog Z.w) A (eval (.Name x pos) env) Q X s:=
 O6 (by rw [EO.sc];exact EO.kind) (by unfold PT;rw [EO.sc];exact (jB g).1) (QQ (mg:=mg) (mb:=mb) (by rw [EO.glb];exact O.T.g.keeps b) (VU O.X O.T.g e) (by rw [EO.blt];exact O.T.b.keeps b) ((O.T.builtins x hn).trans hv) h) (jB g).2
theorem hZ {vars:eE} {x:Str} {i:Nat} (h:vars.contains (x,i)=true):(x,i)∈vars:=by simpa using h
end
end
section
open PySem PySem.W PyProof.Rows
theorem wD (s:Str):bF s.cps.toList=s:=by cases s;simp [bF]
section
variable {Z:Wd} {n:Nat} {E:Ev} {c:Ctx} {env:Env} {A:Od} {s:Nx} {ρ:Loc} {σ σ':ag} {CA:List Addr} {D:Addr→Prop} {X:Nv→Nx→Prop} {p:Ob} {loose:List Str} {mg mb:Str→Nr Nv}
theorem aN.less {n m:Nat} (R:aN n A) (h:m≤n):aN m A:=⟨NL (OK (N2 h _) _) R.depth,NL (OK (N2 (QK 10 h) _) _) R.units,R.calm⟩
theorem ux {e:Expr} {attr:Str} {whole:Sem Nv} (h:dQ e=true) {M:Model} {Q:Nv→Nx→Prop} (hw:NH M A whole Q X s):NH M A (attributeBase e attr env whole) Q X s:=by
 rcases Pe.mp h with h|h
 ·cases e<;>first|exact hw|cases h
 ·refine ax h fun q h1 h2=> ?_
  obtain ⟨np,pos,rfl⟩:=cU h1
  cases hq:q.2 with
  |cons _ _=>exact hw
  |nil=>
   show NH _ _ (if (q.1 !="super"||attr=="__class__"||env.kindOf "super" !=some .globalImplicit||env.kindOf "__class__" !=some .free)=true then whole else _) Q X s
   rw [h2,Td,Td,Td,NP rfl]
   exact hw
theorem uy {k:Ue} {u:V} {kk:Nat} {pos:Pos} (e:ta k=some u):∀(Q:Nv→Nx→Prop),(∀v tk,b8 Z D s.heap v u→Q v {s with toks:=tk})→NH (model Z.prog Z.w) A (eval (.Constant k kk pos) env) Q X s:=by
 intro Q h
 cases k<;>try (cases e;done)
 ·cases Nq e;exact wpAny_Constant_none (h _ s.toks .none)
 ·cases Nq e;exact T6 (h _ s.toks (.bool _))
 ·cases Nq e;exact R8 (h _ _ (.int _ _))
 ·rename_i x
  refine Np fun nG=> ?_
  refine aL e fun ok e=> ?_
  cases Nq e
  refine nG ?_
  exact R9 (h _ _ (wD x▸ .str (Z:=Z) (D:=D) (h:=s.heap) x.cps.toList s.toks ok))
theorem B6 {e:PN} {es:List PN} {x:Str} {t:Tok} (hk:e.key= .str x t):getL x (e::es)=some (some e.val):=by
 unfold getL
 simp [RK,show e.key.isStr x=true by rw [hk];simp [Value.isStr]]
theorem rZ {e:PN} {es:List PN} {x y:Str} {t:Tok} (hk:e.key= .str y t) (n:y≠x):getL x (e::es)=getL x es:=by
 unfold getL
 simp only [RK,show e.key.isStr x=false by rw [hk];simpa [Value.isStr] using n,Rz,show e.refKey=false by simp [Vd,hk],Bool.false_or]
theorem Dt {f:gV} {u:V} {h:Heap} (inj:∀f g:gV,fs f=fs g→f=g) {fs':List gV} {es:List PN} (K:jK fs' es):∀{us:List V},ak Z D h (es.map (·.val)) us→Bp fs' us f=some u→
  ∃v,getL (fs f) es=some (some v)∧b8 Z D h v u:=by
 induction K with
 |nil=>exact fun _ g=>nomatch g
 |cons hk K ih=>
  intro us r g
  cases r with
  |cons r1 r2=>exact (Tb _).elim (fun q=>⟨_,q▸B6 hk,Nq ((NP q).symm.trans g)▸r1⟩) fun q=>let ⟨v,h1,h2⟩:=ih r2 ((N4 q).symm.trans g);⟨v,(rZ hk fun z=>q (inj _ _ z)).trans h1,h2⟩
theorem y3 {fs':List gV} {es:List PN} (K:jK fs' es) {x:Str} (n:∀f∈fs',fs f≠x):getL x es=some none:=by
 induction K with
 |nil=>rfl
 |cons hk K ih=>exact (rZ hk (n _ (.head _))).trans (ih fun f m=>n f (.tail _ m))
noncomputable def J0 (x:Str):Nr gV:=[gV.labels,.instruction,.name,.operands,.prefix_,.kind,.register,.worth,.number,.size].find? fun f=>fs f==x
theorem yc (f:gV):J0 (fs f)=some f:=by cases f<;>decide+kernel
theorem A6 (f g:gV) (h:fs f=fs g):f=g:=Nq ((yc f).symm.trans ((NC J0 h).trans (yc g)))
theorem uN:∀{fs':List gV} {us:List V} {f:gV} {u:V},Bp fs' us f=some u→f∈fs'
 |[],_,_,_,e=>nomatch e
 |_::_,[],_,_,e=>nomatch e
 |g::fs',w::us,f,u,e=>(Tb (g=f)).elim (fun q=>q▸ .head _) fun q=> .tail _ (uN ((N4 q).symm.trans e))
theorem St.fr (S:St Z env c.vars ρ CA σ D s.heap):∃m,Fr Z.base env.locals s.heap m:=let ⟨m,n⟩:=S.ns;⟨m,n,S.base,S.dabove _ S.nsD⟩
theorem zJ {Z:Wd} {D:Addr→Prop} {h:Heap} {v:Nv} {u:V} (r:b8 Z D h v u):handedIn v=true:=by cases r<;>rfl
structure Ey (Z:Wd) (D:Addr→Prop) (h:Heap) (v:Nv) (k:iJ) (us:List V) (a dx:Addr) (es:List PN) (n:Nat):Prop where
 v:v= .ref a
 g1:h.get? a=some (Rb (Z.ca k) dx)
 g2:h.get? dx=some (TB es n)
 keys:jK k.fields es
 vals:ak Z D h (es.map (·.val)) us
theorem b8.toInst {h:Heap} {v:Nv} {k:iJ} {us:List V} (r:b8 Z D h v (.inst k us)):∃a dx es n,Ey Z D h v k us a dx es n:=by
 obtain ⟨a,dx,es,n,e,_,_,g1,g2,K,r⟩:=r.says
 exact ⟨a,dx,es,n,e,g1,g2,K,r⟩
theorem wJ (O:Wd.Ok Z p loose mg mb) (S:St Z env c.vars ρ CA σ D s.heap) {v:Nv} {k:iJ} {us:List V} {f:gV} {u:V} (r:b8 Z D s.heap v (.inst k us)) (g:Bp k.fields us f=some u) {Q:Nv→Nx→Prop}
  (h:∀v tk,b8 Z D s.heap v u→Q v {s with toks:=tk}):NH (model Z.prog Z.w) A (getAttr v (fs f) true) Q X s:=by
 refine Np fun nG=> ?_
 obtain ⟨a,dx,es,n,rfl,g1,g2,K,rr⟩:=r.toInst
 obtain ⟨m,F⟩:=S.fr
 obtain ⟨h1,h2,attr,h3,h4⟩:=O.fld k f (uN g)
 obtain ⟨x,hx,rx⟩:=Dt A6 K rr g
 refine nG ?_
 exact get_own F O.X ⟨g1,rfl,rfl,g2⟩ h1 h2 h3 h4 hx (zJ rx) (h _ _ rx)
theorem zI {slice:Expr} {b:Bool} {o i:Nv} (h:jd slice=true):subscripted slice b o i=if b=true then runValue (.builtin "lifetime.subscript" ⟨[o,i],[]⟩) else operate [o,i] (getItem o i):=by
 cases slice<;>cases b<;>first|rfl|cases h
theorem oH {value slice:Expr} {pos:Pos} {Q:Nv→Nx→Prop} (h:jd slice=true)
  (hw:NH (model Z.prog Z.w) A (eval value env) (fun a s₁=>NH (model Z.prog Z.w) A (eval slice env) (fun b s₂=>
   NH (model Z.prog Z.w) A (do let g←QU a;if g=true then runValue (.builtin "lifetime.subscript" ⟨[a,b],[]⟩) else operate [a,b] (getItem a b)) Q X s₂) X s₁) X s):
  NH (model Z.prog Z.w) A (eval (.Subscript value slice pos) env) Q X s:=by
 rw [UA]
 refine Ny (Oc hw (fun a s₁ h₁=>Ny (Ou (Oc h₁ (fun b s₂ h₂=>Ny (OR ?_)) fun _ _ x=>x))) fun _ _ x=>x)
 have e:∀g,subscripted slice g a b=_:=fun g=>zI h
 have:NH (model Z.prog Z.w) A (do let g←QU a;let r←subscripted slice g a b;letTemporaryGo value a r;pure r) Q X s₂:=by
  simp only [e]
  rw [←bind_assoc]
  exact Ny (Oc h₂ (fun r s₃ h₃=>Ny (RB (NM h₃))) fun _ _ x=>x)
 exact this
theorem ow {value slice:Expr} {pos:Pos} {Q:Nv→Nx→Prop} (hs:∀b o i,subscripted slice b o i=operate [i,o] (getItem o i)∨subscripted slice b o i=if b=true then runValue (.builtin "lifetime.subscript" ⟨[o,i],[]⟩) else operate [o,i] (getItem o i))
  (hw:NH (model Z.prog Z.w) A (eval value env) (fun a s₁=>NH (model Z.prog Z.w) A (eval slice env) (fun b s₂=>(∃T id,s₂.TypeIs a T∧R0 (.type T) "__getitem__"=pure (some (.builtin id)))∧
   NH (model Z.prog Z.w) A (getItem a b) Q X s₂) X s₁) X s):
  NH (model Z.prog Z.w) A (eval (.Subscript value slice pos) env) Q X s:=by
 rw [UA]
 refine Ny (Oc hw (fun a s₁ h₁=>Ny (Ou (Oc h₁ (fun b s₂ h₂=>Ny (OR ?_)) fun _ _ x=>x))) fun _ _ x=>x)
 refine Np fun nG=> ?_
 obtain ⟨⟨T,id,hT,hl⟩,h₂⟩:=h₂
 refine nG ?_
 refine Ny (MX (Z:=Z) hT hl ?_)
 have:NH (model Z.prog Z.w) A (subscripted slice false a b) (fun r s₃=>NH (model Z.prog Z.w) A (letTemporaryGo value a r>>=fun _=>pure r) Q X s₃) X s₂:=by
  have h3:NH (model Z.prog Z.w) A (getItem a b) (fun r s₃=>NH (model Z.prog Z.w) A (letTemporaryGo value a r>>=fun _=>pure r) Q X s₃) X s₂:=
   Oc h₂ (fun r s₃ h₃=>Ny (RB (NM h₃))) fun _ _ x=>x
  rcases hs false a b with e|e
  ·rw [e];exact Qm h3
  ·rw [e];simp only [Qu,UK];exact Qm h3
 exact Ny this
theorem zW {a:Nv} {x:V} {lo hi:Nr V} {u:V} (r:Rd Z D s.heap a x) (e:i9 x lo hi=some u):∃T id,s.TypeIs a T∧R0 (.type T) "__getitem__"=pure (some (.builtin id)):=by
 cases x<;>first|(cases e;done)|skip
 ·obtain ⟨t,rfl⟩:=r.str
  exact ⟨_,_,VS _ _ _,PySem.F.slot_str_getitem.lookup⟩
 ·obtain ⟨l,items,rfl,hl,_⟩:=r.lst
  exact ⟨_,_,hl.typeIs,slot_list_getitem.lookup⟩
end
end
section
open PySem PySem.W PyProof.Rows
set_option tactic.hygienic false
section
variable {Z:Wd} {n:Nat} {E:Ev} {c:Ctx} {env:Env} {A:Od} {s:Nx} {ρ:Loc} {σ σ':ag} {CA:List Addr} {D:Addr→Prop} {X:Nv→Nx→Prop} {p:Ob} {loose:List Str} {mg mb:Str→Nr Nv} {U:aA} {k:Nat}
theorem JD {u:V} {kc:Ue} {kk:Nat} {pos:Pos} (e:ta kc=some u) (S:St Z env c.vars ρ CA σ D s.heap):eI Z A CA D σ (.v u) (eval (.Constant kc kk pos) env) s:=
 fun Q _ h=>uy e Q fun v tk r=>h v s.heap tk aw.refl S.cells r
theorem mZ {e:Expr} {i:Int} (h:xW e i=true):∃kk p1 p2,e= .UnaryOp .USub (.Constant (.int i) kk p1) p2:=
 let ⟨q,h1,h2⟩:=bR h
 let ⟨k,h3,h4⟩:=bR (ac h2).2
 let ⟨p,h5⟩:=uT h1
 let ⟨n,p',h6⟩:=gS h3
 ⟨n,p',p,by rw [h5,ND (ac h2).1,h6,ND h4]⟩
theorem J3 {i:Int} {e:Expr} (he:xW e i=true) (S:St Z env c.vars ρ CA σ D s.heap):eI Z A CA D σ (.v (.int (-i))) (eval e env) s:=
 let ⟨_,_,_,h⟩:=mZ he
 h▸fun _ _ h=>Uf (R8 (TK (h _ s.heap _ aw.refl S.cells (.int _ _))))
theorem lH {x:Str} {i:Nat} (h:Bx c x i=true):(x,i)∈c.vars∧(x==("__debug__":Str))=false∧(x==("__classdict__":Str))=false:=⟨hZ (ac (ac h).1).1,cJ (ac (ac h).1).2,cJ (ac h).2⟩
theorem zU {i:Nat} (e:ρ[i]?.join=some U):ρ[i]? =some (some U):=by
 cases h:ρ[i]? with
 |none=>rw [h] at e;cases e
 |some o=>rw [h] at e;exact NC some e
theorem Ll {i:Nat} {x:Str} {pos:Pos} (hx:Bx c x i=true) (EO:az env c) (S:St Z env c.vars ρ CA σ D s.heap) (ev:ρ[i]?.join=some U):eI Z A CA D σ U (eval (.Name x pos) env) s:=
 fun Q X h=>wpAny_Name (Bk S (by rw [EO.sc];exact EO.kind) (lH hx).1 (zU ev) (lH hx).2.2 fun v r=>h v s.heap s.toks aw.refl S.cells (by
  cases U with
  |v u=>exact r
  |own u=>exact r.elim
  |cell k=>exact r)) (lH hx).2.1
theorem IM (O:Wd.Ok Z p loose mg mb) {g t:Sg} {pos:Pos} (hx:eX c (bF g)=true) (EO:az env c) (S:St Z env c.vars ρ CA σ D s.heap) (ev:Z.P.glob g=some t):eI Z A CA D σ (.v (.str t)) (eval (.Name (bF g) pos) env) s:=
 fun Q X h=>let ⟨tk,ok,e⟩:=O.glob _ _ ev;jZ O EO S.base hx e (h _ s.heap s.toks aw.refl S.cells (.str _ tk ok))
theorem il (SE:bK Z n E) {es:List Expr} {cs:List CE} {pos:Pos} (hc:d7 (au Z.fname k c) es cs=true) (EO:az env c) (S:St Z env c.vars ρ CA σ D s.heap) (R:aN n A) {q:List V×ag} (ev:jw E cs ρ σ=some q) {Q:List Nv→Nx→Prop}
  (h:∀vs h' tk,aw (We CA) s.heap h'→aE Z CA q.2 D h'→ak Z D h' vs q.1→Q vs {s with heap:=h',toks:=tk}):NH (model Z.prog Z.w) A (spliced (backTo pos (starEach es env))) Q X s:=
 af ev fun r e1 ev=>af ev fun us e2 ev=>jk SE EO R hc S e1 fun vs h1 t1 k1 c1 r1=>by cases Nq ev;exact h vs h1 t1 k1 c1 (r1.toVs e2)
theorem za (SE:bK Z n E) {es:List Expr} {cs:List CE} {pos:Pos} (hc:d7 (au Z.fname k c) es cs=true) (EO:az env c) (S:St Z env c.vars ρ CA σ D s.heap) (R:aN n A) {q:List V×ag} (ev:rL E cs ρ σ=some q) {Q:List Nv→Nx→Prop}
  (h:∀vs h' tk,aw (We CA) s.heap h'→aE Z CA q.2 D h'→gz Z D h' vs q.1→Q vs {s with heap:=h',toks:=tk}):NH (model Z.prog Z.w) A (spliced (backTo pos (starEach es env))) Q X s:=
 af ev fun r e1 ev=>af ev fun us e2 ev=>jk SE EO R hc S e1 fun vs h1 t1 k1 c1 r1=>by cases Nq ev;exact h vs h1 t1 k1 c1 (r1.rds c1 e2)
theorem JB (SE:bK Z n E) {es:List Expr} {cs:List CE} {kk:Nat} {pos:Pos} (hc:d7 (au Z.fname k c) es cs=true) (EO:az env c) (S:St Z env c.vars ρ CA σ D s.heap) (R:aN n A) {q:List V×ag} (ev:jw E cs ρ σ=some q) (hz:q.1.length≤16777216):
  eI Z A CA D q.2 (.v (.tup q.1)) (eval (.Tuple es kk pos) env) s:=fun Q X h=>
 wpAny_Tuple (il SE hc EO S R ev fun vs h1 t1 k1 c1 ra=>⟨by rw [ra.length];exact hz,h _ _ t1 (k1.trans (aw.push _)) (c1.grows (aG _ _)) (nz (S.toGd.step k1 c1).live (by simpa using ra) hz)⟩)
theorem aE.new1 {h1 h2:Heap} (c:aE Z CA σ D h1) (g:∀b o,h1.get? b=some o→h2.get? b=some o) {a:Addr} (l:h1.objs.size≤a):aE Z CA σ (DC D a) h2:=
 c.grow g (fun b o e d=>d.elim id fun z=>by subst z;exact absurd (N7 e) (PD.mpr l)) fun b d=> .inl d
theorem CM {us:List V} {vs:List Nv} {h1:Heap} (G:Gd Z CA σ D s.heap) (k1:aw (We CA) s.heap h1) (c1:aE Z CA σ' D h1) (ra:ak Z D h1 vs us) (hz:us.length≤16777216):
  iH Z s.heap CA σ' D (h1.push {cls:= .type "list",data:= .seq vs.toArray}) (.ref h1.objs.size) (.own (.lst us)):=by
 refine ⟨h1.objs.size,rfl,G.alive k1 c1 (d9 h1),NY (G.step k1 c1).size,⟨hz,vs.toArray,⟨0,Oa _ rfl⟩,?_⟩,c1.new1 (aG _ _) (NI _)⟩
 have:ak Z (fun b=>D b∨b=h1.objs.size) (h1.push {cls:= .type "list",data:= .seq vs.toArray}) vs us:=ra.mono fun b o d e=>
  ⟨fun x=>x.elim d fun y=>by rw [y] at e;exact ar (d9 h1) e,aG _ _ b o e⟩
 simpa using this
theorem Ko (SE:bK Z n E) {es:List Expr} {cs:List CE} {pos:Pos} (hc:d7 (au Z.fname k c) es cs=true) (EO:az env c) (S:St Z env c.vars ρ CA σ D s.heap) (R:aN n A) {q:List V×ag} (ev:jw E cs ρ σ=some q) (hz:q.1.length≤16777216):
  eI Z A CA D q.2 (.own (.lst q.1)) (eval (.List es pos) env) s:=fun Q X h=>
 wpAny_List (il SE hc EO S R ev fun vs h1 t1 k1 c1 ra=>⟨by rw [ra.length];exact hz,h _ _ t1 (k1.trans (aw.push _)) (c1.grows (aG _ _)) (CM S.toGd k1 c1 ra hz)⟩)
theorem Hr (O:Wd.Ok Z p loose mg mb) {pos:Pos} (S:St Z env c.vars ρ CA σ D s.heap):eI Z A CA D σ (.own (.dct [] [])) (eval (.Dict [] [] pos) env) s:=fun Q X h=>
 wpAny_Dict_empty (h _ _ s.toks (aw.push _) (S.cells.grows (aG _ _)) ⟨s.heap.objs.size,rfl,d9 _,NY S.toGd.size,⟨rfl,[],Gd.noSys O S.toGd _ (NI _),VA s.heap,rfl,.nil⟩,S.cells.new1 (aG _ _) (NI _)⟩)
theorem zK {u w:V} {f:gV} (e:kW u f=some w):∃k us,u= .inst k us∧Bp k.fields us f=some w:=af e fun p e1 e2=>⟨p.1,p.2,m5 e1,e2⟩
theorem HU (O:Wd.Ok Z p loose mg mb) (SE:bK Z n E) {e:Expr} {ce:CE} {f:gV} {pos:Pos} (ns:dQ e=true) (hc:au Z.fname k c e ce=true) (EO:az env c) (S:St Z env c.vars ρ CA σ D s.heap) (R:aN n A)
  {q:V×ag} {w:V} (ev:eO E ce ρ σ=some q) (ea:kW q.1 f=some w):eI Z A CA D q.2 (.v w) (eval (.Attribute e (fs f) pos) env) s:=by
 intro Q X h
 obtain ⟨kc,us,h1,h2⟩:=zK ea
 rw [arm_eval_Attribute]
 refine Ny (ux ns (cT SE hc EO S R ev fun v g1 t1 k1 c1 r1=>Ny (OR (Ny (Ou ?_)))))
 exact wJ (s:={s with heap:=g1,toks:=t1}) O (S.step k1 c1) (h1▸r1) h2 fun v' tk r=>Ny (RB (NM (h v' g1 tk k1 c1 r)))
theorem Lh (SE:bK Z n E) {e i:Expr} {ce ci:CE} {pos:Pos} (ns:jd i=true) (hc:au Z.fname k c e ce=true) (hc':au Z.fname k c i ci=true) (EO:az env c) (S:St Z env c.vars ρ CA σ D s.heap) (R:aN n A)
  {q:List V×ag} {w:V} (ev:rL E [ce,ci] ρ σ=some q) (ei:two q.1 i3=some w):eI Z A CA D q.2 (.v w) (eval (.Subscript e i pos) env) s:=fun Q X h=>
 let ⟨_,_,h1,h2⟩:=gj ei
 oH ns (p8 SE hc hc' h1 EO S R ev fun v v' g1 t1 k1 c1 r1 r2=>z5 (s:={s with heap:=g1,toks:=t1}) r1 r2 h2 fun x tk r=>h x g1 tk k1 c1 r)
theorem Jq (SE:bK Z n E) {l r:Expr} {a b:CE} {o:FM} {pos:Pos} (hc:au Z.fname k c l a=true) (hc':au Z.fname k c r b=true) (EO:az env c) (S:St Z env c.vars ρ CA σ D s.heap) (R:aN n A)
  {q:List V×ag} {w:V} (ev:jw E [a,b] ρ σ=some q) (ei:two q.1 (oI o)=some w):eI Z A CA D q.2 (.v w) (eval (.BinOp l (ES o) r pos) env) s:=fun Q X h=>
 let ⟨_,_,h1,h2⟩:=gj ei
 wpAny_BinOp (qi SE hc hc' h1 EO S R ev fun v v' g1 t1 k1 c1 r1 r2=>yT (s:={s with heap:=g1,toks:=t1}) (S.toGd.step k1 c1).live r1 r2 h2 fun x h' tk g r=>h x h' tk (k1.trans (aw.of_all g)) (c1.grows g) r)
theorem v3 (op:CmpOp) (e:Expr) (h:fh e=true) (t:Sem Nv):markedEach [op] [e] [t]=[t]:=by
 cases e<;>first|rfl|cases h
theorem CT (op:CmpOp) (e:Expr) (h:fh e=true):behindInMarks op e=false:=by
 cases e<;>first|rfl|cases h
theorem px (R:aN n A):A.units+100 <SJ:=NL (Of (Oj ..) (by decide)) R.units
theorem oR (R:aN n A):A.units+64 <SJ:=NL (N2 (by decide) _) (px R)
noncomputable def wT (Z:Wd) (A:Od) (CA:List Addr) (D:Addr→Prop) (σ':ag) (U:aA) (e:Expr) (env:Env) (s:Nx):Prop:=
 ∀b,U= .v (.bool b)→∀(Q:Bool→Nx→Prop) (X:Nv→Nx→Prop),(∀h' tk,aw (We CA) s.heap h'→aE Z CA σ' D h'→Q b {s with heap:=h',toks:=tk})→NH (model Z.prog Z.w) A (isTrue e env (eval e env)) Q X s
theorem KW (SE:bK Z n E) {l r:Expr} {a b:CE} {o:uQ} {pos:Pos} (ns:fh r=true) (hc:au Z.fname k c l a=true) (hc':au Z.fname k c r b=true) (EO:az env c) (S:St Z env c.vars ρ CA σ D s.heap) (R:aN n A)
  {q:List V×ag} {t:Bool} (ev:rL E [a,b] ρ σ=some q) (ei:two q.1 (gC o)=some t):eI Z A CA D q.2 (.v (.bool t)) (eval (.Compare l [eD o] [r] pos) env) s∧wT Z A CA D q.2 (.v (.bool t)) (.Compare l [eD o] [r] pos) env s:=by
 refine Np fun nG=> ?_
 refine pB ei fun x y hq e4=> ?_
 refine nG ?_
 have core:∀(Q:Nv→Nx→Prop) X,(∀h' tk,aw (We CA) s.heap h'→aE Z CA q.2 D h'→Q (.bool t) {s with heap:=h',toks:=tk})→
   NH (model Z.prog Z.w) A (eval l env) (fun v s₁=>NH (model Z.prog Z.w) A (eval r env) (fun v' s₂=>NH (model Z.prog Z.w) A (SK (eD o) v v') Q X s₂) X s₁) X s:=fun Q X h=>
  p8 SE hc hc' hq EO S R ev fun v v' g1 t1 k1 c1 r1 r2=>kE (s:={s with heap:=g1,toks:=t1}) r1 r2 e4 (oR R) fun tk=>h g1 tk k1 c1
 refine ⟨fun Q X h=> ?_,fun t' ht Q X h=> ?_⟩
 ·show NH _ _ (do let v←eval l env;compareChain pos v [eD o] (markedEach [eD o] [r] [eval r env])) _ _ _
  rw [v3 _ _ ns]
  refine Ny (Oc (core Q X fun h1 t1 k1 c1=>h _ h1 t1 k1 c1 (.bool _)) (fun v s₁ h₁=> ?_) fun _ _ x=>x)
  exact Ny (Ou (Oc h₁ (fun v' s₂ h₂=>Ny (OR (Qm h₂))) fun _ _ x=>x))
 ·cases ht
  exact wpAny_isTrue_Compare1 (core (fun q s₃=>NH _ _ (truthy q) Q X s₃) X fun h1 t1 k1 c1=>PF (h h1 t1 k1 c1)) (CT _ _ ns)
end
section
variable {Z:Wd} {n:Nat} {E:Ev} {c:Ctx} {env:Env} {A:Od} {s:Nx} {ρ:Loc} {σ σ':ag} {CA:List Addr} {D:Addr→Prop} {X:Nv→Nx→Prop} {p:Ob} {loose:List Str} {mg mb:Str→Nr Nv} {U:aA} {k:Nat}
theorem wC {v:Nv} {x:V} {i:Int} {h:Heap} (r:b8 Z D h v x) (e:x= .int i):IsPart v (some i):=let ⟨t,h⟩:=(e▸r:b8 Z D h v (.int i)).rd.int;h▸ .int _ _
theorem mu {n d:Nat} {x:Nr V} {k:Nat} (h:BE n d x=some k):∃o,x=Pr V.int o:=by
 cases x with
 |none=>exact ⟨none,rfl⟩
 |some v=>exact am h fun i e _=>⟨some i,NC some (cW e)⟩
theorem pn (SE:bK Z n E) {l:Nr Expr} {lo:Nr CE} (hl:xE (au Z.fname k c) l lo=true) (EO:az env c) (S:St Z env c.vars ρ CA σ D s.heap) (R:aN n A) {q:Nr V×ag} (ev:Fu E lo ρ σ=some q) {o:Nr Int} (ho:q.1=o.map V.int)
  {Q:Nv→Nx→Prop} (h:∀v h' tk,aw (We CA) s.heap h'→aE Z CA q.2 D h'→IsPart v o→Q v {s with heap:=h',toks:=tk}):NH (model Z.prog Z.w) A (evalPart l env) Q X s:=by
 cases lo with
 |none=>
  cases Nq ev
  cases OI.mp hl
  cases o with
  |none=>rw [Ug];exact NM (h _ s.heap s.toks aw.refl S.cells .none)
  |some i=>cases ho
 |some ce=>
  obtain ⟨e,rfl,hc⟩:=bR hl
  refine am ev fun r e1 e2=> ?_
  refine Np fun nG=> ?_
  cases e2
  refine nG ?_
  cases o with
  |none=>cases ho
  |some i=>rw [evalPart_some];exact cT SE hc EO S R e1 fun v h1 t1 k1 c1 r1=>h v h1 t1 k1 c1 (wC r1 (Nq ho))
theorem HD {l u:Nr Expr} {p:Pos}:∀(b:Bool) (o i:Nv),subscripted (.Slice l u none p) b o i=operate [i,o] (getItem o i)∨subscripted (.Slice l u none p) b o i=if b=true then runValue (.builtin "lifetime.subscript" ⟨[o,i],[]⟩) else operate [o,i] (getItem o i):=
 fun b o i=>by cases b<;>exact .inl rfl
theorem xq {u:V} {lo hi:Nr V} {w:V} (e:i9 u lo hi=some w):(∃o,lo=Pr V.int o)∧∃o,hi=Pr V.int o:=by
 cases u<;>first|(cases e;done)|skip
 ·exact af (bU e).2 fun _ h1 e=>am e fun _ h2 _=>⟨mu h1,mu h2⟩
 ·exact af e fun _ h1 e=>am e fun _ h2 _=>⟨mu h1,mu h2⟩
theorem Lc (SE:bK Z n E) {e:Expr} {ce:CE} {l u:Nr Expr} {lo hi:Nr CE} {p1 pos:Pos} (hc:au Z.fname k c e ce=true) (hl:xE (au Z.fname k c) l lo=true) (hu:xE (au Z.fname k c) u hi=true)
  (EO:az env c) (S:St Z env c.vars ρ CA σ D s.heap) (R:aN n A) {q:V×ag} {q1 q2:Nr V×ag} (e1:eO E ce ρ σ=some q) (e2:Fu E lo ρ q.2=some q1) (e3:Fu E hi ρ q1.2=some q2)
  {w:V} (ew:i9 q.1 q1.1 q2.1=some w):eI Z A CA D q2.2 (.v w) (eval (.Subscript e (.Slice l u none p1) pos) env) s:=by
 intro Q X h
 refine Np fun nG=> ?_
 obtain ⟨⟨oa,h1⟩,ob,h2⟩:=xq ew
 refine nG ?_
 rw [h1,h2] at ew
 refine ow HD (cT SE hc EO S R e1 fun v g1 t1 k1 c1 r1=>wpAny_Slice ?_)
 have S1:=S.step k1 c1
 refine pn (s:={s with heap:=g1,toks:=t1}) SE hl EO S1 R e2 h1 fun vl g2 t2 k2 c2 p2=> ?_
 have S2:=S1.step k2 c2
 refine pn (s:={s with heap:=g2,toks:=t2}) SE hu EO S2 R e3 h2 fun vu g3 t3 k3 c3 p3=> ?_
 rw [Ug]
 refine NM ?_
 have r3:Rd Z D (g3.push {cls:= .type "slice",data:= .fields #[vl,vu,.none]}) v q.1:=((r1.mono (S1.toGd.old k2)).mono (S2.toGd.old k3)).rd.mono (aG _ _) fun _ _ d _=>d
 refine ⟨zW (s:={s with heap:=g3.push {cls:= .type "slice",data:= .fields #[vl,vu,.none]},toks:=t3}) r3 ew,?_⟩
 exact zl (s:={s with heap:=g3.push {cls:= .type "slice",data:= .fields #[vl,vu,.none]},toks:=t3}) (iz.grows (S2.step k3 c3).live (aG _ _)) r3 (UB ..) p2 p3 ew fun y h' tk g r=>
  h y h' tk (((k1.trans k2).trans k3).trans (aw.of_all fun b o e=>g b o (aG _ _ b o e))) (c3.grows fun b o e=>g b o (aG _ _ b o e)) r
theorem JU (SE:bK Z n E) {e:Expr} {ce:CE} {kk:Nat} {p1 p2 p3 pos:Pos} (hc:au Z.fname k c e ce=true) (EO:az env c) (S:St Z env c.vars ρ CA σ D s.heap) (R:aN n A) {q:V×ag} {us:List V} (ev:eO E ce ρ σ=some q) (eu:q.1.lst?=some us):
  eI Z A CA D q.2 (.v (.lst us.reverse)) (eval (.Subscript e (.Slice none none (some (.UnaryOp .USub (.Constant (.int 1) kk p1) p2)) p3) pos) env) s:=by
 intro Q X h
 refine ow (fun b o i=>by cases b<;>exact .inr rfl) (cT SE hc EO S R ev fun v g1 t1 k1 c1 r1=>wpAny_Slice ?_)
 rw [Ug]
 refine NM (NM ?_)
 rw [evalPart_some]
 refine Uf (R8 (TK ?_))
 refine Np fun nG=> ?_
 obtain ⟨a,items,rfl,hl,ri,_,len,le⟩:=Rd.lst (f7 eu▸r1.rd)
 refine nG ?_
 refine ⟨⟨_,_,(hl.push _).typeIs,slot_list_getitem.lookup⟩,?_⟩
 refine Sx (hl.push _) (UB ..) .none .none (.int _ _) (by decide) ?_ (by rw [len];exact le)
 rw [krv_pick]
 have g':bM g1 ((g1.push {cls:= .type "slice",data:= .fields #[.none,.none,.int (-1) (t1+1)]}).push {cls:= .type "list",data:= .seq items.toList.reverse.toArray}):=fun b o e=>aG _ _ b o (aG _ _ b o e)
 exact h _ _ _ (k1.trans (aw.of_all g')) (c1.grows g') (mD (iz.grows (S.step k1 c1).live (aG _ _)) (by simpa using (ri.grows (aG _ _)).reverse) (by rw [T7];exact le))
end
section
variable {Z:Wd} {n:Nat} {E:Ev} {c:Ctx} {env:Env} {A:Od} {s:Nx} {ρ:Loc} {σ σ':ag} {CA:List Addr} {D:Addr→Prop} {X:Nv→Nx→Prop} {p:Ob} {loose:List Str} {mg mb:Str→Nr Nv} {U:aA} {k:Nat}
theorem tc (SE:bK Z n E) {e:Expr} {ce:CE} (hc:au Z.fname k c e ce=true) (EO:az env c) (S:St Z env c.vars ρ CA σ D s.heap) (R:aN n A) {q:Bool×ag} (ev:cv E ce ρ σ=some q) {Q:Nv→Nx→Prop}
  (h:∀h' tk,aw (We CA) s.heap h'→aE Z CA q.2 D h'→Q (.bool q.1) {s with heap:=h',toks:=tk}):NH (model Z.prog Z.w) A (eval e env) Q X s:=
 SE k c e ce hc env A s ρ σ CA D _ q.2 EO S R (jq ev) _ _ fun v h1 t1 k1 c1 r1=>Rd.bool (r1:b8 Z D h1 v (.bool q.1)).rd▸h h1 t1 k1 c1
theorem j4 (SB:gX Z n E) {e:Expr} {ce:CE} (hc:au Z.fname k c e ce=true) (EO:az env c) (S:St Z env c.vars ρ CA σ D s.heap) (R:aN n A) {q:Bool×ag} (ev:cv E ce ρ σ=some q) {Q:Bool→Nx→Prop}
  (h:∀h' tk,aw (We CA) s.heap h'→aE Z CA q.2 D h'→Q q.1 {s with heap:=h',toks:=tk}):NH (model Z.prog Z.w) A (isTrue e env (eval e env)) Q X s:=
 SB k c e ce hc env A s ρ σ CA D q.1 q.2 EO S R (jq ev) Q X h
noncomputable def KE (t:Bool):BoolOp:=if t then .And else .Or
theorem rE {t:Bool} {ce:CE} {cs:List CE} {q:Bool×ag} (e:eW E t (ce::cs) ρ σ=some q):∃r,cv E ce ρ σ=some r∧((cs=[]∧q=r)∨(cs≠[]∧r.1= !t∧q=r)∨(cs≠[]∧r.1=t∧eW E t cs ρ r.2=some q)):=
 af e fun r e1 e=>⟨r,e1,by
  cases cs with
  |nil=>exact .inl ⟨rfl,(Nq e).symm⟩
  |cons a as=>
   obtain ⟨b,σ1⟩:=r
   refine .inr ?_
   cases t<;>cases b
   ·exact .inr ⟨fun z=>(nomatch z),rfl,e⟩
   ·exact .inl ⟨fun z=>(nomatch z),rfl,(Nq e).symm⟩
   ·exact .inl ⟨fun z=>(nomatch z),rfl,(Nq e).symm⟩
   ·exact .inr ⟨fun z=>(nomatch z),rfl,e⟩⟩
theorem Fd (SE:bK Z n E) {pos:Pos} {t:Bool} (EO:az env c) (R:aN n A):∀{es:List Expr} {cs:List CE},d7 (au Z.fname k c) es cs=true→∀{s:Nx} {σ:ag},St Z env c.vars ρ CA σ D s.heap→∀{q:Bool×ag},eW E t cs ρ σ=some q→∀{Q:Nv→Nx→Prop},
  (∀h' tk,aw (We CA) s.heap h'→aE Z CA q.2 D h'→Q (.bool q.1) {s with heap:=h',toks:=tk})→NH (model Z.prog Z.w) A (boolOp pos (KE t) (evalEach es env)) Q X s:=by
 intro es
 induction es with
 |nil=>intro cs hc s σ S q ev;cases aF hc;cases ev
 |cons e es ih=>
  intro cs hc s σ S q ev Q h
  obtain ⟨ce,cs,rfl,hc⟩:=cV hc
  obtain ⟨r,e1,hr⟩:=rE ev
  have hc1:=(ac (ac hc).2).1
  have hc2:=(ac (ac hc).2).2
  cases es with
  |nil=>
   cases aF hc2
   rcases hr with ⟨_,rfl⟩|⟨z,_⟩|⟨z,_⟩
   ·exact tc SE hc1 EO S R e1 h
   ·exact (z rfl).elim
   ·exact (z rfl).elim
  |cons e' es=>
   have ne:cs≠[]:=fun z=>by subst z;cases hc2
   show NH _ _ (eval e env>>=_) _ _ _
   refine Ny (tc SE hc1 EO S R e1 fun h1 t1 k1 c1=>Ny (OR (Ny (Ou (PF ?_)))))
   rcases hr with ⟨z,_⟩|⟨_,z,rfl⟩|⟨_,z,ev⟩
   ·exact (ne z).elim
   ·have:=h h1 t1 k1 c1
    rw [z] at this ⊢
    cases t<;>exact NM this
   ·have:=ih hc2 (s:={s with heap:=h1,toks:=t1}) (S.step k1 c1) ev fun h2 t2 k2 c2=>h h2 t2 (k1.trans k2) c2
    rw [z]
    cases t<;>exact this
theorem and_true (SB:gX Z n E) {t:Bool} (EO:az env c) (R:aN n A):∀{es:List Expr} {cs:List CE},d7 (au Z.fname k c) es cs=true→∀{s:Nx} {σ:ag},St Z env c.vars ρ CA σ D s.heap→∀{q:Bool×ag},eW E t cs ρ σ=some q→∀{Q:Bool→Nx→Prop},
  (∀h' tk,aw (We CA) s.heap h'→aE Z CA q.2 D h'→Q q.1 {s with heap:=h',toks:=tk})→NH (model Z.prog Z.w) A (allTrue (KE t) es env) Q X s:=by
 intro es
 induction es with
 |nil=>intro cs hc s σ S q ev;cases aF hc;cases ev
 |cons e es ih=>
  intro cs hc s σ S q ev Q h
  obtain ⟨ce,cs,rfl,hc⟩:=cV hc
  obtain ⟨r,e1,hr⟩:=rE ev
  have hc1:=(ac (ac hc).2).1
  have hc2:=(ac (ac hc).2).2
  have go:NH (model Z.prog Z.w) A (isTrue e env (eval e env)) (fun b s'=>if b=t then NH (model Z.prog Z.w) A (allTrue (KE t) es env) Q X s' else Q b s') X s:=by
   refine j4 SB hc1 EO S R e1 fun h1 t1 k1 c1=> ?_
   rcases hr with ⟨rfl,rfl⟩|⟨_,z,rfl⟩|⟨_,z,ev⟩
   ·have:=h h1 t1 k1 c1
    cases es with
    |cons _ _=>cases hc2
    |nil=>
     split
     ·rename_i z
      rw [z] at this
      cases t
      ·exact NM this
      ·exact wpAny_allTrue_And_nil this
     ·exact this
   ·rw [N4 (by rw [z];cases t<;>decide)];exact h h1 t1 k1 c1
   ·rw [NP z];exact ih hc2 (s:={s with heap:=h1,toks:=t1}) (S.step k1 c1) ev fun h2 t2 k2 c2=>h h2 t2 (k1.trans k2) c2
  cases t
  ·exact wpAny_allTrue_Or_cons (Oc go (fun b s' h'=>by cases b<;>exact h') fun _ _ x=>x)
  ·exact wpAny_allTrue_And_cons (Oc go (fun b s' h'=>by cases b<;>exact h') fun _ _ x=>x)
theorem eI.tr {e:Expr} (h:eI Z A CA D σ' U (eval e env) s) (he:isTrue e env (eval e env)=(do let v←eval e env;standAt e.pos;holding [v] (truthy v))):wT Z A CA D σ' U e env s:=
 fun b hU Q X hq=>wpAny_isTrue_value (h _ _ fun v h1 t1 k1 c1 r1=>by subst hU;exact Rd.bool (r1:b8 Z D h1 v (.bool b)).rd▸PF (hq h1 t1 k1 c1)) he
theorem GE (SE:bK Z n E) (SB:gX Z n E) {t:Bool} {es:List Expr} {cs:List CE} {pos:Pos} (hc:d7 (au Z.fname k c) es cs=true) (EO:az env c) (S:St Z env c.vars ρ CA σ D s.heap) (R:aN n A) {q:Bool×ag} (ev:eW E t cs ρ σ=some q):
  eI Z A CA D q.2 (.v (.bool q.1)) (eval (.BoolOp (KE t) es pos) env) s∧wT Z A CA D q.2 (.v (.bool q.1)) (.BoolOp (KE t) es pos) env s:=
 ⟨fun Q X h=>Fd SE EO R hc S ev fun h1 t1 k1 c1=>h _ h1 t1 k1 c1 (.bool _),fun b' hb Q X h=>wpAny_isTrue_BoolOp (by cases hb;exact and_true SB EO R hc S ev h)⟩
theorem JT (SE:bK Z n E) (SB:gX Z n E) {e:Expr} {ce:CE} {pos:Pos} (hc:au Z.fname k c e ce=true) (EO:az env c) (S:St Z env c.vars ρ CA σ D s.heap) (R:aN n A) {q:Bool×ag} (ev:cv E ce ρ σ=some q):
  eI Z A CA D q.2 (.v (.bool !q.1)) (eval (.UnaryOp .Not e pos) env) s∧wT Z A CA D q.2 (.v (.bool !q.1)) (.UnaryOp .Not e pos) env s:=
 ⟨fun Q X h=>Uf (tc SE hc EO S R ev fun h1 t1 k1 c1=>not_of (PF (h _ h1 t1 k1 c1 (.bool _)))),fun b' hb Q X h=>by cases hb;exact wpAny_isTrue_Not (j4 SB hc EO S R ev h)⟩
theorem iH.older {g g':Heap} {v:Nv} {h:Heap} (r:iH Z g CA σ D h v U) (k:∀a,g.get? a=none→g'.get? a=none):iH Z g' CA σ D h v U:=by
 cases U with
 |v u=>exact r
 |cell k=>exact r
 |own u=>exact let ⟨q,q1,q2,q3⟩:=r;⟨q,q1,k _ q2,q3⟩
theorem eI.after {h1:Heap} {t1:Nat} {σ1:ag} {e:Sem Nv} (G:Gd Z CA σ D s.heap) (k1:aw (We CA) s.heap h1) (c1:aE Z CA σ1 D h1) (H:eI Z A CA D σ' U e {s with heap:=h1,toks:=t1}) {Q:Nv→Nx→Prop}
  (h:∀v h' tk,aw (We CA) s.heap h'→aE Z CA σ' D h'→iH Z s.heap CA σ' D h' v U→Q v {s with heap:=h',toks:=tk}):NH (model Z.prog Z.w) A e Q X {s with heap:=h1,toks:=t1}:=
 H Q X fun v h2 t2 k2 c2 r2=>h v h2 t2 (k1.trans k2) c2 (r2.older fun _ n=>G.alive k1 c1 n)
theorem Kn (SE:bK Z n E) (SB:gX Z n E) {t a b:Expr} {x y z:CE} {pos:Pos} (hc:au Z.fname k c t x=true) (ha:au Z.fname k c a y=true) (hb:au Z.fname k c b z=true) (EO:az env c) (S:St Z env c.vars ρ CA σ D s.heap) (R:aN n A)
  {q:Bool×ag} (e1:cv E x ρ σ=some q) (ev:E.e (if q.1 then y else z) ρ q.2=some (U,σ')):eI Z A CA D σ' U (eval (.IfExp t a b pos) env) s∧wT Z A CA D σ' U (.IfExp t a b pos) env s:=by
 have hab:∀t,au Z.fname k c (if t=true then a else b) (if t=true then y else z)=true:=fun t=>by cases t;exact hb;exact ha
 have ce:∀t:Bool,(if t=true then eval a env else eval b env)=eval (if t=true then a else b) env:=fun t=>by cases t<;>rfl
 have cb:∀t:Bool,(if t=true then isTrue a env (eval a env) else isTrue b env (eval b env))=isTrue (if t=true then a else b) env (eval (if t=true then a else b) env):=fun t=>by cases t<;>rfl
 refine ⟨fun Q X h=>wpAny_IfExp (j4 SB hc EO S R e1 fun h1 t1 k1 c1=> ?_),fun b' hb' Q X h=>isTrue_IfExp (j4 SB hc EO S R e1 fun h1 t1 k1 c1=> ?_)⟩
 ·have:=eI.after (s:=s) (X:=X) (Q:=Q) S.toGd k1 c1 (SE k c _ _ (hab q.1) env A {s with heap:=h1,toks:=t1} ρ q.2 CA D U σ' EO (S.step k1 c1) R ev) h
  cases hq:q.1<;>(rw [hq] at this;exact this)
 ·subst hb'
  have:=SB k c _ _ (hab q.1) env A {s with heap:=h1,toks:=t1} ρ q.2 CA D b' σ' EO (S.step k1 c1) R ev Q X fun h2 t2 k2 c2=>h h2 t2 (k1.trans k2) c2
  cases hq:q.1<;>(rw [hq] at this;exact this)
theorem FR (o o':CmpOp) (e e':Expr) (h':fh e'=true) (t t':Sem Nv):markedEach [o,o'] [e,e'] [t,t']=[t,t']:=by
 show t::markedEach [o'] [e'] [t']=_
 rw [v3 _ _ h']
theorem DY (o o':CmpOp) (e e':Expr) (h':fh e'=true):lastMarks [o,o'] [e,e']=false:=by
 show lastMarks [o'] [e']=false
 exact CT _ _ h'
theorem AM (SE:bK Z n E) {l r r':Expr} {a b d:CE} {o o':uQ} {pos:Pos} (ns':fh r'=true) (hc:au Z.fname k c l a=true) (hc':au Z.fname k c r b=true) (hd:au Z.fname k c r' d=true)
  (EO:az env c) (S:St Z env c.vars ρ CA σ D s.heap) (R:aN n A) {q:List V×ag} {x y:V} {t w:Bool} (e1:jw E [a,b] ρ σ=some q) (hq:q.1=[x,y]) (e2:gC o x y=some t)
  (ev:(t=false∧w=false∧σ'=q.2)∨(t=true∧∃z,eO E d ρ q.2=some (z,σ')∧gC o' y z=some w)):
  eI Z A CA D σ' (.v (.bool w)) (eval (.Compare l [eD o,eD o'] [r,r'] pos) env) s∧wT Z A CA D σ' (.v (.bool w)) (.Compare l [eD o,eD o'] [r,r'] pos) env s:=by
 have core:∀(Q:Nv→Nx→Prop) (F:Nx→Prop) (X:Nv→Nx→Prop),(∀h' tk,aw (We CA) s.heap h'→aE Z CA σ' D h'→Q (.bool w) {s with heap:=h',toks:=tk})→(w=false→∀h' tk,aw (We CA) s.heap h'→aE Z CA σ' D h'→F {s with heap:=h',toks:=tk})→
   NH (model Z.prog Z.w) A (eval l env) (fun v s₁=>NH (model Z.prog Z.w) A (eval r env) (fun v' s₂=>NH (model Z.prog Z.w) A (SK (eD o) v v') (fun q s₃=>q= .bool t∧(t=false→F s₃)∧
    (t=true→NH (model Z.prog Z.w) A (eval r' env) (fun w s₄=>NH (model Z.prog Z.w) A (SK (eD o') v' w) Q X s₄) X s₃)) X s₂) X s₁) X s:=fun Q F X h hF=>
  qi SE hc hc' hq EO S R e1 fun v v' h1 t1 k1 c1 r1 r2=>kE (s:={s with heap:=h1,toks:=t1}) r1.rd r2.rd e2 (oR R) fun tk=>⟨rfl,by
   rcases ev with ⟨rfl,hw,rfl⟩|⟨rfl,z,e5,e6⟩
   ·exact ⟨fun _=>hF hw h1 tk k1 c1,fun z=>(nomatch z)⟩
   ·exact ⟨fun z=>(nomatch z),fun _=>cT (s:={s with heap:=h1,toks:=tk}) SE hd EO (S.step k1 c1) R e5 fun w h2 t2 k2 c2 r3=>
     kE (s:={s with heap:=h2,toks:=t2}) (r2.mono ((S.step k1 c1).toGd.old k2)).rd r3.rd e6 (oR R) fun tk=>h h2 tk (k1.trans k2) c2⟩⟩
 refine ⟨fun Q X h=> ?_,fun bb hb Q X h=> ?_⟩
 ·show NH _ _ (do let v←eval l env;compareChain pos v [eD o,eD o'] (markedEach [eD o,eD o'] [r,r'] [eval r env,eval r' env])) _ _ _
  rw [FR _ _ _ _ ns']
  refine Ny (Oc (core Q (Q (.bool false)) X (fun h1 tk k1 c1=>h _ h1 tk k1 c1 (.bool _)) fun z h1 tk k1 c1=>z▸h _ h1 tk k1 c1 (.bool _)) (fun v s₁ h₁=> ?_) fun _ _ x=>x)
  refine Ny (Ou (Oc h₁ (fun v' s₂ h₂=>Ny (OR (Ny (Ou (Oc h₂ (fun q s₃ h₃=>Ny (wpAny_release ?_)) fun _ _ x=>x))))) fun _ _ x=>x))
  obtain ⟨rfl,hf,ht⟩:=h₃
  refine Ny (Ou (PF ?_))
  cases t with
  |true=>exact Ny (Ou (Oc (ht rfl) (fun w s₂ h₂=>Ny (OR (Qm h₂))) fun _ _ x=>x))
  |false=>exact NM (hf rfl)
 ·cases hb
  refine isTrue_chain (rs:=[]) (ops:=[]) (Oc (core (fun w s₂=>NH (model Z.prog Z.w) A (truthy w) Q X s₂) (Q false) X (fun h1 tk k1 c1=>PF (h h1 tk k1 c1)) fun z h1 tk k1 c1=>z▸h h1 tk k1 c1) (fun v s₁ h₁=> ?_) fun _ _ x=>x) (DY _ _ _ _ ns')
  refine Ny (Ou (Oc h₁ (fun v' s₂ h₂=>Ny (OR (Ny (Ou (Oc h₂ (fun q s₃ h₃=>Ny (wpAny_release ?_)) fun _ _ x=>x))))) fun _ _ x=>x))
  obtain ⟨rfl,hf,ht⟩:=h₃
  refine Ny (Ou (PF ?_))
  cases t with
  |true=>exact Ny (Ou (Oc (ht rfl) (fun w s₂ h₂=>Ny (OR (Ny (Qm (Oc h₂ (fun _ _ q=>Ou q) fun _ _ x=>x))))) fun _ _ x=>x))
  |false=>exact NM (hf rfl)
end
noncomputable def wf (Z:Wd):Prop:=∀(c:iJ) (us:List V) (w:V),iF c us=some w→∀(A:Od) (s:Nx) (vs:List Nv) (CA:List Addr) (σ:ag) (D:Addr→Prop),aN 0 A→Gd Z CA σ D s.heap→ak Z D s.heap vs us→
 ∀R:Qx→Nx→Prop,(∀v h' tk,bM s.heap h'→b8 Z D h' v w→R (.ok (.ret v)) {s with heap:=h',toks:=tk})→PB (model Z.prog Z.w) A (.call (.ref (Z.ca c)) ⟨vs,[]⟩) R s
section
variable {Z:Wd} {n:Nat} {E:Ev} {c:Ctx} {env:Env} {A:Od} {s:Nx} {ρ:Loc} {σ σ':ag} {CA:List Addr} {D:Addr→Prop} {X:Nv→Nx→Prop} {p:Ob} {loose:List Str} {mg mb:Str→Nr Nv} {U:aA} {k:Nat}
theorem jD {M:Model} {f:Nv} {args:List (Bool×Sem Nv)} (ha:args.any (·.1)=false) {Q:Args→Nx→Prop} (h:NH M A (spliced args) (fun vs s'=>Q ⟨vs,[]⟩ s') X s):NH M A (evalArgs f true args []) Q X s:=by
 unfold evalArgs
 match args,ha,h with
 |[],_,h=>
  show NH M A (spliced []>>=_) Q X s
  refine Ny (Oc h (fun vs s' h'=>Ny (NM (Ou (Ny (NM (Ny (NM (NM h')))))))) fun _ _ x=>x)
 |(true,x)::r,ha,_=>simp at ha
 |(false,x)::r,_,h=>
  show NH M A (spliced ((false,x)::r)>>=_) Q X s
  refine Ny (Oc h (fun vs s' h'=>Ny (NM (Ou (Ny (NM (Ny (NM (NM h')))))))) fun _ _ x=>x)
theorem ee {f:Expr→CE→Bool}:∀{es:List Expr} {cs:List CE},d7 f es cs=true→∀pos env,(backTo pos (starEach es env)).any (·.1)=false∧(backTo pos (starEach es env)).all (!·.1)=true:=by
 intro es
 induction es with
 |nil=>exact fun _ _ _=>⟨rfl,rfl⟩
 |cons e es ih=>
  intro cs h pos env
  refine Np fun nG=> ?_
  refine hS h fun c cs _ h=> ?_
  refine nG ?_
  have:=ih (ac (ac h).2).2 pos env
  rw [bt (ac h).1]
  exact this
noncomputable def Cb (Z:Wd) (f:Nv):Prop:=(∃id,f= .builtin id)∨(∃T,f= .type T)∨keepIn Z.K f=true
theorem iD {f:Nv} {first:List Nv} {pos:Pos} {args:List (Bool×Sem Nv)} (hf:Cb Z f) (ha:args.any (·.1)=false) {Q:Nv→Nx→Prop}
  (h:NH (model Z.prog Z.w) A (spliced args) (fun vs s₁=>Z.K.In s₁.heap∧NH (model Z.prog Z.w) A (call f (first++vs)) Q X s₁) X s):NH (model Z.prog Z.w) A (callWith pos f first args []) Q X s:=by
 rcases hf with ⟨id,rfl⟩|⟨T,rfl⟩|hk
 ·exact Calls.callWith_builtin ha (jD ha (Oc h (fun _ _ x=>x.2) fun _ _ x=>x))
 ·exact VV ha (jD ha (Oc h (fun _ _ x=>x.2) fun _ _ x=>x))
 ·exact callWith_of (P:=fun h=>Z.K.In h) (by rw [ha];rfl) (keeps_K hk) (jD ha h)
theorem im {o:Expr} {name:Str} {apos pos:Pos} {args:List Expr} {cs:List CE} (ns:dQ o=true) (hline:(apos.endLine==pos.line)=true) (hn:args.length <20) (ha:d7 (au Z.fname k c) args cs=true) {Q:Nv→Nx→Prop}
  (h:NH (model Z.prog Z.w) A (eval o env) (fun ov s₁=>∀pl:Sem Bool,NH (model Z.prog Z.w) A (getMethod ov name pl) (fun fx s₂=>NH (model Z.prog Z.w) A (callWith pos fx.1 fx.2 (backTo pos (starEach args env)) []) Q X s₂) X s₁) X s):
  NH (model Z.prog Z.w) A (eval (.Call (.Attribute o name apos) args [] pos) env) Q X s:=by
 rw [arm_eval_Call]
 refine Ny (ux ns (Oc h (fun ov s₁ h₁=>Ny (OR ?_)) fun _ _ x=>x))
 have hform:methodCallForm (args.length+([]:List TY).length) (backTo pos (starEach args env)) (backToKw pos (keywordEach [] env))=true:=by
  unfold methodCallForm
  rw [(ee ha _ _).2]
  have:([]:List TY).length=0:=rfl
  have e2:backToKw pos (keywordEach [] env)=[]:=rfl
  rw [e2,this]
  simp
  omega
 have hpos:methodCallPos true o env apos pos=pure pos:=by unfold methodCallPos;simp [hline]
 unfold methodCall
 rw [hform]
 refine Ny (Ou ?_)
 have:=h₁ (do return (←importBound o env).getD true)
 exact Oc this (fun fx s₂ h₂=>Ny (wpAny_of_eq hpos h₂)) fun _ _ x=>x
theorem lD {i:Nat}:∀{ks:List Nat} {us σ:ag},i∉ks→(pG ks us σ)[i]? =σ[i]?
 |[],_,_,_=>rfl
 |_::_,[],_,_=>rfl
 |k::ks,u::us,σ,h=>(lD (us:=us) (σ:=σ.set k u) fun m=>h (.tail _ m)).trans (Oo fun z=>h (by rw [z];exact .head _))
theorem sk {i:Nat}:∀{ks:List Nat} {us σ:ag},ks.Nodup→us.length=ks.length→i <σ.length→∀{j:Nat},ks[j]? =some i→(pG ks us σ)[i]? =us[j]?
 |[],_,_,_,_,_,_,e=>nomatch e
 |_::_,[],_,_,l,_,_,_=>nomatch l
 |k::ks,u::us,σ,nd,l,lt,0,e=>by
  cases Nq e
  exact (lD (Pl.mp nd).1).trans (Ol lt)
 |k::ks,u::us,σ,nd,l,lt,j+1,e=>sk (Pl.mp nd).2 (PX l) (by rw [OC];exact lt) (j:=j) e
theorem qp:∀{ks:List Nat} {us σ:ag},(pG ks us σ).length=σ.length
 |[],_,_=>rfl
 |_::_,[],_=>rfl
 |k::ks,u::us,σ=>(qp (ks:=ks) (us:=us) (σ:=σ.set k u)).trans OC
theorem iS {σ:ag}:∀{ks:List Nat} {us:ag},vZ σ ks=some us→us.length=ks.length∧∀{j k:Nat},ks[j]? =some k→σ[k]? =us[j]?
 |[],_,e=>⟨(NC P1 (Nq e)).symm,fun h=>nomatch h⟩
 |k::ks,_,e=>af e fun u e1 e=>am e fun us e2 e=>by
  obtain ⟨h1,h2⟩:=iS e2
  subst e
  refine ⟨NC TC h1,fun {j k'} h=> ?_⟩
  cases j with
  |zero=>cases Nq h;exact e1
  |succ j=>exact h2 h
noncomputable def nL (CA:List Addr) (ks:List Nat):List Addr:=ks.map fun k=>(CA[k]?).getD 0
theorem uX {ks:List Nat} {j k:Nat} (h:ks[j]? =some k):(nL CA ks)[j]? =some ((CA[k]?).getD 0):=by rw [nL,OO,h];rfl
theorem Cx {ks:List Nat} {j:Nat} {a:Addr} (h:(nL CA ks)[j]? =some a):∃k,ks[j]? =some k∧(CA[k]?).getD 0=a:=by rw [nL,OO] at h;exact map_some h
structure In (Z:Wd) (CA:List Addr) (σ:ag) (D:Addr→Prop) (h:Heap) (ks:List Nat) (us:ag):Prop where
 C:aE Z CA σ D h
 nd:ks.Nodup
 g:vZ σ ks=some us
theorem In.lt {ks:List Nat} {us:ag} {h:Heap} (I:In Z CA σ D h ks us) {j k:Nat} (e:ks[j]? =some k):∃a u,CA[k]? =some a∧σ[k]? =some u∧us[j]? =some u:=by
 have h2:=(iS I.g).2 e
 have lj:j <us.length:=by rw [(iS I.g).1];exact (NA.mp e).1
 rw [NB lj] at h2
 have lk:k <CA.length:=by rw [I.C.len];exact (NA.mp h2).1
 exact ⟨_,_,NB lk,h2,NB lj⟩
theorem In.at {ks:List Nat} {us:ag} {h:Heap} (I:In Z CA σ D h ks us) {j:Nat} {a:Addr} (e:(nL CA ks)[j]? =some a):∃k u,ks[j]? =some k∧CA[k]? =some a∧σ[k]? =some u∧us[j]? =some u:=
 let ⟨k,h1,h2⟩:=Cx e;let ⟨a',u,h3,h4,h5⟩:=I.lt h1;⟨k,u,h1,by rw [h3] at h2 ⊢;exact NC some h2,h4,h5⟩
theorem jX {α:Type} {l:List α} (nd:l.Nodup) {i j:Nat} {a:α} (h1:l[i]? =some a) (h2:l[j]? =some a):i=j:=by
 obtain ⟨l1,e1⟩:=NA.mp h1
 obtain ⟨l2,e2⟩:=NA.mp h2
 rcases Sp i j with l|l|l
 ·exact (Pq.mp nd i j l1 l2 l (e1.trans e2.symm)).elim
 ·exact l
 ·exact (Pq.mp nd j i l2 l1 l (e2.trans e1.symm)).elim
theorem In.mem {ks:List Nat} {us:ag} {h:Heap} (I:In Z CA σ D h ks us) {a:Addr} (m:a∈nL CA ks):a∈CA:=
 let ⟨_,e⟩:=Oy.mp m;let ⟨_,_,_,h,_⟩:=I.at e;NN h
theorem In.cells {ks:List Nat} {us:ag} {h:Heap} (I:In Z CA σ D h ks us):aE Z (nL CA ks) us D h where
 len:=by rw [nL,Nw,(iS I.g).1]
 nodup:=Pq.mpr fun i j li lj l e=>by
  obtain ⟨k,_,h1,h2,_⟩:=I.at (NB li)
  obtain ⟨k',_,h1',h2',_⟩:=I.at (NB lj)
  rw [e] at h2
  cases jX I.C.nodup h2 h2'
  exact absurd (jX I.nd h1 h1') (Re l)
 at_:=fun j a u e e'=>let ⟨k,u',_,h2,h3,h4⟩:=I.at e;I.C.at_ k a u h2 (h3.trans (h4.symm.trans e'))
 inD:=fun a m=>I.C.inD a (I.mem m)
theorem In.back {ks:List Nat} {us us':ag} {h h':Heap} {D':Addr→Prop} (I:In Z CA σ D h ks us) (k:aw (We (nL CA ks)) h h') (c:aE Z (nL CA ks) us' D' h') (sub:∀a,D a→D' a) (sup:∀a o,h.get? a=some o→D' a→D a):aE Z CA (pG ks us' σ) D' h' where
 len:=by rw [qp];exact I.C.len
 nodup:=I.C.nodup
 at_:=fun i a u e e'=>by
  have hl:us'.length=ks.length:=by rw [←c.len,nL,Nw]
  by_cases m:i∈ks
  ·obtain ⟨j,hj⟩:=Oy.mp m
   refine Np fun nG=> ?_
   obtain ⟨a',u',h3,h4,_⟩:=I.lt hj
   refine nG ?_
   rw [sk I.nd hl (NA.mp h4).1 hj] at e'
   exact c.at_ j a u ((uX hj).trans (by rw [e];rfl)) e'
  ·rw [lD m] at e'
   refine (I.C.at_ i a u e e').mono (fun o g=>k a o g fun w=> ?_) fun b o d g=>⟨fun z=>d (sup b o g z),k b o g fun w=>d (I.C.inD b (I.mem w))⟩
   obtain ⟨j,hj⟩:=Oy.mp w
   obtain ⟨k',_,h1,h2,_⟩:=I.at hj
   cases jX I.C.nodup h2 e
   exact m (NN h1)
 inD:=fun a m=>sub a (I.C.inD a m)
theorem In.renum {h:Heap} {ks:List Nat} {us:ag} (I:In Z CA σ D h ks us) {vs:List Nv} {Us:List aA} (r:bS Z CA D h vs Us):∀{j:Nat},(∀i,(eM Us)[i]? =ks[j+i]?)→bS Z (nL CA ks) D h vs (Internal.renum j Us):=by
 induction r with
 |nil=>exact fun _=> .nil
 | @cons v vs U Us x r ih=>
  intro j e
  cases U with
  |v u=>exact .cons (U:= .v u) x (ih e)
  |own u=>exact .cons (U:= .own u) x.elim (ih e)
  |cell k=>exact .cons (U:= .cell j) (let ⟨a,h1,h2⟩:=x;⟨a,(uX (e 0).symm).trans (by rw [h1];rfl),h2⟩) (ih fun i=>(e (i+1)).trans (by rw [OA,O2 i]))
theorem tZ (SC:qb Z n E) {f:Nat} {Us:List aA} {q:Ah×ag} {vs:List Nv} (e:cS E f Us σ=some q) (hq:q.1= .ok U) (R:aN n A) (G:Gd Z CA σ D s.heap) (r:bS Z CA D s.heap vs Us) {K:Qx→Nx→Prop}
  (h:∀v h' tk,aw (We CA) s.heap h'→aE Z CA q.2 D h'→(∀V,U.plain?=some V→iH Z s.heap CA q.2 D h' v V)→K (.ok (.ret v)) {s with heap:=h',toks:=tk}):PB (model Z.prog Z.w) A (.call (.ref (Z.fa f)) ⟨vs,[]⟩) K s:=by
 refine Np fun nG=> ?_
 refine aL e fun nd e=> ?_
 refine nG ?_
 refine af e fun us e1 e=>am e fun r1 e2 e=> ?_
 refine Np fun nG=> ?_
 subst e
 have I:In Z CA σ D s.heap (eM Us) us:=⟨G.cells,nd,e1⟩
 obtain ⟨r0,τ⟩:=r1
 cases hq
 refine nG ?_
 refine SC f _ us U τ e2 A s vs (nL CA (eM Us)) D R ⟨G.base,G.dabove,G.low,G.live,I.cells⟩ (I.renum r fun i=>by rw [Ow]) K fun v h2 t2 k2 c2 r2=> ?_
 have kk:aw (We CA) s.heap h2:=k2.weaken fun b w=>I.mem w
 refine h v h2 t2 kk (I.back k2 c2 (fun _ d=>d) fun _ _ _ d=>d) fun V hV=> ?_
 cases U with
 |v u=>cases Nq hV;exact r2
 |cell k=>cases hV
 |own u=>
  refine Np fun nG=> ?_
  cases Nq hV
  obtain ⟨a,q1,q2,q3,q4,q5⟩:=r2
  refine nG ?_
  exact ⟨a,q1,q2,q3,q4,I.back k2 q5 (fun _ d=> .inl d) fun b o g d=>d.elim id fun z=>by subst z;exact (ar q2 g).elim⟩
theorem Fy (O:Wd.Ok Z p loose mg mb) (SE:bK Z n E) (SC:qb Z n E) {f:Str} {np pos:Pos} {args:List Expr} {i:Nat} {cs:List CE} (hg:eX c f=true) (hf:Z.fname i=some f) (ha:d7 (au Z.fname k c) args cs=true)
  (EO:az env c) (S:St Z env c.vars ρ CA σ D s.heap) (R:aN n A) {r:List aA×ag} {q:Ah×ag} (e1:kO E cs ρ σ=some r) (e2:cS E i (r.1.map aA.bind) r.2=some q) (e3:q.1.opd?=some U):eI Z A CA D q.2 U (eval (.Call (.Name f np) args [] pos) env) s:=by
 intro Q X h
 refine Np fun nG=> ?_
 obtain ⟨o1,o2⟩:=O.fn i f hf
 obtain ⟨V,hV,hU⟩:∃V,q.1= .ok V∧V.plain?=some U:=by
  cases hq:q.1 with
  |ok V=>rw [hq] at e3;exact ⟨V,rfl,e3⟩
  |exc=>rw [hq] at e3;cases e3
 refine nG ?_
 refine Pt (jZ O EO S.base hg o1 (iD (.inr (.inr o2)) (ee ha _ _).1 (jk SE EO R ha S e1 fun vs h1 t1 k1 c1 r1=> ?_)))
 have G1:=S.toGd.step k1 c1
 exact ⟨O.X.keeps G1.base,P6 (tZ (s:={s with heap:=h1,toks:=t1}) SC e2 hV R G1 r1 fun v h2 t2 k2 c2 r2=>h v h2 t2 (k1.trans k2) c2 ((r2 U hU).older fun _ n=>S.toGd.alive k1 c1 n))⟩
theorem Mz (O:Wd.Ok Z p loose mg mb) (M:wf Z) (SE:bK Z n E) {np pos:Pos} {args:List Expr} {kc:iJ} {cs:List CE} (hg:eX c (cn kc)=true) (ha:d7 (au Z.fname k c) args cs=true)
  (EO:az env c) (S:St Z env c.vars ρ CA σ D s.heap) (R:aN n A) {q:List V×ag} {w:V} (ev:jw E cs ρ σ=some q) (ew:iF kc q.1=some w):eI Z A CA D q.2 (.v w) (eval (.Call (.Name (cn kc) np) args [] pos) env) s:=fun Q X h=>
 Pt (jZ O EO S.base hg (O.cls kc).1 (iD (.inr (.inr (O.cls kc).2)) (ee ha _ _).1 (il SE ha EO S R ev fun vs h1 t1 k1 c1 r1=>
  have G1:=S.toGd.step k1 c1
  ⟨O.X.keeps G1.base,P6 (M kc q.1 w ew A {s with heap:=h1,toks:=t1} vs CA q.2 D (R.less (Oe _)) G1 r1 _ fun v h' tk g r=>h v h' tk (k1.trans (aw.of_all g)) (c1.grows g) r)⟩)))
theorem pE (b:Bf):Cb Z (Lp b):=by cases b<;>first|exact .inl ⟨_,rfl⟩|exact .inr (.inl ⟨_,rfl⟩)
theorem FN (O:Wd.Ok Z p loose mg mb) (SE:bK Z n E) {np pos:Pos} {args:List Expr} {b:Bf} {cs:List CE} (hg:eX c (bn b)=true) (ha:d7 (au Z.fname k c) args cs=true)
  (EO:az env c) (S:St Z env c.vars ρ CA σ D s.heap) (R:aN n A) {q:List V×ag} {w:V} (ev:rL E cs ρ σ=some q) (ew:vO b q.1=some w):eI Z A CA D q.2 (.v w) (eval (.Call (.Name (bn b) np) args [] pos) env) s:=fun Q X h=>
 Pt (qx O EO S.base hg (O.bf b).1 (O.bf b).2.1 (O.bf b).2.2 (iD (pE b) (ee ha _ _).1 (za SE ha EO S R ev fun vs h1 t1 k1 c1 r1=>
  have G1:=S.toGd.step k1 c1
  ⟨O.X.keeps G1.base,vz (s:={s with heap:=h1,toks:=t1}) G1.live (fun d nd=>Gd.noSys O G1 d nd) R.calm r1 ew fun v h' tk g r=>h v h' tk (k1.trans (aw.of_all g)) (c1.grows g) r⟩)))
theorem Ee (O:Wd.Ok Z p loose mg mb) (SE:bK Z n E) (SC:qb Z n E) {o:Expr} {ce:CE} {m:D7} {apos pos:Pos} (ns:dQ o=true) (hl:(apos.endLine==pos.line)=true) (hc:au Z.fname k c o ce=true)
  (EO:az env c) (S:St Z env c.vars ρ CA σ D s.heap) (R:aN n A) {r:V×ag} {pp:iJ×List V} {i:Nat} {q:Ah×ag} (e1:eO E ce ρ σ=some r) (e2:r.1.inst?=some pp) (e3:Z.P.meth pp.1 m=some i) (e4:E.c i [.v r.1] []=some q) (e5:q.1.opd?=some U):
  eI Z A CA D r.2 U (eval (.Call (.Attribute o (mn m) apos) [] [] pos) env) s:=by
 intro Q X h
 refine Np fun nG=> ?_
 obtain ⟨kc,us⟩:=pp
 obtain ⟨m1,m2,m3,m4⟩:=O.meth _ _ _ e3
 refine nG ?_
 refine im (k:=k) (c:=c) (cs:=[]) ns hl (by decide) rfl (cT SE hc EO S R e1 fun v h1 t1 k1 c1 r1=>fun pl=> ?_)
 have S1:=S.step k1 c1
 have r1':eF Z [] D h1 v (.v r.1):=r1
 have ec:cS E i [.v r.1] []=some (q.1,[]):=by show (E.c i [.v r.1] []).map _=_;rw [e4];rfl
 have hV:∃V,q.1= .ok V∧V.plain?=some U:=by
  cases hq:q.1 with
  |ok V=>rw [hq] at e5;exact ⟨V,rfl,e5⟩
  |exc=>rw [hq] at e5;cases e5
 refine Np fun nG=> ?_
 obtain ⟨V,hV,hU⟩:=hV
 have G0:Gd Z [] [] D h1:=⟨S1.base,S1.dabove,S1.low,S1.live,⟨rfl,Rj,fun k a u e _=>(nomatch e),fun a m=>(nomatch m)⟩⟩
 obtain ⟨a,dx,es,nn,rfl,g1,g2,K,_⟩:=(m5 e2▸r1:b8 Z D h1 v (.inst kc us)).toInst
 obtain ⟨mm,F⟩:=St.fr (s:={s with heap:=h1,toks:=t1}) S1
 refine nG ?_
 refine method_inst (s:={s with heap:=h1,toks:=t1}) F O.X ⟨g1,rfl,rfl,g2⟩ m1 m2 m3 (y3 K fun f hf=>O.noFld _ _ f hf) ?_
 refine iD (.inr (.inr m4)) rfl (Ps ⟨O.X.keeps S1.base,P6 ?_⟩)
 refine tZ (s:={s with heap:=h1,toks:=t1}) (CA:=[]) SC ec hV R G0 (.cons r1' .nil) fun v h2 t2 k2 c2 r2=> ?_
 refine h v h2 t2 (k1.trans (k2.weaken fun b w=>nomatch w)) (c1.keep k2 fun b w=>nomatch w) ?_
 have r2:=r2 U hU
 cases U with
 |v u=>exact r2
 |cell k=>cases V<;>first|exact aA.noConfusion (Nq hU)|cases hU
 |own u=>
  obtain ⟨x,q1,q2,q3,q4,q5⟩:=r2
  exact ⟨x,q1,S.toGd.alive k1 c1 q2,q3,q4,c1.grow (fun b o e=>k2 b o e fun w=>nomatch w) (fun b o e dd=>dd.elim id fun z=>(ar q2 (z▸e)).elim) fun b d=> .inl d⟩
theorem oY (O:Wd.Ok Z p loose mg mb) (SE:bK Z n E) {o:Expr} {ce:CE} {m:Mf} {apos pos:Pos} {args:List Expr} {cs:List CE} (ns:dQ o=true) (hl:(apos.endLine==pos.line)=true) (hn:args.length <20)
  (hc:au Z.fname k c o ce=true) (ha:d7 (au Z.fname k c) args cs=true) (EO:az env c) (S:St Z env c.vars ρ CA σ D s.heap) (R:aN n A) {q:aA×ag} (ev:pP Z.P E m ce cs ρ σ=some q):
  eI Z A CA D q.2 q.1 (eval (.Call (.Attribute o (Jl m) apos) args [] pos) env) s:=by
 intro Q X h
 refine af ev fun r e1 ev=>af ev fun u e2 ev=>af ev fun r' e3 ev=> ?_
 refine aL ev fun e4 ev=> ?_
 refine am ev fun w e5 ev=> ?_
 subst ev
 refine im (k:=k) (c:=c) ns hl hn ha (SE k c o ce hc env A s ρ σ CA D r.1 r.2 EO S R e1 _ _ fun v h1 t1 k1 c1 r1=>fun pl=> ?_)
 have S1:=S.step k1 c1
 have rv:eF Z CA D h1 v r.1.bind:=r1.bindV fun a=>S.toGd.fresh_notD
 refine xv (s:={s with heap:=h1,toks:=t1}) (rv.rd c1 e2) (tR e5) ?_
 refine iD (.inl ⟨_,rfl⟩) (ee ha _ _).1 (il (s:={s with heap:=h1,toks:=t1}) SE ha EO S1 R e3 fun vs h2 t2 k2 c2 r2=> ?_)
 have S2:=S1.step k2 c2
 exact ⟨O.X.keeps S2.base,Dy (s:={s with heap:=h2,toks:=t2}) O.splits S2.live (px R) ((rv.mono (S1.toGd.old k2)).rd c2 e4) r2 e5 fun v h' tk g r=>h v h' tk ((k1.trans k2).trans (aw.of_all g)) (c2.grows g) r⟩
theorem aE.change {h h':Heap} (C:aE Z CA σ D h) {i:Nat} {a:Addr} (hi:CA[i]? =some a) (k:Pn a h h') {u:V} (ct:gG Z D h' a u):aE Z CA (σ.set i u) D h' where
 len:=by rw [OC];exact C.len
 nodup:=C.nodup
 at_:=fun j b w e1 e2=>by
  by_cases hj:i=j
  ·subst hj
   cases Nq (hi.symm.trans e1)
   rw [Ol (by rw [←C.len];exact (NA.mp hi).1)] at e2
   exact Nq e2▸ct
  ·rw [Oo hj] at e2
   exact (C.at_ j b w e1 e2).mono (fun o e=>(k.2 b fun z=>hj (jX C.nodup hi (z▸e1))).trans e) fun x o d e=>⟨d,(k.2 x fun z=>d (z▸C.inD a (NN hi))).trans e⟩
 inD:=C.inD
theorem se {i:Nat} (e:U.cell?=some i):U= .cell i:=by
 cases U with
 |v u=>cases e
 |own u=>cases e
 |cell k=>exact NC aA.cell (Nq e)
theorem qs {τ:ag} {i:Nat} {us:List V} (e:(τ[i]?).bind V.lst?=some us):τ[i]? =some (.lst us):=af e fun w e1 e2=>f7 e2▸e1
theorem C9 (O:Wd.Ok Z p loose mg mb) (SE:bK Z n E) {o:Expr} {ce:CE} {cs:List CE} {apos pos:Pos} {args:List Expr} (ns:dQ o=true) (hl:(apos.endLine==pos.line)=true) (hn:args.length <20)
  (hc:au Z.fname k c o ce=true) (ha:d7 (au Z.fname k c) args cs=true) (EO:az env c) (S:St Z env c.vars ρ CA σ D s.heap) (R:aN n A) {q:aA×ag} (ev:ky E ce cs ρ σ=some q):
  eI Z A CA D q.2 q.1 (eval (.Call (.Attribute o (Jl .append) apos) args [] pos) env) s:=by
 intro Q X h
 refine af ev fun ca e0 ev=>af ev fun r e1 ev=>af ev fun i e2 ev=>af ev fun us0 e3 ev=>af ev fun x e4 ev=>af ev fun us e5 ev=> ?_
 refine Np fun nG=> ?_
 refine aL ev fun hz ev=> ?_
 cases Nq ev
 refine nG ?_
 refine im (k:=k) (c:=c) ns hl hn ha (SE k c o ce hc env A s ρ σ CA D r.1 r.2 EO S R e1 _ _ fun v h1 t1 k1 c1 r1=>fun pl=> ?_)
 obtain ⟨a,hka,rfl⟩:∃a,CA[i]? =some a∧v= .ref a:=(se e2▸r1:iH Z s.heap CA r.2 D h1 v (.cell i))
 have S1:=S.step k1 c1
 refine xv (s:={s with heap:=h1,toks:=t1}) (m:= .append) (w:= .lst us0) (.inr ⟨a,rfl,c1.at_ _ _ _ hka (qs e3)⟩) ⟨_,rfl⟩ ?_
 have e4':jw E cs ρ r.2=some ([x.1],x.2):=by
  rw [gK e0]
  exact af e4 fun r1 f1 e=>af e fun w f2 e=>by cases Nq e;simp only [jw,kO,f1,NT,toVs,f2]
 refine iD (.inl ⟨_,rfl⟩) (ee ha _ _).1 (il (s:={s with heap:=h1,toks:=t1}) SE ha EO S1 R e4' fun vs h2 t2 k2 c2 r2=> ?_)
 refine Np fun nG=> ?_
 obtain ⟨w,rfl,rw⟩:=r2.one
 refine nG ?_
 refine ⟨O.X.keeps (S1.step k2 c2).base,?_⟩
 have hz':=ND hz
 refine Np fun nG=> ?_
 obtain ⟨_,items,hp,ri⟩:=c2.at_ _ _ _ hka (qs e5)
 refine nG ?_
 have hm:a∈CA:=NN hka
 have hD:=c2.inD a hm
 show NH _ _ (call (.builtin "list.append") [.ref a,w]) _ _ _
 refine SV (hsz:=by have len:=ri.length;rw [OQ] at len;show items.size≤16777216;omega) (s:={s with heap:=h2,toks:=t2}) hp fun h3 hp3 hs3=> ?_
 have old:∀b o,¬D b→h2.get? b=some o→¬D b∧h3.get? b=some o:=fun b o d e=>⟨d,(hs3.2 b fun z=>d (z▸hD)).trans e⟩
 exact h _ h3 t2 ((k1.trans k2).trans (aw.sameBut hs3 hm)) (c2.change hka hs3 ⟨by rw [Nu];exact hz',_,hp3,by rw [UQ];exact (ri.mono old).append (.cons (rw.mono old) .nil)⟩) .none
theorem KQ (O:Wd.Ok Z p loose mg mb) (SE:bK Z n E) {o:Expr} {ce:CE} {cs:List CE} {apos pos:Pos} {args:List Expr} (ns:dQ o=true) (hl:(apos.endLine==pos.line)=true) (hn:args.length <20)
  (hc:au Z.fname k c o ce=true) (ha:d7 (au Z.fname k c) args cs=true) (EO:az env c) (S:St Z env c.vars ρ CA σ D s.heap) (R:aN n A) {q:aA×ag} (ev:EJ E ce cs ρ σ=some q):
  eI Z A CA D q.2 q.1 (eval (.Call (.Attribute o (Jl .pop) apos) args [] pos) env) s:=by
 intro Q X h
 refine aL (c:=cs.isEmpty=true) ev fun h0 ev=> ?_
 cases aF h0
 have hargs:args=[]:=by cases args with|nil=>rfl|cons _ _=>cases ha
 subst hargs
 refine af ev fun r e1 ev=>af ev fun i e2 ev=>af ev fun us e3 ev=>am ev fun x e4 ev=> ?_
 subst ev
 refine im (k:=k) (c:=c) (cs:=[]) ns hl hn rfl (SE k c o ce hc env A s ρ σ CA D r.1 r.2 EO S R e1 _ _ fun v h1 t1 k1 c1 r1=>fun pl=> ?_)
 obtain ⟨a,hka,rfl⟩:∃a,CA[i]? =some a∧v= .ref a:=(se e2▸r1:iH Z s.heap CA r.2 D h1 v (.cell i))
 have ct:=c1.at_ _ _ _ hka (qs e3)
 refine xv (s:={s with heap:=h1,toks:=t1}) (m:= .pop) (w:= .lst us) (.inr ⟨a,rfl,ct⟩) ⟨_,rfl⟩ ?_
 refine iD (.inl ⟨_,rfl⟩) rfl (Ps ⟨O.X.keeps (S.step k1 c1).base,?_⟩)
 refine Np fun nG=> ?_
 obtain ⟨hz,items,⟨nn,hp⟩,ri⟩:=ct
 have len:=ri.length
 rw [OQ] at len
 have hm:a∈CA:=NN hka
 have hD:=c1.inD a hm
 have hpos:0 <us.length:=List.length_pos_iff.mpr fun z=>by subst z;cases e4
 obtain ⟨y,hy,ry⟩:=ri.get (k:=us.length -1) (by rw [←List.getLast?_eq_getElem?];exact e4)
 refine nG ?_
 refine Copied.pop_at (s:={s with heap:=h1,toks:=t1}) (hsz:=by show items.size≤16777216;omega) hp (by rw [←Ox,len];exact hy) fun h3 hs3 hg3=> ?_
 have old:∀b o,¬D b→h1.get? b=some o→¬D b∧h3.get? b=some o:=fun b o d e=>⟨d,(hs3.2 b fun z=>d (z▸hD)).trans e⟩
 exact h y h3 t1 (k1.trans (aw.sameBut hs3 hm)) (c1.change hka hs3 ⟨by rw [RC];omega,_,⟨_,hg3⟩,by rw [Array.toList_pop];exact (ri.mono old).dropLast⟩) (ry.mono old)
end
structure gb (Z:Wd) (D:Addr→Prop) (h:Heap) (T:Rc) (l:Addr) (items:Qe Nv) (i:Nat) (xs:List V):Prop where
 nd:¬D l
 ob:∃o n,h.get? l=some o∧o.cls= .type T∧o.data= .seq items n
 rep:ak Z D h (items.toList.drop i) xs
inductive dY (Z:Wd) (D:Addr→Prop) (h:Heap) (I J:Addr) (two:Bool) (xs:List V):Prop
 |lst {l:Addr} {items:Qe Nv} {i:Nat}:J=I→h.IsListIter I l i→gb Z D h "list" l items i xs→dY Z D h I J two xs
 |tup {l:Addr} {items:Qe Nv} {i:Nat}:J=I→two=false→h.IsTupleIter I l i→gb Z D h "tuple" l items i xs→dY Z D h I J two xs
 |rng {x c:Int} {n:Nat}:J=I→two=false→IsRangeIter h I x n c→xs=((Pf n).map fun (i:Nat)=>V.int (x+(i:Int)*c))→dY Z D h I J two xs
 |key {d:Addr} {i ep:Nat} {kvs:List (Str×Nv)} {ks:List Sg}:J=I→two=false→h.IsKeyIter I d i kvs.length ep→¬D d→h.DictAt (Oz Z.prog Z.w) d kvs ep→(kvs.map (·.1)).drop i=ks.map bF→ks.all eU=true→xs=po ks→dY Z D h I J two xs
 |enm {l:Addr} {items:Qe Nv} {i:Nat} {ys:List V} {old:Nv}:I≠J→two=true→IsEnum h I J i old→h.IsListIter J l i→gb Z D h "list" l items i ys→xs=jh i ys→dY Z D h I J two xs
section
variable {Z:Wd} {D D':Addr→Prop} {h h':Heap} {I J:Addr} {two:Bool} {xs:List V}
theorem gb.mono {T:Rc} {l:Addr} {items:Qe Nv} {i:Nat} (s:gb Z D h T l items i xs) (k:∀b o,¬D b→h.get? b=some o→¬D' b∧h'.get? b=some o):gb Z D' h' T l items i xs:=
 let ⟨o,n,g,q⟩:=s.ob;⟨(k _ _ s.nd g).1,⟨o,n,(k _ _ s.nd g).2,q⟩,s.rep.mono k⟩
theorem tf {l:Addr} {i:Nat} (a:h.IsTupleIter I l i) (hI:∀o,h.get? I=some o→h'.get? I=some o):h'.IsTupleIter I l i:=let ⟨o,p,q⟩:=a;⟨o,hI o p,q⟩
theorem iQ {d:Addr} {kvs:List (Str×Nv)} {ep:Nat} (g:h.DictAt (Oz Z.prog Z.w) d kvs ep) (nd:¬D d) (k:∀b o,¬D b→h.get? b=some o→¬D' b∧h'.get? b=some o):¬D' d∧h'.DictAt (Oz Z.prog Z.w) d kvs ep:=
 let ⟨o,es,g,q⟩:=g;⟨(k _ _ nd g).1,o,es,(k _ _ nd g).2,q⟩
theorem dY.mono (t:dY Z D h I J two xs) (hI:∀o,h.get? I=some o→h'.get? I=some o) (hJ:∀o,h.get? J=some o→h'.get? J=some o)
  (k:∀b o,¬D b→h.get? b=some o→¬D' b∧h'.get? b=some o):dY Z D' h' I J two xs:=by
 cases t with
 |lst e a s=>exact .lst e (a.at hI) (s.mono k)
 |tup e w a s=>exact .tup e w (tf a hI) (s.mono k)
 |rng e w a x=>exact .rng e w (hI _ a) x
 |key e w a d g c z x=>exact .key e w (a.at hI) (iQ g d k).1 (iQ g d k).2 c z x
 |enm e w a a' s x=>exact .enm e w (hI _ a) (a'.at hJ) (s.mono k) x
end
noncomputable def ko (t:Expr):Nr Bool:=if t.ctorIdx=23 then some false else if t.ctorIdx=25 then some true else none
theorem zt {t:Expr} (h:ko t=some false):∃x p,t= .Name x p:=by
 by_cases q:t.ctorIdx=23
 ·exact R4 (motive_1:=fun t=>∃x p,t= .Name x p) t q fun x p=>⟨x,p,rfl⟩
 ·rw [ko,N4 q] at h
  exact absurd (bU h).2 (by decide)
theorem rP {t:Expr} (h:ko t=some true):∃es n p,t= .Tuple es n p:=by
 by_cases q:t.ctorIdx=23
 ·rw [ko,NP q] at h;cases h
 ·rw [ko,N4 q] at h
  exact RM (motive_1:=fun t=>∃es n p,t= .Tuple es n p) t (bU h).1 fun x n p=>⟨x,n,p,rfl⟩
section
variable {Z:Wd} {A:Od} {X:Nv→Nx→Prop} {s:Nx} {D:Addr→Prop} {I J:Addr} {two:Bool}
theorem kt {target:Expr} {it v:Nv} {Q:Unit→Nx→Prop} (ht:ko target=some false) (h:Q () s):NH (model Z.prog Z.w) A (Qa target it v) Q X s:=by
 obtain ⟨x,p,rfl⟩:=zt ht
 exact NM h
noncomputable def tX (Z:Wd) (A:Od) (D:Addr→Prop) (I J:Addr) (two:Bool) (target:Expr) (s:Nx) (x:V) (xs:List V) (v:Nv) (s₁:Nx):Prop:=
 ∀(Q:Unit→Nx→Prop) (X:Nv→Nx→Prop),(∀h' tk,aw (fun b=>b=I∨b=J) s.heap h'→dY Z D h' I J two xs→(∃o,h'.get? I=some o)→(∃o,h'.get? J=some o)→b8 Z D h' v x→Q () {s with heap:=h',toks:=tk})→
  NH (model Z.prog Z.w) A (Qa target (.ref I) v) Q X s₁
theorem gO {h:Heap} {I l:Addr} {i:Nat} (a:h.IsListIter I l i):∃o,h.get? I=some o:=let ⟨o,p,_⟩:=a;⟨o,p⟩
theorem mi {h:Heap} {I l:Addr} {i:Nat} (a:h.IsTupleIter I l i):∃o,h.get? I=some o:=let ⟨o,p,_⟩:=a;⟨o,p⟩
theorem mJ {h:Heap} {I d:Addr} {i n ep:Nat} (a:h.IsKeyIter I d i n ep):∃o,h.get? I=some o:=let ⟨o,p,_⟩:=a;⟨o,p⟩
theorem oV {h:Heap} {T:Rc} {l:Addr} {items:Qe Nv} {i:Nat} {x:V} {xs:List V} (s:gb Z D h T l items i (x::xs)):∃v,items[i]? =some v∧b8 Z D h v x∧ak Z D h (items.toList.drop (i+1)) xs:=
 let ⟨v,hv,r⟩:=s.rep.dropCons;⟨v,by rw [←Ox];exact hv,r⟩
theorem gb.next {h h':Heap} {T:Rc} {l:Addr} {items:Qe Nv} {i:Nat} {x:V} {xs:List V} (s:gb Z D h T l items i (x::xs)) (k:∀b o,¬D b→h.get? b=some o→¬D b∧h'.get? b=some o):gb Z D h' T l items (i+1) xs:=
 gb.mono ⟨s.nd,s.ob,let ⟨_,_,_,r⟩:=oV s;r⟩ k
theorem rY {target:Expr} {x:V} {xs:List V} (ht:ko target=some two) (L:iz D s.heap) (t:dY Z D s.heap I J two (x::xs)) (hI:D I) (hJ:D J) {Q0:Nr Nv→Nx→Prop} (htwo:two=true→∃us,x= .tup us)
  (h0:∀v s₁,tX Z A D I J two target s x xs v s₁→Q0 (some v) s₁):
  NH (model Z.prog Z.w) A (pyNext (.ref I)) Q0 X s:=by
 have old:∀{h':Heap},(∀b o,b≠I→b≠J→s.heap.get? b=some o→h'.get? b=some o)→∀b o,¬D b→s.heap.get? b=some o→¬D b∧h'.get? b=some o:=
  fun k b o d e=>⟨d,k b o (fun z=>d (z▸hI)) (fun z=>d (z▸hJ)) e⟩
 have kp:∀{h':Heap},Pn I s.heap h'→aw (fun b=>b=I∨b=J) s.heap h':=fun sb=>aw.sameBut sb (.inl rfl)
 have kk:∀{h':Heap},Pn I s.heap h'→∀b o,¬D b→s.heap.get? b=some o→¬D b∧h'.get? b=some o:=fun sb=>old fun b o n1 _ e=>sb.extBut b o n1 e
 cases t with
 |lst e a q=>
  refine Np fun nG=> ?_
  obtain ⟨v,hv,rv,_⟩:=oV q
  obtain ⟨o,n,g,c,y⟩:=q.ob
  refine nG ?_
  refine Te a ⟨o,g,c,n,y⟩ hv fun h' a' sb=>h0 _ _ fun Q X h=> ?_
  have fin:=h h' s.toks (kp sb) (.lst e a' (q.next (kk sb))) (gO a') (e▸gO a') (rv.mono (kk sb))
  cases two with
  |false=>exact kt ht fin
  |true=>
   refine Np fun nG=> ?_
   obtain ⟨us,rfl⟩:=htwo rfl
   obtain ⟨es,n',p,rfl⟩:=rP ht
   obtain ⟨b,its,rfl,_⟩:=rv.rd.tup
   refine nG ?_
   exact wpAny_letOwnedTupleGo_listiter (s:={s with heap:=h'}) a' fin
 |tup e w a q=>
  subst w
  obtain ⟨v,hv,rv,_⟩:=oV q
  obtain ⟨o,n,g,c,y⟩:=q.ob
  exact wpAny_pyNext_tuple_item a ⟨o,g,c,n,y⟩ hv fun h' a' sb=>h0 _ _ fun Q X h=>kt ht (h h' s.toks (kp sb) (.tup e rfl a' (q.next (kk sb))) (mi a') (e▸mi a') (rv.mono (kk sb)))
 | @rng y c n e w a z=>
  subst w
  cases n with
  |zero=>cases z
  |succ n=>
   rw [PW,NJ,OP] at z
   obtain ⟨e1,e2⟩:=OX z
   refine wpAny_pyNext_range_item a (QV.mpr (OJ n)) fun h' a' sb=>h0 _ _ fun Q X h=>kt ht (h h' _ (kp sb) (.rng e rfl (x:=y+c) (c:=c) (n:=n) ?_ ?_) ⟨_,a'⟩ (e▸⟨_,a'⟩) ?_)
   ·rw [show ((n+1:Nat):Int) -1=(n:Int) by rw [Qo];exact Sa _ _] at a';exact a'
   ·rw [e2]
    refine PJ fun i _=> ?_
    show V.int (y+((i+1:Nat):Int)*c)=V.int (y+c+(i:Int)*c)
    rw [Qo,Int.add_mul,Int.one_mul,UL ((i:Int)*c) c,Int.add_assoc]
   ·rw [e1]
    show b8 Z D h' _ (.int (y+((0:Nat):Int)*c))
    rw [Ve,Int.zero_mul,Int.add_zero]
    exact .int _ _
 | @key dd i ep kvs ks e w a d g c zk z=>
  subst w
  cases ks with
  |nil=>cases z
  |cons k ks=>
   refine Np fun nG=> ?_
   obtain ⟨e1,e2⟩:=OX z
   obtain ⟨c1,c2⟩:=mT c
   rw [OO] at c1
   refine am c1 fun p hq c1=> ?_
   refine nG ?_
   refine wpAny_pyNext_dict_item (k:=p.1) (v:=p.2) a g hq fun key h' hk a' sb=>h0 _ _ fun Q X h=> ?_
   obtain ⟨t,rfl⟩:=T4 hk
   rw [e1,e2] at h
   exact kt ht (h h' s.toks (kp sb) (.key e rfl a' d (iQ g d (kk sb)).2 c2 (ac zk).2 rfl) (mJ a') (e▸mJ a') (by rw [c1];exact .str _ _ (ac zk).1))
 | @enm l items i ys old' e w a a1 q z=>
  refine Np fun nG=> ?_
  subst w
  refine nG ?_
  cases ys with
  |nil=>cases z
  |cons u ys=>
   refine Np fun nG=> ?_
   obtain ⟨e1,e2⟩:=OX z
   rw [e1,e2] at h0
   obtain ⟨v,hv,rv,_⟩:=oV q
   obtain ⟨o,n,g,c,y⟩:=q.ob
   obtain ⟨es,n',p,rfl⟩:=rP ht
   refine nG ?_
   refine wpAny_pyNext_enum_item a a1 ⟨o,g,c,n,y⟩ hv e fun h' b1 b2 b3 b4 b5=>h0 _ _ fun Q X h=> ?_
   refine wpAny_letOwnedTupleGo_enum (s:={s with heap:=h',toks:=s.toks+1}) b1 fun h'' d1 d2=> ?_
   have nI:s.heap.objs.size≠I:=fun z=>by have:=N7 a;rw [z] at this;exact OD _ this
   have k2:∀b o,b≠I→b≠J→s.heap.get? b=some o→h''.get? b=some o:=fun b o n1 n2 e=>d2.extBut b o n1 (b5 b o n1 n2 e)
   have hJ':h''.IsListIter J l (i+1):=b2.extBut d2.extBut (TX e)
   exact h h'' (s.toks+1) (fun b o e n=>k2 b o (fun z=>n (.inl z)) (fun z=>n (.inr z)) e) (.enm e rfl d1 hJ' (q.next (old k2)) rfl) ⟨_,d1⟩ (gO hJ')
    (.tup (n:=0) (OH rfl) (fun q=>let ⟨o,eo⟩:=L _ q;OD _ (N7 eo)) (d2.extBut _ _ nI b3) rfl rfl (.cons (.int _ _) (.cons (rv.mono (old k2)) .nil)))
theorem vg (hh:A.handled=none) (t:dY Z D s.heap I J two []) {Q:Nr Nv→Nx→Prop}
  (h:∀h' tk,aw (fun b=>b=I∨b=J) s.heap h'→Q none {s with heap:=h',toks:=tk}):
  NH (model Z.prog Z.w) A (pyNext (.ref I)) Q X s:=by
 have kp:∀{a:Addr} {h':Heap},(a=I∨a=J)→Heap.ExtBut a s.heap h'→aw (fun b=>b=I∨b=J) s.heap h':=fun q sb=>aw.extBut sb q
 cases t with
 |lst e a q=>
  refine Np fun nG=> ?_
  obtain ⟨o,n,g,c,y⟩:=q.ob
  refine nG ?_
  exact Tu hh a ⟨o,g,c,n,y⟩ (by rw [←Ox];exact q.rep.dropNil) fun h' sb=>h h' _ (kp (.inl rfl) sb)
 |tup e w a q=>
  obtain ⟨o,n,g,c,y⟩:=q.ob
  exact wpAny_pyNext_tuple_end hh a ⟨o,g,c,n,y⟩ (by rw [←Ox];exact q.rep.dropNil) fun h' sb=>h h' _ (kp (.inl rfl) sb)
 | @rng y c n e w a z=>
  cases n with
  |succ n=>rw [PW] at z;cases z
  |zero=>exact wpAny_pyNext_range_end hh a (by decide) fun h' sb=>h h' _ (kp (.inl rfl) sb)
 | @key dd i ep kvs ks e w a d g c zk z=>
  cases ks with
  |cons k ks=>cases z
  |nil=>
   have hl:kvs.length≤i:=by
    have:=NC P1 c
    rw [Pa,Nw] at this
    exact Nat.le_of_sub_eq_zero this
   exact wpAny_pyNext_dict_end hh a g (O0 hl) fun h' sb=>h h' _ (kp (.inl rfl) sb)
 | @enm l items i ys old' e w a a1 q z=>
  cases ys with
  |cons u ys=>cases z
  |nil=>
   refine Np fun nG=> ?_
   obtain ⟨o,n,g,c,y⟩:=q.ob
   refine nG ?_
   exact wpAny_pyNext_enum_end hh a a1 ⟨o,g,c,n,y⟩ (by rw [←Ox];exact q.rep.dropNil) fun h' sb=>h h' _ (kp (.inr rfl) sb)
theorem rf {xs:List V} (t:dY Z D s.heap I J two xs) {Q:Nv→Nx→Prop} (h:Q (.ref I) s):NH (model Z.prog Z.w) A (pyIter (.ref I)) Q X s:=by
 cases t with
 |lst e a _=>exact wpAny_pyIter_listiter a h
 |tup e _ a _=>exact wpAny_pyIter_tupleiter a h
 |rng e _ a _=>exact wpAny_pyIter_rangeiter a h
 |key e _ a _ _ _ _ _=>exact wpAny_pyIter_keyiter a h
 |enm e _ a _ _ _=>exact UR a h
end
end
section
open PySem PySem.W PyProof.Rows
theorem gq {h:Heap} {a:Addr} (l:h.objs.size≤a):h.get? a=none:=by
 cases q:h.get? a with
 |none=>rfl
 |some o=>exact absurd (N7 q) (PD.mpr l)
structure dM (Z:Wd) (h h':Heap) (a:Addr):Prop where
 none:h.get? a=none
 base:Z.base.objs.size≤a
 live:∃o,h'.get? a=some o
section
variable {Z:Wd} {A:Od} {X:Nv→Nx→Prop} {s:Nx} {D:Addr→Prop} {two:Bool}
theorem CH {h:Heap} {b:Addr} {o:Obj} (d:¬D b) (e:h.get? b=some o):¬DI D h.objs.size h.objs.size b:=
 fun z=>z.elim d fun z=>OD _ (z.elim (fun z=>z▸N7 e) fun z=>z▸N7 e)
theorem AH {v:Nv} {u:V} {xs:List V} (r:b8 Z D s.heap v u) (hx:uo u=some xs) {Q:Nv→Nx→Prop}
  (h:∀I h' tk,bM s.heap h'→s.heap.objs.size≤I→(∃o,h'.get? I=some o)→dY Z (DI D I I) h' I I false xs→Q (.ref I) {s with heap:=h',toks:=tk}):
  NH (model Z.prog Z.w) A (pyIter v) Q X s:=by
 have old:∀{it:Obj} b o,¬D b→s.heap.get? b=some o→¬DI D s.heap.objs.size s.heap.objs.size b∧(s.heap.push it).get? b=some o:=fun b o d e=>⟨CH d e,NV _ e⟩
 cases r<;>first|(cases hx;done)|skip
 ·rename_i a o items n us z d g c e r
  refine Np fun nG=> ?_
  cases Nq hx
  refine nG ?_
  exact wpAny_pyIter_tuple ⟨o,g,c,n,e⟩ (h _ _ s.toks (aG _ _) (NI _) ⟨_,Oa _ rfl⟩ (.tup rfl rfl ⟨_,Oa _ rfl,rfl,rfl⟩ (gb.mono ⟨d,⟨o,n,g,c,e⟩,r⟩ old)))
 ·rename_i a o items n us z d g c x e r
  cases Nq hx
  exact Sm ⟨o,g,c,n,e⟩ (h _ _ s.toks (aG _ _) (NI _) ⟨_,Oa _ rfl⟩ (.lst rfl ⟨_,Oa _ rfl,rfl,rfl⟩ (gb.mono ⟨d,⟨o,n,g,c,e⟩,r⟩ old)))
 ·rename_i a kvs ks us z d sm dof e r
  cases Nq hx
  obtain ⟨ep,da⟩:=dof.dictAt
  exact wpAny_pyIter_dict sm da (h _ _ s.toks (aG _ _) (NI _) ⟨_,Oa _ rfl⟩ (.key rfl rfl (i:=0) ⟨_,Oa _ rfl,rfl,rfl⟩ (let ⟨_,_,g,_⟩:=da;CH d g) (iQ da d old).2 (by rw [Rh];exact e) z rfl))
theorem uZ {a:Int} (h:a.natAbs <1099511627776): -(2^62)≤a∧a <2^62:=by omega
theorem rm {a b:Int} (ha:a.natAbs <1099511627776) (hb:b.natAbs <1099511627776):Q4 a b (-1)=((a -b).toNat:Int)∧RU a b (-1)=true:=
 ⟨rangeSize_downNat a b,small_down (uZ ha).1 (uZ ha).2 (uZ hb).1 (uZ hb).2⟩
theorem rU {a b:Int} (ha:a.natAbs <1099511627776) (hb:b.natAbs <1099511627776):Q4 a b 1=((b -a).toNat:Int)∧RU a b 1=true:=
 ⟨rangeSize_nat a b,small_one (uZ ha).1 (uZ ha).2 (uZ hb).1 (uZ hb).2⟩
theorem qm {a b c:Int} {xs:List V} (e:jU a b c=some xs):RU a b c=true∧(c=1∨c= -1)∧∃n:Nat,Q4 a b c=n∧xs=(Pf n).map fun (i:Nat)=>V.int (a+(i:Int)*c):=by
 refine aL e fun h e=> ?_
 have h1:=ND (ac h).1
 have h2:=ND (ac h).2
 by_cases q:c=1
 ·subst q
  cases Nq ((NP rfl).symm.trans e)
  exact ⟨(rU h1 h2).2,.inl rfl,_,(rU h1 h2).1,PJ fun i _=>by rw [Vr]⟩
 ·refine aL ((N4 q).symm.trans e) fun q' e=> ?_
  subst q'
  cases Nq e
  exact ⟨(rm h1 h2).2,.inr rfl,_,(rm h1 h2).1,PJ fun i _=>by rw [Int.mul_neg,Vr,Int.sub_eq_add_neg]⟩
theorem A1 {r:Addr} {a b c:Int} {t u v:Tok} (hr:IsRange s.heap r a b c t u v) {xs:List V} (e:jU a b c=some xs) {Q:Nv→Nx→Prop}
  (h:∀I h' tk,bM s.heap h'→s.heap.objs.size≤I→(∃o,h'.get? I=some o)→dY Z (DI D I I) h' I I false xs→Q (.ref I) {s with heap:=h',toks:=tk}):
  NH (model Z.prog Z.w) A (pyIter (.ref r)) Q X s:=by
 obtain ⟨e2,_,n,e1,e3⟩:=qm e
 exact wpAny_pyIter_range hr e2 (h _ _ s.toks (aG _ _) (NI _) ⟨_,Oa _ rfl⟩ (.rng rfl rfl (by rw [e1];exact Oa _ rfl) e3))
end
section
variable {Z:Wd} {n:Nat} {E:Ev} {c:Ctx} {env:Env} {A:Od} {s:Nx} {ρ:Loc} {σ σ':ag} {CA:List Addr} {D:Addr→Prop} {X:Nv→Nx→Prop} {p:Ob} {loose:List Str} {mg mb:Str→Nr Nv} {k:Nat}
noncomputable def F8:It→Bool
 | .enum _=>true
 |_=>false
theorem dM.of {h h1 h2:Heap} (G:Gd Z CA σ D h) (k:aw (We CA) h h1) (c:aE Z CA σ' D h1) {a:Addr} (l:h1.objs.size≤a) (e:∃o,h2.get? a=some o):dM Z h h2 a:=
 ⟨G.alive k c (gq l),Nt (NY (G.step k c).size) l,e⟩
theorem aE.di {h1 h2:Heap} (c:aE Z CA σ D h1) (g:bM h1 h2) {I J:Addr} (hI:h1.objs.size≤I) (hJ:h1.objs.size≤J):aE Z CA σ (DI D I J) h2:=
 c.grow g (fun b o e d=>d.elim id fun z=>z.elim (fun z=>by subst z;exact (ar (gq hI) e).elim) (fun z=>by subst z;exact (ar (gq hJ) e).elim)) fun b d=> .inl d
theorem AX {vs:List Nv} {us:List V} {h:Heap} (r:ak Z D h vs us):∀{f:Int→List V→Nr (List V)} {xs:List V},(yS us fun a r=>a.int?.bind fun a=>f a r)=some xs→∃i t vs' us',vs= .int i t::vs'∧ak Z D h vs' us'∧f i us'=some xs:=by
 intro f xs e
 cases r with
 |nil=>cases e
 |cons x r=>exact af e fun i e1 e=>let ⟨t,h⟩:=Rd.int (cW e1▸x).rd;⟨i,t,_,_,by rw [h],r,e⟩
theorem wH {P:Prop} {vs:List Nv} {us:List V} {h:Heap} {xs:List V} (r:ak Z D h vs us) (e:iA us=some xs) (K1:∀b t,vs=[.int b t]→jU 0 b 1=some xs→P) (K2:∀a b t t',vs=[.int a t,.int b t']→jU a b 1=some xs→P)
  (K3:∀a b c t t' t'',vs=[.int a t,.int b t',.int c t'']→jU a b c=some xs→P):P:=by
 obtain ⟨a,t,vs1,us1,e0,r1,e⟩:=AX r e
 cases us1 with
 |nil=>cases r1;exact K1 a t e0 e
 |cons x us1=>
  cases r1 with
  |cons x r1=>
   refine af e fun b e1 e5=>af e5 fun c e2 e6=>af e6 fun c' e3 e7=> ?_
   obtain ⟨t',e8⟩:=Rd.int (cW e1▸x).rd
   cases us1 with
   |nil=>
    cases r1
    rw [←Nq e2] at e3
    rw [←Nq e3] at e7
    exact K2 a b t t' (by rw [e0,e8]) e7
   |cons y us1=>
    obtain ⟨v,e9,q⟩:=ak.one (gK (show one (y::us1)=some c from e2)▸r1)
    obtain ⟨t'',e10⟩:=Rd.int (cW e3▸q).rd
    exact K3 a b c' t t' t'' (by rw [e0,e8,e9,e10]) e7
noncomputable def EL (Z:Wd) (A:Od) (CA:List Addr) (D:Addr→Prop) (σ':ag) (two:Bool) (xs:List V) (t:Sem Nv) (s:Nx):Prop:=
 ∀(Q:Nv→Nx→Prop) (X:Nv→Nx→Prop),(∀I J h' tk,aw (We CA) s.heap h'→aE Z CA σ' (DI D I J) h'→dM Z s.heap h' I→dM Z s.heap h' J→dY Z (DI D I J) h' I J two xs→Q (.ref I) {s with heap:=h',toks:=tk})→
  NH (model Z.prog Z.w) A t (fun v s₁=>NH (model Z.prog Z.w) A (pyIter v) Q X s₁) X s
theorem Ib (SE:bK Z n E) {e:Expr} {ce:CE} {q:V×ag} {xs:List V} (hc:au Z.fname k c e ce=true) (EO:az env c) (S:St Z env c.vars ρ CA σ D s.heap) (R:aN n A) (e1:eO E ce ρ σ=some q) (e2:uo q.1=some xs):EL Z A CA D q.2 false xs (eval e env) s:=
 fun Q X h=>cT SE hc EO S R e1 fun v h1 t1 k1 c1 r1=>AH (s:={s with heap:=h1,toks:=t1}) r1 e2 fun I h2 t2 g2 n2 l2 it2=>h I I h2 t2 (k1.trans (aw.of_all g2)) (c1.di g2 n2 n2) (.of S.toGd k1 c1 n2 l2) (.of S.toGd k1 c1 n2 l2) it2
theorem H5 (O:Wd.Ok Z p loose mg mb) (SE:bK Z n E) {args:List Expr} {cs:List CE} {np pos:Pos} {q:List V×ag} {xs:List V} (hg:eX c (NK "range")=true) (ha:d7 (au Z.fname k c) args cs=true) (EO:az env c) (S:St Z env c.vars ρ CA σ D s.heap) (R:aN n A)
  (e1:jw E cs ρ σ=some q) (e2:iA q.1=some xs):EL Z A CA D q.2 false xs (eval (.Call (.Name (NK "range") np) args [] pos) env) s:=by
 intro Q X h
 refine Pt (qx O EO S.base hg O.rng.1 O.rng.2 (by decide) (iD (.inr (.inl ⟨_,rfl⟩)) (ee ha _ _).1 (il SE ha EO S R e1 fun vs h1 t1 k1 c1 ra=> ?_)))
 refine ⟨O.X.keeps (S.toGd.step k1 c1).base,?_⟩
 have fin:∀(a b cc:Int) (t u v:Tok) (tk:Tok),jU a b cc=some xs→
   NH (model Z.prog Z.w) A (pyIter (.ref h1.objs.size)) Q X {s with heap:=h1.push {cls:= .type "range",data:= .fields #[.int a t,.int b u,.int cc v]},toks:=tk}:=fun a b cc t u v tk er=>
  A1 (Z:=Z) (D:=D) (s:={s with heap:=h1.push {cls:= .type "range",data:= .fields #[.int a t,.int b u,.int cc v]},toks:=tk}) (Oa _ rfl) er fun I h2 t2 g2 n2 l2 it2=>
   have g3:bM h1 h2:=fun b o e=>g2 b o (aG _ _ b o e)
   have n1:h1.objs.size≤I:=Nt (by rw [Rk];exact NZ _) n2
   h I I h2 t2 (k1.trans (aw.of_all g3)) (c1.di g3 n1 n1) (.of S.toGd k1 c1 n1 l2) (.of S.toGd k1 c1 n1 l2) it2
 refine wH ra e2 (fun b t e er=> ?_) (fun a b t t' e er=> ?_) fun a b cc t t' t'' e er=> ?_ <;>rw [e]
 ·exact call_range_1 (fin 0 _ 1 _ _ _ _ er)
 ·exact call_range_2 (fin _ _ 1 _ _ _ _ er)
 ·have hs:=(qm er).2.1
  exact call_range_3 (by rcases hs with rfl|rfl<;>decide) (fin _ _ _ _ _ _ _ er) (hp:=Or.inl (PyProof.noPylong_small (by rcases hs with rfl|rfl<;>decide)))
theorem H0 (O:Wd.Ok Z p loose mg mb) (SE:bK Z n E) {a:Expr} {ce:CE} {np pos:Pos} {q:V×ag} {us:List V} (hg:eX c (NK "enumerate")=true) (hst:oO a=true) (ha:au Z.fname k c a ce=true) (EO:az env c) (S:St Z env c.vars ρ CA σ D s.heap) (R:aN n A)
  (e1:eO E ce ρ σ=some q) (e2:q.1.lst?=some us):EL Z A CA D q.2 true (jh 0 us) (eval (.Call (.Name (NK "enumerate") np) [a] [] pos) env) s:=by
 intro Q X h
 refine Pt (qx O EO S.base hg O.enm.1 O.enm.2 (by decide) (iD (.inr (.inl ⟨_,rfl⟩)) (by rw [bt hst];rfl) ?_))
 rw [bt hst]
 refine O9 (cT SE ha EO S R e1 fun v h1 t1 k1 c1 r1=>Ps ?_)
 refine ⟨O.X.keeps (S.toGd.step k1 c1).base,?_⟩
 refine Np fun nG=> ?_
 obtain ⟨a,o,items,nn,e0,z,d,g,cc,x,e,r⟩:=(f7 e2▸r1:b8 Z D h1 v (.lst us)).says
 rw [e0] at nG
 refine nG ?_
 refine call_enumerate_list (s:={s with heap:=h1,toks:=t1}) ⟨o,g,cc,nn,e⟩ fun h2 a1 a2 a3 a4=> ?_
 refine UR (s:={s with heap:=h2,toks:=t1}) a1 ?_
 have kk:∀b o,¬D b→h1.get? b=some o→¬DI D (h1.objs.size+1) h1.objs.size b∧h2.get? b=some o:=fun b o d e=>
  ⟨fun z=>z.elim d fun z=>z.elim (fun z=>ar (gq (NZ _)) (z▸e)) fun z=>ar (gq (NI _)) (z▸e),a4 b o e⟩
 exact h (h1.objs.size+1) h1.objs.size h2 t1 (k1.trans (aw.of_all a4)) (c1.di a4 (NZ _) (NI _)) (.of S.toGd k1 c1 (NZ _) ⟨_,a1⟩) (.of S.toGd k1 c1 (NI _) (gO a2))
  (.enm (i:=0) (SW _) rfl a1 a2 (gb.mono ⟨d,⟨o,nn,g,cc,e⟩,r⟩ kk) rfl)
theorem pi (O:Wd.Ok Z p loose mg mb) (SE:bK Z n E) {e:Expr} {it:It} {q:List V×ag} (hc:Hg (au Z.fname k c) c e it=true) (EO:az env c) (S:St Z env c.vars ρ CA σ D s.heap) (R:aN n A)
  (ev:dN E it ρ σ=some q):EL Z A CA D q.2 (F8 it) q.1 (eval e env) s:=by
 cases it with
 |seq ce=>exact af ev fun r e1 ev=>am ev fun us e2 ev=>by subst ev;exact Ib (q:=r) SE (ac hc).2 EO S R e1 e2
 |range cs=>
  obtain ⟨⟨x,args⟩,h1,h2⟩:=bR hc
  obtain ⟨np,pos,rfl⟩:=cU h1
  have hx:x=NK "range":=NE (ac (ac h2).2).1
  subst hx
  exact af ev fun r e1 ev=>am ev fun us e2 ev=>by subst ev;exact H5 (q:=r) O SE (ac h2).1 (ac (ac h2).2).2 EO S R e1 e2
 |enum ce=>
  obtain ⟨⟨x,args⟩,h1,h2⟩:=bR hc
  obtain ⟨np,pos,rfl⟩:=cU h1
  have hx:x=NK "enumerate":=NE (ac (ac h2).2).1
  subst hx
  refine ib (ac (ac h2).2).2 fun a h3 h4=> ?_
  have h3:args=[a]:=h3
  subst h3
  exact af ev fun r e1 ev=>am ev fun us e2 ev=>by subst ev;exact H0 (q:=r) O SE (ac h2).1 (ac h4).1 (ac h4).2 EO S R e1 e2
end
end
section
open PySem PySem.W PyProof.Rows
set_option tactic.hygienic false
section
variable {Z:Wd} {env:Env} {vars:eE} {ρ:Loc} {CA:List Addr} {σ σ':ag} {D D':Addr→Prop} {h h':Heap}
theorem Gd.move (G:Gd Z CA σ D h) (k:∀b o,h.get? b=some o→(¬D b∨D' b)→h'.get? b=some o) (sub:∀b,D' b→D b) (ca:∀a∈CA,D' a) (low:D' Z.base.objs.size):Gd Z CA σ D' h' where
 base:=fun b o e=>k b o (G.base b o e) (.inl fun d=>by rw [G.dbase b d] at e;cases e)
 dabove:=fun a d=>G.dabove a (sub a d)
 low:=low
 live:=fun a d=>let ⟨o,e⟩:=G.live a (sub a d);⟨o,k a o e (.inr d)⟩
 cells:=⟨G.cells.len,G.cells.nodup,fun i a u e e'=>(G.cells.at_ i a u e e').mono (fun o x=>k a o x (.inr (ca a (NN e)))) fun b o d x=>⟨fun y=>d (sub b y),k b o x (.inl d)⟩,ca⟩
theorem St.move (S:St Z env vars ρ CA σ D h) (k:∀b o,h.get? b=some o→(¬D b∨D' b)→h'.get? b=some o) (sub:∀b,D' b→D b) (a:D' env.locals) (b:∀x c,env.cells.lookup x=some c→D' c) (ca:∀a∈CA,D' a) (low:D' Z.base.objs.size):St Z env vars ρ CA σ D' h' where
 toGd:=S.toGd.move k sub ca low
 ns:=let ⟨m,n⟩:=S.ns;⟨m,n.at' fun o e=>k _ o e (.inr a)⟩
 nsD:=a
 nsCA:=S.nsCA
 pc:=fun x c l=>let ⟨_,v,i⟩:=S.pc x c l;⟨b x c l,v,IsCell.keep i fun o e=>k c o e (.inr (b x c l))⟩
 pinj:=S.pinj
 pcel:=S.pcel
 vars:=fun x i mm U e=>let ⟨v,s,r⟩:=S.vars x i mm U e;⟨v,s.keep (fun o e=>k _ o e (.inr a)) (fun c l o e=>k c o e (.inr (b x c l))),r.mono fun b o d e=>⟨fun y=>d (sub b y),k b o e (.inl d)⟩⟩
theorem Gd.stepGrow (G:Gd Z CA σ D h) (k:aw (We CA) h h') (c:aE Z CA σ' D' h') (q:∀b,D' b→D b∨dM Z h h' b) (m:∀b,D b→D' b):Gd Z CA σ' D' h' where
 base:=fun b o e=>k b o (G.base b o e) fun y=>by rw [G.dbase b (G.cells.inD b y)] at e;cases e
 dabove:=fun a d=>(q a d).elim (G.dabove a) (·.base)
 low:=m _ G.low
 live:=fun a d=>(q a d).elim (fun x=>by
  by_cases mm:a∈CA
  ·exact c.live mm
  ·let ⟨o,e⟩:=G.live a x;exact ⟨o,k a o e mm⟩) (·.live)
 cells:=c
theorem St.stepGrow (S:St Z env vars ρ CA σ D h) (k:aw (We CA) h h') (c:aE Z CA σ' D' h') (q:∀b,D' b→D b∨dM Z h h' b) (m:∀b,D b→D' b):St Z env vars ρ CA σ' D' h' where
 toGd:=S.toGd.stepGrow k c q m
 ns:=let ⟨mm,n⟩:=S.ns;⟨mm,n.at' fun o e=>k _ o e S.nsCA⟩
 nsD:=m _ S.nsD
 nsCA:=S.nsCA
 pc:=fun x c l=>let ⟨d,v,i⟩:=S.pc x c l;⟨m _ d,v,IsCell.keep i fun o e=>k c o e (S.notCA l)⟩
 pinj:=S.pinj
 pcel:=S.pcel
 vars:=fun x i mm U e=>let ⟨v,s,r⟩:=S.vars x i mm U e;⟨v,s.keep (fun o e=>k _ o e S.nsCA) (fun c l o e=>k c o e (S.notCA l)),r.mono fun b o d e=>⟨fun y=>(q b y).elim d fun z=>ar z.none e,k b o e fun mm=>d (S.cells.inD b mm)⟩⟩
theorem St.less (S:St Z env vars ρ CA σ D h) {vars':eE} {ρ':Loc} (k:∀x i U,(x,i)∈vars'→ρ'[i]? =some (some U)→(x,i)∈vars∧ρ[i]? =some (some U)):St Z env vars' ρ' CA σ D h where
 toGd:=S.toGd
 ns:=S.ns
 nsD:=S.nsD
 nsCA:=S.nsCA
 pc:=S.pc
 pinj:=S.pinj
 pcel:=S.pcel
 vars:=fun x i mm U e=>let ⟨a,b⟩:=k x i U mm e;S.vars x i a U b
theorem St.other (S:St Z env vars ρ CA σ D h) {W:Addr→Prop} (k:aw W h h') (w:∀b,W b→D b∧b∉CA∧b≠env.locals∧(∀x,env.cells.lookup x≠some b)∧∃o,h'.get? b=some o):St Z env vars ρ CA σ D h' where
 base:=fun b o e=>k b o (S.base b o e) fun y=>by rw [S.dbase b (w b y).1] at e;cases e
 dabove:=S.dabove
 low:=S.low
 live:=fun a d=>by
  by_cases y:W a
  ·exact (w a y).2.2.2.2
  ·let ⟨o,e⟩:=S.live a d;exact ⟨o,k a o e y⟩
 cells:=S.cells.keep k fun b y=>⟨(w b y).1,(w b y).2.1⟩
 ns:=let ⟨m,n⟩:=S.ns;⟨m,n.at' fun o e=>k _ o e fun y=>(w _ y).2.2.1 rfl⟩
 nsD:=S.nsD
 nsCA:=S.nsCA
 pc:=fun x c l=>let ⟨d,v,i⟩:=S.pc x c l;⟨d,v,IsCell.keep i fun o e=>k c o e fun y=>(w _ y).2.2.2.1 x l⟩
 pinj:=S.pinj
 pcel:=S.pcel
 vars:=fun x i mm U e=>let ⟨v,s,r⟩:=S.vars x i mm U e;⟨v,s.keep (fun o e=>k _ o e fun y=>(w _ y).2.2.1 rfl) (fun c l o e=>k c o e fun y=>(w _ y).2.2.2.1 x l),r.mono fun b o d e=>⟨d,k b o e fun y=>d (w b y).1⟩⟩
end
section
variable {Z:Wd} {n:Nat} {E:Ev} {c:Ctx} {env:Env} {A:Od} {s:Nx} {ρ ρ':Loc} {σ σ':ag} {CA:List Addr} {D:Addr→Prop} {X:Nv→Nx→Prop}
theorem St.keepEq {h h':Heap} (S:St Z env c.vars ρ CA σ D h) (g:bM h h'):St Z env c.vars ρ CA σ D h':=S.step (aw.of_all g) (S.cells.grows g)
theorem oh {x:Str} {a:Addr} (w:Wv env x a):Wx env a:=by
 rcases w with ⟨_,w⟩|⟨k,w⟩
 ·exact .inl w
 ·exact .inr ⟨x,k,w⟩
theorem hP {t:Expr} {t':kT} {vs:eE} {P:Prop} (e:o5 t t'=some vs) (K1:∀x p i,t= .Name x p→t'= .one i→vs=[(x,i)]→P) (K2:∀x p y q z w i j,t= .Tuple [.Name x p,.Name y q] z w→t'= .two i j→vs=[(x,i),(y,j)]→P):P:=by
 cases t' with
 |one i=>
  refine am e fun x h1 h2=> ?_
  obtain ⟨p,h3⟩:=aY h1
  exact K1 x p i h3 rfl h2.symm
 |two i j=>
  refine af e fun ts h1 e=> ?_
  refine pB e fun a b h2 e=> ?_
  refine af e fun x h3 e=>am e fun y h4 e=> ?_
  obtain ⟨n,q,h5⟩:=kA h1
  obtain ⟨p1,h6⟩:=aY h3
  obtain ⟨p2,h7⟩:=aY h4
  exact K2 x p1 y p2 n q i j (by rw [h5,h2,h6,h7]) rfl e.symm
theorem mY {i j:Nat} {x:V} (b:gT (.two i j) x ρ=some ρ'):∃u1 u2,x= .tup [u1,u2]∧ρ'=(ρ.set i (some (.v u1))).set j (some (.v u2)):=
 af b fun us h1 b=>let ⟨u1,u2,h2,b⟩:=gj b;⟨u1,u2,by rw [kf h1,h2],(Nq b).symm⟩
structure B2 (env:Env) (c:Ctx) (loc:Bool) (y:Str) (i:Nat):Prop where
 mem:(y,i)∈c.vars
 kind:env.kindOf y=some .local∨env.kindOf y=some .cell
 loc:loc=true→env.kindOf y=some .local
theorem AY {t:Expr} {t':kT} {loc:Bool} (EO:az env c) (ht:jT c t t' loc=true):∃vs,o5 t t'=some vs∧∀y i,(y,i)∈vs→B2 env c loc y i:=by
 refine Np fun nG=> ?_
 refine ax ht fun vs h1 h2=> ?_
 refine nG ?_
 refine ⟨vs,h1,fun y i m=> ?_⟩
 have h3:=ac (NO.mp h2 (y,i) m)
 have e:env.kindOf y=c.sc.names.lookup y:=by unfold PT;rw [EO.sc]
 refine ⟨hZ h3.1,?_,fun z=> ?_⟩<;>rw [e]
 ·exact (Pe.mp h3.2).imp NE fun q=>NE (ac q).2
 ·exact (Pe.mp h3.2).elim NE fun q=>by have:=(ac q).1;rw [z] at this;cases this
theorem B2.keep {loc:Bool} {y:Str} {i:Nat} (t:B2 env c loc y i) {h1 h2:Heap} (k:aw (Wv env y) h1 h2) (l:loc=true):aw (fun a=>a=env.locals) h1 h2:=k.weaken fun b w=>w.elim (·.2) fun w=>by rw [t.loc l] at w;cases w.1
theorem LZ {h:Heap} {x:Str} {b:Addr} (S:St Z env c.vars ρ CA σ D h) (w:Wv env x b):D b:=w.elim (fun w=>w.2▸S.nsD) fun w=>(S.pc _ _ w.2).1
theorem pF {t:Expr} {t':kT} {loc:Bool} {x:V} {v:Nv} (ht:jT c t t' loc=true) (EO:az env c) (S:St Z env c.vars ρ CA σ D s.heap) (hh:A.handled=none) (r:b8 Z D s.heap v x) (b:gT t' x ρ=some ρ') {Q:Unit→Nx→Prop}
  (h:∀h' tk,St Z env c.vars ρ' CA σ D h'→aw (Wx env) s.heap h'→(loc=true→aw (fun a=>a=env.locals) s.heap h')→Q () {s with heap:=h',toks:=tk}):NH (model Z.prog Z.w) A (assign t env v) Q X s:=by
 refine Np fun nG=> ?_
 obtain ⟨vs,hv,kk⟩:=AY EO ht
 refine nG ?_
 have hk:env.scope.kind= .function:=by rw [EO.sc];exact EO.kind
 refine hP hv (fun y p i q1 q2 q3=> ?_) fun y p y' p' z w i j q1 q2 q3=> ?_ <;>rw [q2] at b<;>rw [q3] at kk<;>rw [q1]
 ·have k:=kk y i OY
  exact PG (fX (U:= .v x) S EO.vars hk k.mem k.kind r fun h' tk S' kp=>h h' tk (Nq b▸S') (kp.weaken fun _=>oh) (k.keep kp))
 ·refine Np fun nG=> ?_
  obtain ⟨u1,u2,e1,e2⟩:=mY b
  rw [e1] at r
  rw [e2] at h
  obtain ⟨a,items,e0,⟨o,g,cc,nn,e⟩,rr,_,_⟩:=r.rd.tup
  obtain ⟨v1,v2,hitems,r1,r2⟩:=rr.two
  rw [e0] at nG
  refine nG ?_
  refine Sb hh ⟨o,g,cc,nn,e⟩ (by rw [←OQ,hitems];rfl) rfl fun h1 k1=> ?_
  rw [hitems]
  have g1:bM s.heap h1:=fun b o e=>k1 b o (fun z=>OD _ (z▸N7 e)) e
  have S1:=S.keepEq g1
  have ka:=kk y i OY
  have kb:=kk y' j (OS _ OY)
  refine OZ (PG (fX (s:={s with heap:=h1}) (U:= .v u1) S1 EO.vars hk ka.mem ka.kind (r1.grows g1) fun h2 tk2 S2 kp2=> ?_))
  have old2:∀b o,¬D b→h1.get? b=some o→¬D b∧h2.get? b=some o:=fun b o d e=>⟨d,kp2 b o e fun w=>d (LZ S w)⟩
  refine OZ (PG (fX (s:={s with heap:=h2,toks:=tk2}) (U:= .v u2) S2 EO.vars hk kb.mem kb.kind ((r2.grows g1).mono old2) fun h3 tk3 S3 kp3=> ?_))
  exact NM (h h3 tk3 S3 (((aw.of_all g1).trans (kp2.weaken fun _=>oh)).trans (kp3.weaken fun _=>oh)) fun l=>((aw.of_all g1).trans (ka.keep kp2 l)).trans (kb.keep kp3 l))
end
theorem gE {α:Type} {l:List (Str×α)} {x:Str} {k:α} (h:l.lookup x=some k):(x,k)∈l:=by
 induction l with
 |nil=>simp at h
 |cons p l ih=>
  obtain ⟨y,b⟩:=p
  rw [Pb] at h
  cases hq:x==y with
  |true=>rw [hq] at h;simp only [Option.some.injEq] at h;rw [NE hq,h];exact OY
  |false=>rw [hq] at h;exact OS _ (ih h)
theorem lK {α:Type} {l:List (Str×α)} {x:Str} {k:α} (m:(x,k)∈l) (h:l.lookup x=none):RA:=by
 induction l with
 |nil=>cases m
 |cons p l ih=>
  obtain ⟨y,b⟩:=p
  rw [Pb] at h
  cases hz:x==y with
  |true=>rw [hz] at h;cases h
  |false=>
   rw [hz] at h
   rcases NW.mp m with z|z
   ·injection z with z1 z2;rw [z1] at hz;simp at hz
   ·exact ih z h
theorem nF {scope:Px} {env:Env} (hf:∀x∈scope.names,x.2= .free→∃a,env.cells.lookup x.1=some a):
  ∃cl:List (Str×Addr),closureFor scope env=pure cl∧(∀x∈scope.names,x.2= .free→cl.lookup x.1=env.cells.lookup x.1)∧∀x a,cl.lookup x=some a→env.cells.lookup x=some a:=by
 have key:∀(l:List (Str×US)) (cs:List (Str×Addr)),(∀x∈l,x.2= .free→∃a,env.cells.lookup x.1=some a)→(∀x a,(x,a)∈cs→env.cells.lookup x=some a)→
   ∃cl:List (Str×Addr),(forIn l cs fun x r=>(if (x.2==Qw)=true then do let a←cellOf env x.1;pure (Pm ((x.1,a)::r)) else pure (Pm r):Sem _))=pure cl∧
    (∀x a,(x,a)∈cl→env.cells.lookup x=some a)∧(∀p∈cs,p∈cl)∧∀x∈l,x.2= .free→∃a,(x.1,a)∈cl:=by
  intro l
  induction l with
  |nil=>intro cs _ hc;exact ⟨cs,rfl,hc,fun _ h=>h,by simp⟩
  |cons x l ih=>
   intro cs hl hc
   obtain ⟨n,k⟩:=x
   by_cases hk:k= .free
   ·subst hk
    refine Np fun nG=> ?_
    obtain ⟨a,ha⟩:=hl (n,.free) OY rfl
    obtain ⟨cl,e1,e2,e3,e4⟩:=ih ((n,a)::cs) (fun y hy=>hl y (OS _ hy)) (fun y b hb=>by
     rcases NW.mp hb with z|z
     ·injection z with z1 z2;subst z1 z2;exact ha
     ·exact hc y b z)
    refine nG ?_
    refine ⟨cl,?_,e2,fun p hp=>e3 p (OS _ hp),fun y hy hyk=> ?_⟩
    ·rw [RN]
     have:cellOf env n=pure a:=by unfold cellOf;rw [ha]
     simp only [Ru,if_true,this]
     exact e1
    ·rcases NW.mp hy with z|z
     ·subst z;exact ⟨a,e3 _ OY⟩
     ·exact e4 y z hyk
   ·obtain ⟨cl,e1,e2,e3,e4⟩:=ih cs (fun y hy=>hl y (OS _ hy)) hc
    refine ⟨cl,?_,e2,e3,fun y hy hyk=> ?_⟩
    ·rw [RN]
     have:(k==Qw)=false:=by simpa using hk
     simp only [this,Qu,UK]
     exact e1
    ·rcases NW.mp hy with z|z
     ·subst z;exact absurd hyk hk
     ·exact e4 y z hyk
 refine Np fun nG=> ?_
 obtain ⟨cl,e1,e2,_,e4⟩:=key scope.names [] hf (by simp)
 refine nG ?_
 have lk:∀x a,cl.lookup x=some a→env.cells.lookup x=some a:=fun x a h=>by
  have:(x,a)∈cl:=gE h
  exact e2 x a this
 refine ⟨cl,?_,fun x hx hk=> ?_,lk⟩
 ·unfold closureFor
  show (forIn scope.names ([]:List (Str×Addr)) _>>=fun cs=>pure cs)=pure cl
  refine Eq.trans (NC (· >>=fun cs=>pure cs) ?_) (show (pure cl>>=fun cs=>pure cs:Sem _)=pure cl from rfl)
  refine Eq.trans ?_ e1
  congr 1
 ·obtain ⟨a,ha⟩:=e4 x hx hk
  rw [e2 _ _ ha]
  cases hq:cl.lookup x.1 with
  |some b=>have:=lk _ _ hq;rw [e2 _ _ ha] at this;rw [this]
  |none=>exact (lK ha hq).elim
theorem gZ {sc:Px}:∀{names:List (Str×US)} {x:Str},(names.map fun (n,k)=>if (k==Qw&&sc.kind== .function&&sc.names.lookup n==some .cell) then (n,Uh) else (n,k)).lookup x=
  (names.lookup x).map fun k=>if (k==Qw&&sc.kind== .function&&sc.names.lookup x==some .cell) then Uh else k
 |[],_=>rfl
 |(n,k)::r,x=>by
  have ih:= @gZ sc r x
  show List.lookup x ((if (k==Qw&&sc.kind== .function&&sc.names.lookup n==some .cell)=true then (n,Uh) else (n,k))::_)=_
  cases hx:x==n with
  |true=>
   have:=NE hx;subst this
   by_cases hc:(k==Qw&&sc.kind== .function&&sc.names.lookup x==some .cell)=true
   ·rw [NP hc];simp only [Pb,hx,RO];rw [NP hc]
   ·rw [N4 hc];simp only [Pb,hx];simp only [RO];rw [N4 hc]
  |false=>
   by_cases hc:(k==Qw&&sc.kind== .function&&sc.names.lookup n==some .cell)=true
   ·rw [NP hc];simp only [Pb,hx];exact ih
   ·rw [N4 hc];simp only [Pb,hx];exact ih
theorem jr:∀{is:List Nat} {ρ:Loc} {k:Nat} {U:aA},(qS is ρ)[k]? =some (some U)↔k∉is∧ρ[k]? =some (some U)
 |[],ρ,k,U=>by simp [qS]
 |i::is,ρ,k,U=>by
  rw [qS,jr]
  by_cases h:i=k
  ·subst h
   constructor
   ·rintro ⟨_,b⟩
    by_cases hl:i <ρ.length
    ·rw [Ol hl] at b;cases b
    ·rw [O0 (by simpa using hl)] at b;cases b
   ·rintro ⟨a,_⟩;exact (a OY).elim
  ·rw [Oo h]
   simp only [NW,not_or]
   exact ⟨fun ⟨a,b⟩=>⟨⟨fun z=>h z.symm,a⟩,b⟩,fun ⟨⟨_,a⟩,b⟩=>⟨a,b⟩⟩
theorem sC {t:kT} {x:V} {ρ ρ':Loc} {k:Nat} (b:gT t x ρ=some ρ') (hk:k∉GQ t):ρ'[k]? =ρ[k]? :=by
 cases t with
 |one i=>cases Nq b;exact Oo fun z=>hk (by rw [←z];exact .head _)
 |two i j=>
  obtain ⟨_,_,_,rfl⟩:=mY b
  exact (Oo fun z=>hk (by rw [←z];exact .tail _ (.head _))).trans (Oo fun z=>hk (by rw [←z];exact .head _))
section
variable {Z:Wd} {n:Nat} {E:Ev} {c:Ctx} {env:Env} {A:Od} {s:Nx} {ρ:Loc} {σ σ':ag} {CA:List Addr} {D:Addr→Prop} {X:Nv→Nx→Prop} {k:Nat}
theorem yX (SB:gX Z n E) (EO:az env c) (R:aN n A):∀{es:List Expr} {cs:List CE},d7 (au Z.fname k c) es cs=true→∀{s:Nx} {σ:ag} {b0:Bool} {q:Bool×ag},
  St Z env c.vars ρ CA σ D s.heap→(if b0 then GT E cs ρ σ else some (false,σ))=some q→∀{Q:Bool→Nx→Prop},
  (∀h' tk,aw (We CA) s.heap h'→aE Z CA q.2 D h'→Q q.1 {s with heap:=h',toks:=tk})→
  NH (model Z.prog Z.w) A (forIn es b0 fun c r=>if r=true then do let ok←isTrue c env (eval c env);pure (Pm ok) else pure (Pm r)) Q X s:=by
 intro es
 induction es with
 |nil=>
  intro cs hc s σ b0 q S ev Q h
  cases aF hc
  cases b0<;>(cases Nq ev;exact NM (h s.heap s.toks aw.refl S.cells))
 |cons e es ih=>
  intro cs hc s σ b0 q S ev Q h
  obtain ⟨ce,cs,rfl,hc⟩:=cV hc
  rw [RN]
  cases b0 with
  |false=>exact Ny (NM (ih (ac (ac hc).2).2 (b0:=false) S ev h))
  |true=>
   refine af ev fun r e1 e2=> ?_
   exact Ny (Ny (j4 SB (ac (ac hc).2).1 EO S R e1 fun h1 t1 k1 c1=>NM
    (ih (s:={s with heap:=h1,toks:=t1}) (ac (ac hc).2).2 (S.step k1 c1) e2 fun h2 t2 k2 c2=>h h2 t2 (k1.trans k2) c2)))
end
noncomputable def lu (elt:Expr) (gens:List N9) (scope:Px) (pos:Pos) (d:Nat) (acc:Nv) (env:Env) (k:Sem Fin):Sem Fin:=
 match gens[d]? with
 |some g'=>do
   let x←eval g'.iter env
   standAt g'.iter.pos
   let x←if g'.is_async !=0 then foldedIterable g'.iter x else foldedSetIterable g'.iter env x
   let _←runOwn (.compStart (.ListComp elt gens scope pos) d (←holding [x] (if g'.is_async !=0 then asyncIter x else pyIter x)) acc env) env
   k
 |none=>do
   (do let _←call (.builtin "list.append") [acc,←eval elt env])
   k
theorem ut {elt:Expr} {gens:List N9} {scope:Px} {pos:Pos} {d:Nat} {it acc:Nv} {env:Env} {g:N9} (hg:gens[d]? =some g) (ha:g.is_async=0):
  compTurn (.ListComp elt gens scope pos) d it acc env=(do
   standAt g.iter.pos
   match←pyNext it with
   |none=>pure (.done .next)
   |some v=>
    Qa g.target it v
    assign g.target env v
    let ok←forIn g.ifs true fun c r=>if r=true then do let ok←isTrue c env (eval c env);pure (Pm ok) else pure (Pm r)
    if ok then lu elt gens scope pos (d+1) acc env (again (.compLoop (.ListComp elt gens scope pos) d it acc env))
    else again (.compLoop (.ListComp elt gens scope pos) d it acc env)):=by
 obtain ⟨t,i,f,a⟩:=g
 replace ha:a=0:=ha
 subst ha
 unfold compTurn lu
 dsimp only
 rw [hg]
 rfl
section
variable {Z:Wd} {A:Od} {s:Nx} {R:Qx→Nx→Prop}
theorem sM {elt:Expr} {gens:List N9} {scope:Px} {pos:Pos} {d:Nat} {it acc:Nv} {env:Env} {g:N9} (hg:gens[d]? =some g) (ha:g.is_async=0) (I:Nat→Nx→Prop)
  (turn:∀n s,I n s→NH (model Z.prog Z.w) A (pyNext it) (fun r s₁=>match r with
   |none=>R (.ok .next) s₁
   |some v=>NH (model Z.prog Z.w) A (Qa g.target it v) (fun _ s₁'=>NH (model Z.prog Z.w) A (assign g.target env v) (fun _ s₂=>
     NH (model Z.prog Z.w) A (forIn g.ifs true fun c r=>if r=true then do let ok←isTrue c env (eval c env);pure (Pm ok) else pure (Pm r)) (fun ok s₃=>
      if ok=true then∀(k:Sem Fin) (Q:Fin→Nx→Prop) (X:Nv→Nx→Prop),(∀s₅ m,m <n→I m s₅→NH (model Z.prog Z.w) A k Q X s₅)→NH (model Z.prog Z.w) A (lu elt gens scope pos (d+1) acc env k) Q X s₃
      else∃m,m <n∧I m s₃) (Th (model Z.prog Z.w) A env fun e s'=>R (.error e) s') s₂) (Th (model Z.prog Z.w) A env fun e s'=>R (.error e) s') s₁') (Th (model Z.prog Z.w) A env fun e s'=>R (.error e) s') s₁)
    (Th (model Z.prog Z.w) A env fun e s'=>R (.error e) s') s)
  (n:Nat) (h:I n s):PB (model Z.prog Z.w) A (.compLoop (.ListComp elt gens scope pos) d it acc env) R s:=by
 refine codeAny_loop rfl I (fun n s hI=> ?_) n h
 show NH _ A ((compTurn (.ListComp elt gens scope pos) d it acc env).onRaise (fun x=>do noteFrame x env;theTreesLotGoes x)) _ _ s
 refine wpAny_noted ?_
 rw [ut hg ha]
 refine Ny (OR (Ny (Oc (turn n s hI) (fun r s₁ h₁=> ?_) fun _ _ h'=>h')))
 cases r with
 |none=>exact NM h₁
 |some v=>
  refine Ny (Oc h₁ (fun _ s₁' h₁'=>Ny (Oc h₁' (fun _ s₂ h₂=>Ny (Oc h₂ (fun ok s₃ h₃=> ?_) fun _ _ h'=>h')) fun _ _ h'=>h')) fun _ _ h'=>h')
  cases ok with
  |false=>exact NM ⟨rfl,h₃⟩
  |true=>exact h₃ _ _ _ fun s₅ m hm h₅=>NM ⟨rfl,m,hm,h₅⟩
theorem kX {elt:Expr} {gens:List N9} {scope:Px} {pos:Pos} {d:Nat} {it acc:Nv} {env:Env} {g:N9} (hg:gens[d]? =some g) (ha:g.is_async=0)
  (hs:∀Q X,Q it s→NH (model Z.prog Z.w) A (pyIter it) Q X s) (h:PB (model Z.prog Z.w) A (.compLoop (.ListComp elt gens scope pos) d it acc env) R s):
  PB (model Z.prog Z.w) A (.compStart (.ListComp elt gens scope pos) d it acc env) R s:=by
 refine VB ?_
 show NH _ _ ((compStart (.ListComp elt gens scope pos) d it acc env).onRaise (fun x=>do noteFrame x env;standAt theWindowsPlace)) _ _ s
 refine wpAny_notedAt ?_
 unfold compStart
 have hg':(clausesOf (.ListComp elt gens scope pos))[d]? =some g:=hg
 rw [hg']
 have:(Option.elim (some g) false fun x=>x.is_async !=0)=false:=by simp [ha]
 rw [this]
 simp only [Qu,UK]
 refine Ny (Vf (wpAny_ite ?_))
 split
 ·first
   |exact Ny (NM (NM (And.intro rfl h)))
   |exact NM (And.intro rfl h)
 ·refine Ny (wpAny_rule ?_)
  exact Ny (OR (Ny (hs _ _ (NM (And.intro rfl h)))))
end
noncomputable def Wc (acc:Addr) (CA:List Addr) (env:Env):Addr→Prop:=fun b=>b=acc∨b∈CA∨b=env.locals
theorem iZ {e:Expr} {env:Env} {x:Nv} (h:fh e=true):foldedSetIterable e env x=pure x:=by
 cases e<;>first|rfl|cases h
section
variable {Z:Wd} {n:Nat} {E:Ev} {c:Ctx} {env:Env} {A:Od} {CA:List Addr} {p:Ob} {loose:List Str} {mg mb:Str→Nr Nv} {k:Nat}
theorem rh {ρ:Loc} {σ:ag} {D:Addr→Prop} {h:Heap} {acc:Addr} {us:List V} (S:St Z env c.vars ρ CA σ D h) (C:gG Z D h acc (.lst us)):acc≠env.locals∧∀x,env.cells.lookup x≠some acc:=by
 refine ⟨fun z=> ?_,fun x z=>let ⟨_,_,ic⟩:=S.pc x acc z;C.notCell ic⟩
 obtain ⟨_,items,⟨m,e⟩,_⟩:=C
 obtain ⟨_,o,_,_,e1,e2,_⟩:=S.ns
 rw [←z,e] at e1;cases e1;cases e2
noncomputable def wl (Z:Wd) (A:Od) (c:Ctx) (env:Env) (acc:Addr) (CA:List Addr) (gens:List N9) (elt:Expr) (scope:Px) (pos:Pos) (d:Nat) (E:Ev) (eltc:CE) (cgs:List CG):Prop:=
 ∀(s:Nx) (ρ:Loc) (σ:ag) (q:List V×ag) (us0:List V) (D:Addr→Prop),St Z env c.vars ρ CA σ D s.heap→D acc→acc∉CA→gG Z D s.heap acc (.lst us0)→dZ E eltc cgs ρ σ=some q→us0.length+q.1.length≤16777216→
  ∀(kk:Sem Fin) (Q:Fin→Nx→Prop) (X:Nv→Nx→Prop),
   (∀h' tk,aw (Wc acc CA env) s.heap h'→St Z env c.vars (qS (DB cgs) ρ) CA q.2 D h'→gG Z D h' acc (.lst (us0++q.1))→NH (model Z.prog Z.w) A kk Q X {s with heap:=h',toks:=tk})→
   NH (model Z.prog Z.w) A (lu elt gens scope pos d (.ref acc) env kk) Q X s
theorem LA {ρ:Loc} {σ:ag} {D:Addr→Prop} {h:Heap} {acc b:Addr} (S:St Z env c.vars ρ CA σ D h) (da:D acc) (w:Wc acc CA env b):D b:=by
 rcases w with rfl|w|rfl
 ·exact da
 ·exact S.cells.inD b w
 ·exact S.nsD
structure pZ (Z:Wd) (env:Env) (CA:List Addr) (D:Addr→Prop) (I J acc:Addr):Prop where
 nI:¬D I
 nJ:¬D J
 da:D acc
 dL:D env.locals
 dP:∀x c,env.cells.lookup x=some c→D c
 dC:∀a∈CA,D a
 dlow:D Z.base.objs.size
structure ud (Z:Wd) (env:Env) (c:Ctx) (ρ0:Loc) (CA:List Addr) (D:Addr→Prop) (I J acc:Addr) (two:Bool) (E:Ev) (t:kT) (ifs:List CE) (eltc:CE) (cgs:List CG) (q:List V×ag) (g h:Heap) (xs us0:List V) (σ:ag) (r:List V×ag):Prop where
 keep:aw (fun b=>Wc acc CA env b∨b=I∨b=J) g h
 st:St Z env c.vars ρ0 CA σ (DI D I J) h
 cont:gG Z (DI D I J) h acc (.lst us0)
 it:dY Z (DI D I J) h I J two xs
 ev:jv (ji E t ifs (dZ E eltc cgs) ρ0) xs σ=some r
 eq:us0++r.1=q.1∧r.2=q.2
section
variable {gens:List N9} {elt:Expr} {scope:Px} {pos:Pos} {d:Nat} {g:N9} {eltc:CE} {t:kT} {ifs:List CE} {cgs:List CG} {acc:Addr} {two:Bool} {D:Addr→Prop} {I J:Addr} {s:Nx} {ρ0:Loc} {q:List V×ag} {h1:Heap} {us0:List V} {σ1:ag} {r:List V×ag}
theorem pZ.low (G:pZ Z env CA D I J acc) {b:Addr} (d:¬D b):¬Wc acc CA env b:=fun w=>by
 rcases w with rfl|w|rfl
 ·exact d G.da
 ·exact d (G.dC _ w)
 ·exact d G.dL
theorem ud.done (G:pZ Z env CA D I J acc) (L:ud Z env c ρ0 CA D I J acc two E t ifs eltc cgs q s.heap h1 [] us0 σ1 r) {h2:Heap} (k2:aw (fun b=>b=I∨b=J) h1 h2):
  aw (fun b=>Wc acc CA env b∨b=I∨b=J) s.heap h2∧St Z env c.vars ρ0 CA q.2 D h2∧gG Z D h2 acc (.lst q.1):=by
 have mv:∀b o,h1.get? b=some o→(¬DI D I J b∨D b)→h2.get? b=some o:=fun b o e w=>k2 b o e fun z=>w.elim (fun w=>w (.inr z)) fun w=>z.elim (fun z=>G.nI (z▸w)) fun z=>G.nJ (z▸w)
 have hr:=Nq L.ev
 have e1:us0=q.1:=by rw [←L.eq.1,←hr,NQ]
 have e2:σ1=q.2:=by rw [←L.eq.2,←hr]
 rw [←e1,←e2]
 exact ⟨L.keep.trans (k2.weaken fun b w=> .inr w),L.st.move mv (fun b q=> .inl q) G.dL G.dP G.dC G.dlow,L.cont.mono (fun o e=>mv _ o e (.inr G.da)) fun b o q e=>⟨fun z=>q (.inl z),mv b o e (.inl q)⟩⟩
theorem yu {ρ ρ':Loc} {ct:Expr} {t:kT} {loc two:Bool} {x:V} (ht:jT c ct t loc=true) (htw:ko ct=some two) (e:gT t x ρ=some ρ') (z:two=true):∃vs,x= .tup vs:=by
 refine Np fun nG=> ?_
 refine ax ht fun vs hv _=> ?_
 refine hP hv (fun y p i q1 q2 _=> ?_) fun y p y' p' z' w i j q1 q2 _=> ?_
 ·rw [q1,z] at htw;cases htw
 ·rw [q2] at e
  obtain ⟨_,_,q3,_⟩:=mY e
  exact nG ⟨_,q3⟩
noncomputable def BF (Z:Wd) (env:Env) (c:Ctx) (ρ0:Loc) (CA:List Addr) (D:Addr→Prop) (I J acc:Addr) (two:Bool) (E:Ev) (t:kT) (ifs:List CE) (eltc:CE) (cgs:List CG) (q:List V×ag) (s:Nx) (m:Nat) (s':Nx):Prop:=
 ∃xs us0 σ1 r h1 tk,m=xs.length∧s'={s with heap:=h1,toks:=tk}∧ud Z env c ρ0 CA D I J acc two E t ifs eltc cgs q s.heap h1 xs us0 σ1 r
theorem E3 (SB:gX Z n E) (EO:az env c) (Rm:aN n A) (EM:wl Z A c env acc CA gens elt scope pos (d+1) E eltc cgs) (ht:jT c g.target t true=true)
  (hi:d7 (au Z.fname k c) g.ifs ifs=true) (G:pZ Z env CA D I J acc) (hca:acc∉CA) (hclr:∀j U,ρ0[j]? =some (some U)→j∉GQ t∧j∉DB cgs) (hz:q.1.length≤16777216)
  {x:V} {xs:List V} {σ:ag} {r:List V×ag} {us0:List V} {tk:Tok} (L:ud Z env c ρ0 CA D I J acc two E t ifs eltc cgs q s.heap h1 (x::xs) us0 σ r) {v:Nv} {s₁:Nx} (hgo:tX Z A (DI D I J) I J two g.target {s with heap:=h1,toks:=tk} x xs v s₁)
  {QT:Bool→Nx→Prop} {X:Nv→Nx→Prop} (hF:∀s3,BF Z env c ρ0 CA D I J acc two E t ifs eltc cgs q s xs.length s3→QT false s3)
  (hT:∀s3,(∀(kk:Sem Fin) (Q:Fin→Nx→Prop) (X:Nv→Nx→Prop),(∀s5,BF Z env c ρ0 CA D I J acc two E t ifs eltc cgs q s xs.length s5→NH (model Z.prog Z.w) A kk Q X s5)→NH (model Z.prog Z.w) A (lu elt gens scope pos (d+1) (.ref acc) env kk) Q X s3)→QT true s3):
  NH (model Z.prog Z.w) A (Qa g.target (.ref I) v) (fun _ s₁'=>NH (model Z.prog Z.w) A (assign g.target env v) (fun _ s₂=>
     NH (model Z.prog Z.w) A (forIn g.ifs true fun c r=>if r=true then do let ok←isTrue c env (eval c env);pure (Pm ok) else pure (Pm r)) QT X s₂) X s₁') X s₁:=by
 have dI:DI D I J I:= .inr (.inl rfl)
 have dJ:DI D I J J:= .inr (.inr rfl)
 refine af L.ev fun ra e1 ev=>af ev fun rb e2 ev=>af e1 fun ρ' e5 e1=>af e1 fun bb e6 e1=>hgo _ _ fun h2 t2 k2 IT2 lI lJ r2=> ?_
 have aO:=rh L.st L.cont
 have S2:=L.st.other k2 fun b w=>by
  rcases w with rfl|rfl
  ·exact ⟨dI,fun m=>G.nI (G.dC _ m),fun z=>G.nI (z▸G.dL),fun x z=>G.nI (G.dP x _ z),lI⟩
  ·exact ⟨dJ,fun m=>G.nJ (G.dC _ m),fun z=>G.nJ (z▸G.dL),fun x z=>G.nJ (G.dP x _ z),lJ⟩
 refine pF (s:={s with heap:=h2,toks:=t2}) ht EO S2 Rm.calm r2 e5 fun h3 t3 S3 _ k3=> ?_
 have k3:=k3 rfl
 refine yX (s:={s with heap:=h3,toks:=t3}) SB EO Rm hi (b0:=true) S3 e6 fun h4 t4 k4 c4=> ?_
 have S4:=S3.step k4 c4
 have old3:∀b o,¬DI D I J b→h2.get? b=some o→¬DI D I J b∧h3.get? b=some o:=fun b o q e=>⟨q,k3 b o e fun w=>q (w▸L.st.nsD)⟩
 have C4:=((L.cont.mono (fun o e=>k2 _ o e fun w=>w.elim (fun z=>G.nI (z▸G.da)) fun z=>G.nJ (z▸G.da)) fun b o q e=>⟨q,k2 b o e fun w=>q (.inr w)⟩).mono (fun o e=>k3 _ o e aO.1) old3).mono (fun o e=>k4 _ o e hca) (S3.toGd.old k4)
 have IT4:=(IT2.mono (fun o e=>k3 _ o e fun z=>G.nI (z▸G.dL)) (fun o e=>k3 _ o e fun z=>G.nJ (z▸G.dL)) old3).mono (fun o e=>k4 _ o e fun m=>G.nI (G.dC I m)) (fun o e=>k4 _ o e fun m=>G.nJ (G.dC J m)) (S3.toGd.old k4)
 have kp4:aw (fun b=>Wc acc CA env b∨b=I∨b=J) s.heap h4:=((L.keep.trans (k2.weaken fun b w=> .inr w)).trans (k3.weaken fun b w=> .inl (.inr (.inr w)))).trans (k4.weaken fun b w=> .inl (.inr (.inl w)))
 have eqs:us0++(ra.1++rb.1)=q.1∧rb.2=q.2:=by have:=L.eq;rw [←Nq ev] at this;exact this
 obtain ⟨b,σ4⟩:=bb
 cases b with
 |false=>
  have e1:=Nq e1
  rw [←e1] at e2 eqs
  exact hF _ ⟨xs,us0,_,rb,h4,t4,rfl,rfl,kp4,S4.less fun y j U m e=>⟨m,(sC e5 (hclr j U e).1).trans e⟩,C4,IT4,e2,eqs⟩
 |true=>
  refine hT _ fun kk Q X hk=> ?_
  have hlen:us0.length+ra.1.length≤16777216:=by
   rw [←eqs.1,Nu,Nu,←OA] at hz
   exact Nt (Oj _ _) hz
  exact EM {s with heap:=h4,toks:=t4} ρ' σ4 ra us0 (DI D I J) S4 (.inl G.da) hca C4 e1 hlen kk Q X fun h5 t5 k5 S5 C5=>
   hk _ ⟨xs,us0++ra.1,ra.2,rb,h5,t5,rfl,rfl,kp4.trans (k5.weaken fun b w=> .inl w),S5.less fun y j U m e=>⟨m,jr.mpr ⟨(hclr j U e).2,(sC e5 (hclr j U e).1).trans e⟩⟩,C5,
   IT4.mono (fun o e=>k5 _ o e (G.low G.nI)) (fun o e=>k5 _ o e (G.low G.nJ)) fun b o q e=>⟨q,k5 b o e fun w=>q (LA S4 (.inl G.da) w)⟩,e2,by rw [NR];exact eqs⟩
theorem pg (SB:gX Z n E) (EO:az env c) (Rm:aN n A) (EM:wl Z A c env acc CA gens elt scope pos (d+1) E eltc cgs) (hg:gens[d]? =some g) (ha:g.is_async=0) (ht:jT c g.target t true=true) (htw:ko g.target=some two)
  (hi:d7 (au Z.fname k c) g.ifs ifs=true) (G:pZ Z env CA D I J acc) (hca:acc∉CA) (hclr:∀j U,ρ0[j]? =some (some U)→j∉GQ t∧j∉DB cgs) (hz:q.1.length≤16777216)
  {xs:List V} {σ:ag} {r:List V×ag} {us0:List V} (L0:ud Z env c ρ0 CA D I J acc two E t ifs eltc cgs q s.heap s.heap xs us0 σ r) {R:Qx→Nx→Prop}
  (h:∀h' tk,aw (fun b=>Wc acc CA env b∨b=I∨b=J) s.heap h'→St Z env c.vars ρ0 CA q.2 D h'→gG Z D h' acc (.lst q.1)→R (.ok .next) {s with heap:=h',toks:=tk}):
  PB (model Z.prog Z.w) A (.compLoop (.ListComp elt gens scope pos) d (.ref I) (.ref acc) env) R s:=by
 refine sM hg ha (BF Z env c ρ0 CA D I J acc two E t ifs eltc cgs q s) (fun m s' hI=> ?_) xs.length ⟨xs,us0,σ,r,s.heap,s.toks,rfl,rfl,L0⟩
 refine Np fun nG=> ?_
 obtain ⟨xs,us0,σ1,r,h1,tk,e0,e1,L⟩:=hI
 rw [e0,e1] at nG
 cases xs with
 |nil=>exact nG (vg (s:={s with heap:=h1,toks:=tk}) Rm.calm L.it fun h2 t2 k2=>let f:=L.done G k2;h h2 t2 f.1 f.2.1 f.2.2)
 |cons x xs'=>exact af L.ev fun ra e1 _=>af e1 fun ρ' e5 _=>nG (rY (s:={s with heap:=h1,toks:=tk}) (target:=g.target) htw L.st.live L.it (.inr (.inl rfl)) (.inr (.inr rfl)) (yu ht htw e5) fun v s₁ hgo=>
  E3 SB EO Rm EM ht hi G hca hclr hz L hgo (fun s3 I=>⟨xs'.length,OM _,I⟩) fun s3 H kk Q X hk=>H kk Q X fun s5 I=>hk s5 _ (OM _) I)
end
theorem pU {t:Expr} {t':kT} {it:It} {loc:Bool} (ht:jT c t t' loc=true) (h:BK t' it=true):ko t=some (F8 it):=by
 refine ax ht fun vs hv _=> ?_
 refine hP hv (fun y p i q1 q2 _=> ?_) fun y p y' p' z w i j q1 q2 _=> ?_ <;>rw [q2] at h<;>rw [q1]<;>cases it<;>first|rfl|cases h
theorem EB (O:Wd.Ok Z p loose mg mb) (SE:bK Z n E) (SB:gX Z n E) (EO:az env c) (Rm:aN n A) {gens:List N9} {elt:Expr} {scope:Px} {pos:Pos} {eltc:CE} {acc:Addr} (he:au Z.fname k c elt eltc=true):
  ∀(gs:List N9) (cgs:List CG) (d:Nat),gens.drop d=gs→Au (au Z.fname k c) c gs cgs=true→wl Z A c env acc CA gens elt scope pos d E eltc cgs:=by
 intro gs
 induction gs with
 |nil=>
  intro cgs d hd hc s ρ σ q us0 D S da hca C ev hz kk Q X h
  cases aF hc
  have hg:gens[d]? =none:=O0 (List.drop_eq_nil_iff.mp hd)
  unfold lu
  rw [hg]
  refine am ev fun r e1 ev=> ?_
  subst ev
  refine Ny (Ny (cT SE he EO S Rm e1 fun v h1 t1 k1 c1 r1=>Ny ?_))
  refine Np fun nG=> ?_
  obtain ⟨_,items,hp,ri⟩:=C.mono (fun o e=>k1 _ o e hca) (S.toGd.old k1)
  refine nG ?_
  have aO:=rh S C
  refine SV (hsz:=by have len:=ri.length;rw [OQ] at len;rw [len];exact Nt (Oj _ _) hz) (s:={s with heap:=h1,toks:=t1}) hp fun h2 hp2 hs2=>NM ?_
  have old:∀b o,¬D b→h1.get? b=some o→¬D b∧h2.get? b=some o:=fun b o d e=>⟨d,(hs2.2 b fun z=>d (z▸da)).trans e⟩
  exact h h2 t1 ((k1.weaken fun b w=> .inr (.inl w)).trans (aw.sameBut hs2 (.inl rfl))) ((S.step k1 c1).other (W:=fun b=>b=acc) (aw.sameBut hs2 rfl) fun b w=>by subst w;exact ⟨da,hca,aO.1,aO.2,let ⟨_,e⟩:=hp2;⟨_,e⟩⟩)
   ⟨by rw [Nu];exact hz,_,hp2,by rw [UQ];exact (ri.mono old).append (.cons (r1.mono old) .nil)⟩
 |cons g gs ih=>
  intro cgs d hd hc
  obtain ⟨cg,cgs,rfl,hc⟩:=cV hc
  obtain ⟨t,it,ifs⟩:=cg
  have hc1:=ac (ac hc).1
  have hc2:=ac hc1.2
  have hc3:=ac hc2.2
  have hc4:=ac hc3.2
  have hc5:=ac hc4.2
  obtain ⟨tt,ii,ff,aa⟩:=g
  have h0:aa=0:=NE hc1.1
  subst h0
  obtain ⟨hg,hd'⟩:=mT hd
  have EM:=ih cgs (d+1) hd' (ac hc).2
  intro s ρ σ q us0 D S da hca C ev hz kk Q X h
  refine af ev fun r e1 ev=> ?_
  unfold lu
  rw [hg]
  have key:=pi O SE hc5.1 EO S Rm e1 (fun itv s₂=>NH (model Z.prog Z.w) A (runOwn (.compStart (.ListComp elt gens scope pos) d itv (.ref acc) env) env) (fun _ s₃=>NH (model Z.prog Z.w) A kk Q X s₃) X s₂) X fun I J h1' t1 k1 c1 nI nJ IT=> ?_
  ·refine Ny (Oc key (fun x s₁ hx=>Ny (OR ?_)) fun _ _ z=>z)
   show NH _ A (foldedSetIterable ii env x>>=_) _ _ _
   rw [iZ hc4.1]
   exact Ny (NM (Ny (Ou (Oc hx (fun itv s₂ h₂=>Ny h₂) fun _ _ z=>z))))
  ·have G:pZ Z env CA D I J acc:=⟨S.toGd.fresh_notD nI.none,S.toGd.fresh_notD nJ.none,da,S.nsD,fun x c l=>(S.pc x c l).1,S.cells.inD,S.low⟩
   have S1:St Z env c.vars ρ CA r.2 (DI D I J) h1':=S.stepGrow k1 c1 (fun b q=>q.imp id fun z=>z.elim (fun z=>z▸nI) fun z=>z▸nJ) fun b q=> .inl q
   have C1:gG Z (DI D I J) h1' acc (.lst us0):=C.mono (fun o e=>k1 _ o e hca) fun b o q e=>⟨fun z=>z.elim q fun z=>z.elim (fun z=>ar nI.none (z▸e)) fun z=>ar nJ.none (z▸e),(S.toGd.old k1 b o q e).2⟩
   refine wpAny_runOwn (h:=none) ?_
   show PB _ A _ _ _
   refine kX hg rfl (fun Q X hq=>rf (s:={s with heap:=h1',toks:=t1}) IT hq) ?_
   refine pg (s:={s with heap:=h1',toks:=t1}) (q:=(us0++q.1,q.2)) SB EO Rm EM hg rfl hc2.1 (pU hc2.1 hc3.1) hc5.2 G hca (fun j U e=>let h:=(jr.mp e).1;⟨fun m=>h (TL _ m),fun m=>h (Rr _ m)⟩) (by rw [Nu];exact hz)
    ⟨aw.refl,S1.less fun y j U m e=>⟨m,(jr.mp e).2⟩,C1,IT,ev,rfl,rfl⟩ fun h' tk k2 S2 C2=> ?_
   exact h h' tk (aw.fresh (k1.weaken fun b w=> .inr (.inl w)) k2 fun b w=>w.imp id fun w=>w.elim (fun w=>w▸nI.none) fun w=>w▸nJ.none) S2 C2
end
theorem ui:∀{gs:List N9} {cgs:List CG} {vs:eE},j9 gs cgs=some vs→∀x i,(x,i)∈vs→i∈DB cgs:=by
 intro gs
 induction gs with
 |nil=>intro cgs vs e x i m;cases Nq (bU e).2;cases m
 |cons g gs ih=>
  intro cgs vs e x i m
  cases cgs with
  |nil=>cases e
  |cons cg cgs=>
   obtain ⟨t,it,ifs⟩:=cg
   refine af e fun v1 e1 e=>am e fun v2 e2 e=> ?_
   subst e
   refine NG.mpr ((NG.mp m).imp (fun m=> ?_) fun m=>ih e2 x i m)
   refine hP e1 (fun y p j _ h q=> ?_) fun y p y' p' z w j j' _ h q=> ?_ <;>rw [q] at m<;>have h:t=_:=h<;>rw [h]
   ·cases N3.mp m;exact .head _
   ·rcases NW.mp m with z|z
    ·cases z;exact .head _
    ·cases N3.mp z;exact .tail _ (.head _)
section
variable {Z:Wd} {n:Nat} {E:Ev} {c:Ctx} {env:Env} {A:Od} {s:Nx} {ρ:Loc} {σ σ':ag} {CA:List Addr} {D:Addr→Prop} {X:Nv→Nx→Prop} {p:Ob} {loose:List Str} {mg mb:Str→Nr Nv} {k:Nat} {h:Heap}
structure Iy (c:Ctx) (scope:Px):Prop where
 kind:scope.kind= .function
 cell:∀x∈scope.names,x.2≠ .cell
 loc:∀x∈scope.names,x.2= .local→scope.names.lookup x.1=some .local
 free:∀x∈scope.names,x.2= .free→c.sc.names.lookup x.1=some .cell
theorem jy {α:Type} [BEq α] [LawfulBEq α] {a b:α} (h:(a !=b)=true):a≠b:=fun e=>by subst e;rw [UT] at h;cases h
theorem tQ {scope:Px} (e:sV c scope=true):Iy c scope:=
 let e1:=ac e;let e2:=ac e1.1;let e3:=ac e2.1
 ⟨NE e3.1,fun x m=>jy (NO.mp e3.2 x m),fun x m z=>(Pe.mp (NO.mp e2.2 x m)).elim (fun w=>(jy w z).elim) NE,fun x m z=>(Pe.mp (NO.mp e1.2 x m)).elim (fun w=>(jy w z).elim) NE⟩
theorem lS {scope:Px} (EO:az env c):relabel scope env=js scope c.sc:=by
 have:relabel scope env=js scope env.scope:=rfl
 rw [this,EO.sc]
theorem St.enter (S:St Z env c.vars ρ CA σ D h) (EO:az env c) {scope:Px} (so:Iy c scope) {C:Addr} (ns:∃m,h.Ns C m) (dC:D C) (nCA:C∉CA) {cl:List (Str×Addr)}
  (cl1:∀x∈scope.names,x.2= .free→cl.lookup x.1=env.cells.lookup x.1) (cl2:∀x a,cl.lookup x=some a→env.cells.lookup x=some a) {gens:List N9} {cgs:List CG} {vs:eE} (hv:j9 gens cgs=some vs):
  St Z (compEnvC scope cl C env) (fS c scope vs).vars (qS (DB cgs) ρ) CA σ D h where
 toGd:=S.toGd
 ns:=ns
 nsD:=dC
 nsCA:=nCA
 pc:=fun x q l=>S.pc x q (cl2 x q l)
 pinj:=fun x y q a b=>S.pinj x y q (cl2 x q a) (cl2 y q b)
 pcel:=fun x e=>by
  have e':(js scope c.sc).names.lookup x=some .cell:=by rw [←lS EO];exact e
  rw [js,gZ] at e'
  refine am e' fun kx e1 e2=> ?_
  have m:=gE e1
  split at e2
  ·rename_i hh
   simp only [Bool.and_eq_true,beq_iff_eq] at hh
   have hf:=hh.1.1
   subst hf
   have:=cl1 _ m rfl
   obtain ⟨q,hq⟩:=S.pcel x (by unfold PT;rw [EO.sc];exact hh.2)
   exact ⟨q,this.trans hq⟩
  ·subst e2;exact (so.cell _ m rfl).elim
 vars:=fun x i m U e=>by
  obtain ⟨ni,e⟩:=jr.mp e
  rcases NG.mp m with m|m
  ·exact (ni (ui hv x i m)).elim
  ·rw [QW] at m
   refine Np fun nG=> ?_
   obtain ⟨m,hf⟩:=m
   have hf:scope.names.lookup x=some .free:=by simpa using hf
   have mm:=gE hf
   have kc:env.kindOf x=some .cell:=by unfold PT;rw [EO.sc];exact so.free _ mm rfl
   obtain ⟨v,sl,r⟩:=S.vars x i m U e
   refine nG ?_
   refine ⟨v,?_,r⟩
   have kc':(compEnvC scope cl C env).kindOf x=some .cell:=by
    show (relabel scope env).names.lookup x=some .cell
    rw [lS EO,js,gZ,hf]
    have:=so.free _ mm rfl
    simp [EO.kind,this]
   rcases sl with ⟨a,_⟩|⟨_,q,l,ic⟩
   ·rw [kc] at a;cases a
   ·exact .inr ⟨.inl kc',q,(cl1 _ mm rfl).trans l,ic⟩
theorem og {vars:eE} (e:tU vars=true):kh vars:=⟨fun x i y j m m'=>by
 have:(decide (x=y)==decide (i=j))=true:=NO.mp (NO.mp e _ m) _ m'
 exact O4.mp (NE this)⟩
structure pj (Z:Wd) (k:Nat) (c:Ctx) (elt:Expr) (gens:List N9) (scope:Px) (eltc:CE) (cgs:List CG) (vs:eE):Prop where
 hv:j9 gens cgs=some vs
 so:Iy c scope
 vo:kh (fS c scope vs).vars
 gs:tH (au Z.fname k) c (fS c scope vs) gens cgs=true
 he:au Z.fname k (fS c scope vs) elt eltc=true
theorem mV {elt:Expr} {gens:List N9} {scope:Px} {eltc:CE} {cgs:List CG} (h:((j9 gens cgs).any fun vs=>sV c scope&&(tU (fS c scope vs).vars&&(tH (au Z.fname k) c (fS c scope vs) gens cgs&&au Z.fname k (fS c scope vs) elt eltc)))=true):
  ∃vs,pj Z k c elt gens scope eltc cgs vs:=let ⟨vs,h1,h2⟩:=bR h;let h3:=ac h2;let h4:=ac h3.2;let h5:=ac h4.2;⟨vs,h1,tQ h3.1,og h4.1,h5.1,h5.2⟩
structure AZ (Z:Wd) (env:Env) (c:Ctx) (ρ:Loc) (CA:List Addr) (σ':ag) (D:Addr→Prop) (us:List V) (g h':Heap) (a C:Addr):Prop where
 keep:aw (We CA) g h'
 st:St Z env c.vars ρ CA σ' (DC D C) h'
 na:dM Z g h' a
 nC:dM Z g h' C
 ne:a≠C
 cont:gG Z (DC (DC D C) a) h' a (.lst us)
 cells:aE Z CA σ' (DC (DC D C) a) h'
 ns:∃m,h'.Ns C m
theorem rK (O:Wd.Ok Z p loose mg mb) (SE:bK Z n E) (SB:gX Z n E) {elt:Expr} {gens:List N9} {scope:Px} {pos pos':Pos} {eltc:CE} {cgs:List CG} {q:List V×ag} {vs:eE} (K:pj Z k c elt gens scope eltc cgs vs)
  (EO:az env c) (S:St Z env c.vars ρ CA σ D s.heap) (R:aN n A) (ev:dZ E eltc cgs ρ σ=some q) (hz:q.1.length≤16777216) {use:Nr (Nv→Sem Unit)} {Q:Nv→Nx→Prop}
  (h:∀a C h' tk,AZ Z env c ρ CA q.2 D q.1 s.heap h' a C→
   match use with
   |none=>∀h'',Pn C h' h''→Q (.ref a) {s with heap:=h'',toks:=tk}
   |some u=>NH (model Z.prog Z.w) A (u (.ref a)) (fun _ s''=>∃m,s''.heap.Ns C m∧∀h'',Pn C s''.heap h''→Q .none {s'' with heap:=h''}) X {s with heap:=h',toks:=tk}):
  NH (model Z.prog Z.w) A (comprehension (.ListComp elt gens scope pos) scope env pos' (newList []) (firstAsync gens) (firstIter gens env) use) Q X s:=by
 refine Np fun nG=> ?_
 obtain ⟨hv,so,hvo,h1s,he⟩:=K
 obtain ⟨g,gs,rfl,h1s⟩:=cV (us:=gens) h1s
 obtain ⟨cg,cgs,rfl,h1s⟩:=cV (us:=cgs) h1s
 obtain ⟨t,it,ifs⟩:=cg
 obtain ⟨tt,ii,ff,aa⟩:=g
 have hc1:=ac (ac h1s).1
 have hc2:=ac hc1.2
 have hc3:=ac hc2.2
 have hc4:=ac hc3.2
 have hc5:=ac hc4.2
 have h0:aa=0:=NE hc1.1
 subst h0
 obtain ⟨cl,hcl,cl1,cl2⟩:=nF (scope:=scope) (env:=env) fun x m z=>S.pcel x.1 (by unfold PT;rw [EO.sc];exact so.free x m z)
 refine nG ?_
 refine af ev fun r e1 ev=> ?_
 refine wpAny_comprehension_free (cl:=cl) rfl (fun x=>iZ hc4.1) hcl so.kind so.loc (pi O SE hc5.1 EO S R e1 _ X fun I J h1' t1 k1 c1 nI nJ IT=> ?_)
 refine UU (wpAny_newFunctionEnv so.cell (by intro y hy;simp at hy) (fun h₁ hns₁ hsb₁=> ?_) so.kind) (by size_fits)
 dsimp only at hns₁ hsb₁ ⊢
 generalize ha:h1'.objs.size=a at hns₁ hsb₁ ⊢
 generalize hH2:h1'.push {cls:= .type "list",dict:=none,data:= .seq ([]:List Nv).toArray}=H2 at hns₁ hsb₁ ⊢
 generalize hC:H2.objs.size=C at hns₁ hsb₁ ⊢
 have hCa:C=a+1:=by rw [←hC,←hH2,Rk,ha]
 have aC:a≠C:=by rw [hCa];exact (SW _).symm
 have g12:bM h1' h₁:=fun b o e=>hsb₁.extBut b o (fun z=>by rw [z,hCa,←ha] at e;exact absurd (N7 e) (PD.mpr (NZ _))) (NV _ (hH2▸NV _ e))
 have hacc:h₁.PlainList a #[]:=⟨_,hsb₁.extBut _ _ aC (NV _ (by rw [←ha];exact hH2▸Oa _ rfl))⟩
 have ge_a:h1'.objs.size≤a:=by rw [ha];exact NI _
 have ge_C:h1'.objs.size≤C:=by rw [hCa,←ha];exact NZ _
 have c1':aE Z CA r.2 D h1':=c1.shift (fun b _ _ d=> .inl d) S.cells.inD
 have na:dM Z s.heap h₁ a:= .of S.toGd k1 c1' ge_a ⟨_,hacc.choose_spec⟩
 have nC:dM Z s.heap h₁ C:= .of S.toGd k1 c1' ge_C (let ⟨o,_,_,e,_⟩:=hns₁;⟨o,e⟩)
 have lt:∀{b x},dM Z s.heap h1' b→h1'.objs.size≤x→b≠x:=fun n l z=>let ⟨o,e⟩:=n.live;absurd (N7 e) (PD.mpr (z▸l))
 have up:∀b o,¬DI D I J b→h1'.get? b=some o→¬DI (DI D a C) I J b∧h₁.get? b=some o:=fun b o q e=>
  ⟨fun z=>z.elim (fun z=>z.elim (fun w=>q (.inl w)) fun z=>z.elim (fun z=>ar (gq ge_a) (z▸e)) fun z=>ar (gq ge_C) (z▸e)) fun z=>q (.inr z),g12 b o e⟩
 have c2:aE Z CA r.2 (DI (DI D a C) I J) h₁:=⟨c1.len,c1.nodup,fun i b u e e'=>(c1.at_ i b u e e').mono (fun o x=>g12 b o x) up,fun b m=> .inl (.inl (S.cells.inD b m))⟩
 have k2:aw (We CA) s.heap h₁:=k1.trans (aw.of_all g12)
 have nI2:dM Z s.heap h₁ I:=⟨nI.none,nI.base,let ⟨o,e⟩:=nI.live;⟨o,g12 _ _ e⟩⟩
 have nJ2:dM Z s.heap h₁ J:=⟨nJ.none,nJ.base,let ⟨o,e⟩:=nJ.live;⟨o,g12 _ _ e⟩⟩
 have S2:St Z env c.vars ρ CA r.2 (DI (DI D a C) I J) h₁:=S.stepGrow k2 c2 (fun b q=>q.elim (fun q=>q.imp id fun q=>q.elim (fun q=>q▸na) fun q=>q▸nC) fun q=> .inr (q.elim (fun q=>q▸nI2) fun q=>q▸nJ2)) fun b q=> .inl (.inl q)
 have nDa:=S.toGd.fresh_notD na.none
 have nDC:=S.toGd.fresh_notD nC.none
 have S3:=S2.enter EO so (C:=C) ⟨_,hns₁⟩ (.inl (.inr (.inr rfl))) (fun m=>nDC (S.cells.inD _ m)) cl1 cl2 hv
 have EO3:az (compEnvC scope cl C env) (fS c scope vs):=⟨lS EO,so.kind,EO.glb,EO.blt,hvo⟩
 have G:pZ Z (compEnvC scope cl C env) CA (DI D a C) I J a:=⟨fun z=>z.elim (S.toGd.fresh_notD nI.none) fun z=>z.elim (lt nI ge_a) (lt nI ge_C),fun z=>z.elim (S.toGd.fresh_notD nJ.none) fun z=>z.elim (lt nJ ge_a) (lt nJ ge_C),.inr (.inl rfl),.inr (.inr rfl),
  fun x q l=> .inl (S.pc x q (cl2 x q l)).1,fun b m=> .inl (S.cells.inD b m),.inl S.low⟩
 have EM:=EB (CA:=CA) (A:=A) (acc:=a) (pos:=pos) (scope:=scope) (gens:=⟨tt,ii,ff,0⟩::gs) O SE SB EO3 R he gs cgs 1 rfl (ac h1s).2
 have IT3:=IT.mono (fun o e=>g12 _ o e) (fun o e=>g12 _ o e) up
 refine kX (g:=⟨tt,ii,ff,0⟩) (s:={s with heap:=h₁,toks:=_}) rfl rfl (fun Q X hq=>rf (s:={s with heap:=h₁,toks:=_}) IT3 hq) ?_
 refine pg (env:=compEnvC scope cl C env) (c:=fS c scope vs) (s:={s with heap:=h₁,toks:=_}) (D:=DI D a C) (us0:=[]) (q:=q) SB EO3 R EM rfl rfl hc2.1 (pU hc2.1 hc3.1) hc5.2 G (fun m=>nDa (S.cells.inD _ m))
  (fun j U e=>let h:=(jr.mp e).1;⟨fun m=>h (TL _ m),fun m=>h (Rr _ m)⟩) hz ⟨aw.refl,S3,⟨Oe _,#[],hacc,.nil⟩,IT3,ev,rfl,rfl⟩ fun h' tk k3 S4 C4=> ?_
 have k4:aw (We CA) s.heap h':=aw.fresh k2 k3 fun b w=>by
  rcases w with (rfl|w|rfl)|rfl|rfl
  ·exact .inr na.none
  ·exact .inl w
  ·exact .inr nC.none
  ·exact .inr nI.none
  ·exact .inr nJ.none
 have nC4:dM Z s.heap h' C:=⟨nC.none,nC.base,let ⟨_,o,_,_,e,_⟩:=S4.ns;⟨o,e⟩⟩
 have sw:∀b,DC (DC D C) a b→DI D a C b:=fun b z=>z.elim (fun z=>z.imp id .inr) fun z=> .inr (.inl z)
 have fin:=h a C h' tk ⟨k4,S.stepGrow k4 (S4.cells.shift (fun b o e q=>q.imp id .inr) fun b m=> .inl (S.cells.inD b m)) (fun b q=>q.imp id fun (z:b=C)=>z▸nC4) fun b q=> .inl q,⟨na.none,na.base,C4.live⟩,nC4,aC,
  C4.mono (fun o e=>e) fun b o q e=>⟨fun z=>q (sw b z),e⟩,S4.cells.shift (fun b o e q=>sw b q) fun b m=> .inl (.inl (S.cells.inD b m)),S4.ns⟩
 cases use with
 |none=>exact let ⟨m,hm⟩:=S4.ns;⟨m,hm,fin⟩
 |some u=>exact fin
theorem wL (O:Wd.Ok Z p loose mg mb) (SE:bK Z n E) (SB:gX Z n E) {elt:Expr} {gens:List N9} {scope:Px} {pos:Pos} {eltc:CE} {cgs:List CG} {vs:eE} {q:List V×ag} (K:pj Z k c elt gens scope eltc cgs vs)
  (EO:az env c) (S:St Z env c.vars ρ CA σ D s.heap) (R:aN n A) (ev:dZ E eltc cgs ρ σ=some q) (hz:q.1.length≤16777216):eI Z A CA D q.2 (.own (.lst q.1)) (eval (.ListComp elt gens scope pos) env) s:=by
 intro Q X h
 rw [eval_ListComp]
 refine rK O SE SB K EO S R ev hz (use:=none) fun a C h' tk L=>fun h'' hs=> ?_
 have nDC:=S.toGd.fresh_notD L.nC.none
 have at1:∀(i:Nat) (b:Addr),CA[i]? =some b→∀o,h'.get? b=some o→h''.get? b=some o:=fun i b e o x=>hs.extBut b o (fun (z:b=C)=>nDC (z▸S.cells.inD b (NN e))) x
 have sub:∀b o,¬DC (DC D C) a b→h'.get? b=some o→¬DC D a b∧h''.get? b=some o:=fun b o q e=>⟨fun z=>q (z.imp .inl id),hs.extBut b o (fun z=>q (.inl (.inr z))) e⟩
 refine h (.ref a) h'' tk (L.keep.fresh (aw.sameBut hs rfl (W:=fun b=>b=C)) fun b w=> .inr (w▸L.nC.none)) ?_ ⟨a,rfl,L.na.none,L.na.base,L.cont.mono (fun o e=>hs.extBut _ o L.ne e) sub,L.cells.len,L.cells.nodup,fun i b u e e'=>(L.cells.at_ i b u e e').mono (at1 i b e) sub,fun b m=> .inl (S.cells.inD b m)⟩
 exact ⟨L.cells.len,L.cells.nodup,fun i b u e e'=>(L.st.cells.at_ i b u e e').mono (at1 i b e) fun b o q e=>⟨fun z=>q (.inl z),hs.extBut b o (fun z=>q (.inr z)) e⟩,fun b m=>S.cells.inD b m⟩
end
section
variable {Z:Wd} {n:Nat} {E:Ev} {p:Ob} {loose:List Str} {mg mb:Str→Nr Nv}
abbrev JR (Z:Wd) (A:Od) (CA:List Addr) (D:Addr→Prop) (env:Env) (s:Nx) (e:Expr) (q:aA×ag):Prop:=eI Z A CA D q.2 q.1 (eval e env) s∧wT Z A CA D q.2 q.1 e env s
theorem jR {A:Od} {CA:List Addr} {D:Addr→Prop} {q:aA×ag} {env:Env} {s:Nx} {e:Expr} (h:eI Z A CA D q.2 q.1 (eval e env) s) (he:isTrue e env (eval e env)=(do let v←eval e env;standAt e.pos;holding [v] (truthy v))):
  JR Z A CA D env s e q:=⟨h,h.tr he⟩
end
section
variable {fn:Nat→Nr Str} {k:Nat} {c:Ctx} {e:Expr} {ce ce' cd:CE} {cs:List CE}
theorem Jg {P:Prop} {f:gV} (h:au fn (k+1) c e (.attr ce f)=true) (K:∀a p,e= .Attribute a (fs f) p→dQ a=true→au fn k c a ce=true→P):P:=by
 refine ax h fun q h1 h2=> ?_
 have a:=ac h2
 exact K q.1 q.2.2 (by rw [lm h1,NE a.1]) ((ac a.2).1) ((ac a.2).2)
theorem Kw {P:Prop} (h:au fn (k+1) c e (.idx ce ce')=true) (K:∀a b p,e= .Subscript a b p→jd b=true→au fn k c a ce=true→au fn k c b ce'=true→P):P:=by
 refine ax h fun q h1 h2=> ?_
 obtain ⟨p,e1⟩:=kq h1
 have a:=ac h2
 exact K q.1 q.2 p e1 a.1 ((ac a.2).1) ((ac a.2).2)
theorem Kx {P:Prop} {lo hi:Nr CE} (h:au fn (k+1) c e (.slc ce lo hi)=true) (K:∀a l u p1 p,e= .Subscript a (.Slice l u none p1) p→au fn k c a ce=true→xE (au fn k c) l lo=true→xE (au fn k c) u hi=true→P):P:=by
 refine ax h fun q h1 h2=> ?_
 obtain ⟨p,e1⟩:=kq h1
 have a:=ac h2
 refine ax a.2 fun r h3 h4=> ?_
 obtain ⟨p1,e2⟩:=sv h3
 have b:=ac h4
 exact K q.1 r.1 r.2.1 p1 p (by rw [e1,e2,OI.mp b.1]) a.1 ((ac b.2).1) ((ac b.2).2)
theorem JC {P:Prop} (h:au fn (k+1) c e (.rev ce)=true) (K:∀a kk q1 q2 p1 p,e= .Subscript a (.Slice none none (some (.UnaryOp .USub (.Constant (.int 1) kk q1) q2)) p1) p→au fn k c a ce=true→P):P:=by
 refine ax h fun q h1 h2=> ?_
 obtain ⟨p,e1⟩:=kq h1
 have a:=ac h2
 refine ax a.2 fun r h3 h4=> ?_
 obtain ⟨p1,e2⟩:=sv h3
 have b:=ac h4
 have d:=ac b.2
 refine ax d.2 fun x e3 h5=> ?_
 obtain ⟨kk,q1,q2,e4⟩:=mZ h5
 exact K q.1 kk q1 q2 p1 p (by rw [e1,e2,OI.mp b.1,OI.mp d.1,e3,e4]) a.1
theorem Ju {P:Prop} {o:FM} (h:au fn (k+1) c e (.bin o ce ce')=true) (K:∀a b p,e= .BinOp a (ES o) b p→au fn k c a ce=true→au fn k c b ce'=true→P):P:=by
 refine ax h fun q h1 h2=> ?_
 obtain ⟨p,e1⟩:=zx h1
 have a:=ac h2
 exact K q.1 q.2.2 p (by rw [e1,ND a.1]) ((ac a.2).1) ((ac a.2).2)
theorem Gk {P:Prop} {o:uQ} (h:au fn (k+1) c e (.cmp ce o ce')=true) (K:∀a b p,e= .Compare a [eD o] [b] p→au fn k c a ce=true→fh b=true→au fn k c b ce'=true→P):P:=by
 refine ax h fun q h1 h2=> ?_
 obtain ⟨p,e1⟩:=sy h1
 have a:=ac h2
 have b:=ac a.2
 refine ib b.2 fun r e2 h3=> ?_
 exact K q.1 r p (by rw [e1,ND a.1,e2]) b.1 ((ac h3).1) ((ac h3).2)
theorem H7 {P:Prop} {o o':uQ} (h:au fn (k+1) c e (.cmp2 ce o ce' o' cd)=true) (K:∀a b d p,e= .Compare a [eD o,eD o'] [b,d] p→au fn k c a ce=true→fh b=true→fh d=true→au fn k c b ce'=true→au fn k c d cd=true→P):P:=by
 refine ax h fun q h1 h2=> ?_
 obtain ⟨p,e1⟩:=sy h1
 have a:=ac h2
 have b:=ac a.2
 obtain ⟨r,r',e2,h3⟩:=mr b.2
 have d:=ac h3
 exact K q.1 r r' p (by rw [e1,ND a.1,e2]) b.1 d.1 ((ac d.2).1) ((ac (ac d.2).2).1) ((ac (ac d.2).2).2)
theorem Bb {P:Prop} {o:BoolOp} (h:(tn e).any (fun q=>decide (q.1=o)&&d7 (au fn k c) q.2 cs)=true) (K:∀es p,e= .BoolOp o es p→d7 (au fn k c) es cs=true→P):P:=by
 refine ax h fun q h1 h2=> ?_
 obtain ⟨p,e1⟩:=xA h1
 have a:=ac h2
 exact K q.2 p (by rw [e1,ND a.1]) a.2
theorem KN {P:Prop} (h:au fn (k+1) c e (.not ce)=true) (K:∀a p,e= .UnaryOp .Not a p→au fn k c a ce=true→P):P:=by
 refine ax h fun q h1 h2=> ?_
 obtain ⟨p,e1⟩:=uT h1
 have a:=ac h2
 exact K q.2 p (by rw [e1,ND a.1]) a.2
theorem K0 {P:Prop} (h:au fn (k+1) c e (.ite ce ce' cd)=true) (K:∀a b d p,e= .IfExp a b d p→au fn k c a ce=true→au fn k c b ce'=true→au fn k c d cd=true→P):P:=by
 refine ax h fun q h1 h2=> ?_
 obtain ⟨p,e1⟩:=Ax h1
 have a:=ac h2
 exact K q.1 q.2.1 q.2.2 p e1 a.1 ((ac a.2).1) ((ac a.2).2)
theorem Fa {P:Prop} {i:Nat} (h:au fn (k+1) c e (.callF i cs)=true) (K:∀f np es p,e= .Call (.Name f np) es [] p→eX c f=true→fn i=some f→d7 (au fn k c) es cs=true→P):P:=by
 refine ax h fun q h1 h2=> ?_
 obtain ⟨np,p,e1⟩:=cU h1
 have a:=ac h2
 have b:=ac a.2
 exact K q.1 np q.2 p e1 a.1 (NE b.1) b.2
theorem yK {P:Prop} {x:Str} (h:(fT e).any (fun q=>eX c q.1&&(q.1==x&&d7 (au fn k c) q.2 cs))=true) (K:∀np es p,e= .Call (.Name x np) es [] p→eX c x=true→d7 (au fn k c) es cs=true→P):P:=by
 refine ax h fun q h1 h2=> ?_
 obtain ⟨np,p,e1⟩:=cU h1
 have a:=ac h2
 have b:=ac a.2
 have b1:=NE b.1
 exact K np q.2 p (by rw [e1,b1]) (b1▸a.1) b.2
theorem DU {P:Prop} {m:D7} (h:au fn (k+1) c e (.callM ce m)=true) (K:∀a ap p,e= .Call (.Attribute a (mn m) ap) [] [] p→(ap.endLine==p.line)=true→dQ a=true→au fn k c a ce=true→P):P:=by
 refine ax h fun q h1 h2=> ?_
 obtain ⟨ap,p,e1,hl⟩:=iR h1
 have a:=ac h2
 have b:=ac a.2
 have d:=ac b.2
 exact K q.1 ap p (by rw [e1,NE a.1,aF d.1]) hl b.1 d.2
theorem Ej {P:Prop} {m:Mf} (h:au fn (k+1) c e (.callS m ce cs)=true) (K:∀a ap es p,e= .Call (.Attribute a (Jl m) ap) es [] p→(ap.endLine==p.line)=true→dQ a=true→es.length <20→au fn k c a ce=true→d7 (au fn k c) es cs=true→P):P:=by
 refine ax h fun q h1 h2=> ?_
 obtain ⟨ap,p,e1,hl⟩:=iR h1
 have a:=ac h2
 have b:=ac a.2
 have d:=ac b.2
 exact K q.1 ap q.2.2 p (by rw [e1,NE a.1]) hl b.1 (ND d.1) ((ac d.2).1) ((ac d.2).2)
end
section
variable {Z:Wd} {n:Nat} {E:Ev} {p:Ob} {loose:List Str} {mg mb:Str→Nr Nv}
set_option maxHeartbeats 1000000 in
theorem sf (O:Wd.Ok Z p loose mg mb) (M:wf Z) (SE:bK Z n E) (SB:gX Z n E) (SC:qb Z n E) {k:Nat} {c:Ctx} {e:Expr} {ce:CE} (hc:au Z.fname k c e ce=true) {env:Env} {A:Od} {s:Nx} {ρ:Loc} {σ:ag} {CA:List Addr} {D:Addr→Prop} {q:aA×ag}
  (EO:az env c) (S:St Z env c.vars ρ CA σ D s.heap) (R:aN n A) (ev:dT Z.P E ce ρ σ=some q):JR Z A CA D env s e q:=by
 refine Np fun nG=> ?_
 cases k with
 |zero=>cases hc
 |succ k=>
  cases ce with
  |cst u=>obtain ⟨kc,h1,h2⟩:=bR hc;obtain ⟨kk,pos,he⟩:=gS h1;exact nG (he▸Nq ev▸jR (JD (ND h2) S) rfl)
  |neg i=>obtain ⟨kk,p1,p2,he⟩:=mZ hc;exact nG (he▸Nq ev▸jR (J3 (he▸hc) S) rfl)
  |var i=>obtain ⟨x,h1,h2⟩:=bR hc;obtain ⟨pos,he⟩:=aY h1;exact am ev fun U e1 ev=>nG (he▸ev▸jR (Ll h2 EO S e1) rfl)
  |glob g=>
   refine ax hc fun x h1 h2=> ?_
   obtain ⟨pos,he⟩:=aY h1
   have a:=ac h2
   rw [NE a.2] at he a
   exact am ev fun t e1 ev=>nG (he▸ev▸jR (IM O a.1 EO S e1) rfl)
  |tup cs=>obtain ⟨es,h1,h2⟩:=bR hc;obtain ⟨kk,pos,he⟩:=kA h1;exact af ev fun r e1 ev=>aL ev fun hz ev=>nG (he▸Nq ev▸jR (JB SE h2 EO S R e1 (eC hz)) rfl)
  |lst cs=>obtain ⟨es,h1,h2⟩:=bR hc;obtain ⟨pos,he⟩:=zO h1;exact af ev fun r e1 ev=>aL ev fun hz ev=>nG (he▸Nq ev▸jR (Ko SE h2 EO S R e1 (eC hz)) rfl)
  |dct0=>
   refine ax hc fun q h1 h2=> ?_
   obtain ⟨pos,he⟩:=zb h1
   have a:=ac h2
   rw [aF a.1,aF a.2] at he
   exact nG (he▸Nq ev▸jR (Hr O S) rfl)
  |attr ce f=>exact Jg hc fun a pos he h1 h2=>af ev fun r e1 ev=>am ev fun w e2 ev=>nG (he▸ev▸jR (HU O SE h1 h2 EO S R e1 e2) rfl)
  |idx ce ci=>exact Kw hc fun a b pos he h1 h2 h3=>af ev fun r e1 ev=>am ev fun w e2 ev=>nG (he▸ev▸jR (Lh SE h1 h2 h3 EO S R e1 e2) rfl)
  |slc ce lo hi=>exact Kx hc fun a l u p1 pos he h1 h2 h3=>af ev fun r e1 ev=>af ev fun a e2 ev=>af ev fun b e3 ev=>am ev fun w e4 ev=>nG (he▸ev▸jR (Lc SE h1 h2 h3 EO S R e1 e2 e3 e4) rfl)
  |rev ce=>exact JC hc fun a kk q1 q2 p1 pos he h1=>af ev fun r e1 ev=>am ev fun us e2 ev=>nG (he▸ev▸jR (JU SE h1 EO S R e1 e2) rfl)
  |bin o a b=>exact Ju hc fun l r pos he h1 h2=>af ev fun r e1 ev=>am ev fun w e2 ev=>nG (he▸ev▸jR (Jq SE h1 h2 EO S R e1 e2) rfl)
  |cmp a o b=>exact Gk hc fun l r pos he h1 h2 h3=>af ev fun r e1 ev=>am ev fun w e2 ev=>nG (he▸ev▸KW SE h2 h1 h3 EO S R e1 e2)
  |cmp2 a o b o' d=>
   refine H7 hc fun l r r' pos he h1 h2 h3 h4 h5=> ?_
   refine af ev fun rr e1 ev=> ?_
   refine pB ev fun x y hq ev=> ?_
   refine af ev fun t e2 ev=> ?_
   cases t with
   |false=>exact nG (he▸Nq ev▸AM SE h3 h1 h4 h5 EO S R e1 hq e2 (.inl ⟨rfl,rfl,rfl⟩))
   |true=>exact af ev fun z e3 ev=>am ev fun w e4 ev=>nG (he▸ev▸AM SE h3 h1 h4 h5 EO S R e1 hq e2 (.inr ⟨rfl,z.1,e3,e4⟩))
  |and cs=>exact Bb hc fun es pos he h1=>am ev fun r e1 ev=>nG (he▸ev▸GE (t:=true) SE SB h1 EO S R e1)
  |or cs=>exact Bb hc fun es pos he h1=>am ev fun r e1 ev=>nG (he▸ev▸GE (t:=false) SE SB h1 EO S R e1)
  |not ce=>exact KN hc fun a pos he h1=>am ev fun r e1 ev=>nG (he▸ev▸JT SE SB h1 EO S R e1)
  |ite x y z=>exact K0 hc fun a b d pos he h1 h2 h3=>af ev fun r e1 ev=>nG (he▸Kn SE SB h1 h2 h3 EO S R e1 ev)
  |callF i cs=>exact Fa hc fun f np es pos he h1 h2 h3=>af ev fun r e1 ev=>af ev fun rr e2 ev=>am ev fun U e3 ev=>nG (he▸ev▸jR (Fy O SE SC h1 h2 h3 EO S R e1 e2 e3) rfl)
  |mk kc cs=>exact yK hc fun np es pos he h1 h2=>af ev fun r e1 ev=>am ev fun w e2 ev=>nG (he▸ev▸jR (Mz O M SE h1 h2 EO S R e1 e2) rfl)
  |callB b cs=>exact yK hc fun np es pos he h1 h2=>af ev fun r e1 ev=>am ev fun w e2 ev=>nG (he▸ev▸jR (FN O SE h1 h2 EO S R e1 e2) rfl)
  |callM ce m=>exact DU hc fun a ap pos he hl h1 h2=>af ev fun r e1 ev=>af ev fun pp e2 ev=>af ev fun i e3 ev=>af ev fun rr e4 ev=>am ev fun U e5 ev=>nG (he▸ev▸jR (Ee O SE SC h1 hl h2 EO S R e1 e2 e3 e4 e5) rfl)
  |callS m ce cs=>
   refine Ej hc fun a ap es pos he hl h1 h2 h3 h4=> ?_
   refine nG (he▸jR ?_ rfl)
   cases m with
   |append=>exact C9 O SE h1 hl h2 h3 h4 EO S R ev
   |pop=>exact KQ O SE h1 hl h2 h3 h4 EO S R ev
   |startswith=>exact oY O SE h1 hl h2 h3 h4 EO S R ev
   |split=>exact oY O SE h1 hl h2 h3 h4 EO S R ev
   |index=>exact oY O SE h1 hl h2 h3 h4 EO S R ev
   |get=>exact oY O SE h1 hl h2 h3 h4 EO S R ev
  |comp elt cgs=>
   refine ax hc fun q h1 h2=> ?_
   obtain ⟨pos,he⟩:=pC h1
   obtain ⟨vs,K⟩:=mV h2
   exact af ev fun r e1 ev=>aL ev fun hz ev=>nG (he▸Nq ev▸jR (wL O SE SB K EO S R e1 (eC hz)) rfl)
  |stuck=>cases ev
theorem zj (O:Wd.Ok Z p loose mg mb) (M:wf Z) (SE:bK Z n E) (SB:gX Z n E) (SC:qb Z n E):bK Z (n+1) (step Z.P E):=
 fun k c e ce hc env A s ρ σ CA D U σ' EO S R ev=>(sf O M SE SB SC (q:=(U,σ')) hc EO S (R.less (NZ _)) ev).1
theorem y7 (O:Wd.Ok Z p loose mg mb) (M:wf Z) (SE:bK Z n E) (SB:gX Z n E) (SC:qb Z n E):gX Z (n+1) (step Z.P E):=
 fun k c e ce hc env A s ρ σ CA D b σ' EO S R ev=>(sf O M SE SB SC (q:=(_,σ')) hc EO S (R.less (NZ _)) ev).2 b rfl
end
noncomputable def mO (e:Stmt):Nr (List Expr×Expr×Pos):=if h:e.ctorIdx=5 then some (SY (motive_2:=fun _=>List Expr×Expr×Pos) e h fun ts v p=>(ts,v,p)) else none
theorem sx {e:Stmt} {q:List Expr×Expr×Pos} (h:mO e=some q):e=Vs q.1 q.2.1 q.2.2:=
 let ⟨k,h⟩:=aM h
 SY (motive_2:=fun e=>∀k:e.ctorIdx=5,(SY (motive_2:=fun _=>List Expr×Expr×Pos) e k fun ts v p=>(ts,v,p))=q→e=Vs q.1 q.2.1 q.2.2) e k (fun ts v p _ h=>NC (fun q:List Expr×Expr×Pos=>Vs q.1 q.2.1 q.2.2) (h:(ts,v,p)=q)) k h
noncomputable def wj (e:Stmt):Nr (Expr):=if h:e.ctorIdx=24 then some (TM (motive_2:=fun _=>Expr) e h fun v _=>v) else none
theorem lP {e:Stmt} {q:Expr} (h:wj e=some q):∃p,e=Wf q p:=
 let ⟨k,h⟩:=aM h
 TM (motive_2:=fun e=>∀k:e.ctorIdx=24,(TM (motive_2:=fun _=>Expr) e k fun v _=>v)=q→∃p,e=Wf q p) e k (fun v p _ h=>⟨p,NC (fun q:Expr=>Wf q p) (h:v=q)⟩) k h
noncomputable def Gl (e:Stmt):Nr (Nr Expr):=if h:e.ctorIdx=3 then some (SZ (motive_2:=fun _=>Nr Expr) e h fun v _=>v) else none
theorem zr {e:Stmt} {q:Nr Expr} (h:Gl e=some q):∃p,e=Vt q p:=
 let ⟨k,h⟩:=aM h
 SZ (motive_2:=fun e=>∀k:e.ctorIdx=3,(SZ (motive_2:=fun _=>Nr Expr) e k fun v _=>v)=q→∃p,e=Vt q p) e k (fun v p _ h=>⟨p,NC (fun q:Nr Expr=>Vt q p) (h:v=q)⟩) k h
noncomputable def yv (e:Stmt):Nr (Expr×List Stmt×List Stmt):=if h:e.ctorIdx=12 then some (UV (motive_2:=fun _=>Expr×List Stmt×List Stmt) e h fun t a b _=>(t,a,b)) else none
theorem Ae {e:Stmt} {q:Expr×List Stmt×List Stmt} (h:yv e=some q):∃p,e=Wi q.1 q.2.1 q.2.2 p:=
 let ⟨k,h⟩:=aM h
 UV (motive_2:=fun e=>∀k:e.ctorIdx=12,(UV (motive_2:=fun _=>Expr×List Stmt×List Stmt) e k fun t a b _=>(t,a,b))=q→∃p,e=Wi q.1 q.2.1 q.2.2 p) e k (fun t a b p _ h=>⟨p,NC (fun q:Expr×List Stmt×List Stmt=>Wi q.1 q.2.1 q.2.2 p) (h:(t,a,b)=q)⟩) k h
noncomputable def xL (e:Stmt):Nr (Expr×Expr×List Stmt×List Stmt):=if h:e.ctorIdx=9 then some (Ui (motive_2:=fun _=>Expr×Expr×List Stmt×List Stmt) e h fun t i a b _=>(t,i,a,b)) else none
theorem yV {e:Stmt} {q:Expr×Expr×List Stmt×List Stmt} (h:xL e=some q):∃p,e=Wg q.1 q.2.1 q.2.2.1 q.2.2.2 p:=
 let ⟨k,h⟩:=aM h
 Ui (motive_2:=fun e=>∀k:e.ctorIdx=9,(Ui (motive_2:=fun _=>Expr×Expr×List Stmt×List Stmt) e k fun t i a b _=>(t,i,a,b))=q→∃p,e=Wg q.1 q.2.1 q.2.2.1 q.2.2.2 p) e k (fun t i a b p _ h=>⟨p,NC (fun q:Expr×Expr×List Stmt×List Stmt=>Wg q.1 q.2.1 q.2.2.1 q.2.2.2 p) (h:(t,i,a,b)=q)⟩) k h
noncomputable def yI (e:Stmt):Nr (Expr×List Stmt×List Stmt):=if h:e.ctorIdx=11 then some (Tr (motive_2:=fun _=>Expr×List Stmt×List Stmt) e h fun t a b _=>(t,a,b)) else none
theorem uF {e:Stmt} {q:Expr×List Stmt×List Stmt} (h:yI e=some q):∃p,e=VW q.1 q.2.1 q.2.2 p:=
 let ⟨k,h⟩:=aM h
 Tr (motive_2:=fun e=>∀k:e.ctorIdx=11,(Tr (motive_2:=fun _=>Expr×List Stmt×List Stmt) e k fun t a b _=>(t,a,b))=q→∃p,e=VW q.1 q.2.1 q.2.2 p) e k (fun t a b p _ h=>⟨p,NC (fun q:Expr×List Stmt×List Stmt=>VW q.1 q.2.1 q.2.2 p) (h:(t,a,b)=q)⟩) k h
noncomputable def CF (e:Stmt):Nr (Unit):=if h:e.ctorIdx=27 then some (Sc (motive_2:=fun _=>Unit) e h fun _=>()) else none
theorem xh {e:Stmt} {q:Unit} (h:CF e=some q):∃p,e=Uj p:=
 let ⟨k,h⟩:=aM h
 Sc (motive_2:=fun e=>∀k:e.ctorIdx=27,(Sc (motive_2:=fun _=>Unit) e k fun _=>())=q→∃p,e=Uj p) e k (fun p _ h=>⟨p,NC (fun q:Unit=>Uj p) (h:()=q)⟩) k h
noncomputable def GG (e:Stmt):Nr (List Stmt×List ExceptHandler×List Stmt×List Stmt):=if h:e.ctorIdx=17 then some (Uk (motive_2:=fun _=>List Stmt×List ExceptHandler×List Stmt×List Stmt) e h fun b hs o f _=>(b,hs,o,f)) else none
theorem z4 {e:Stmt} {q:List Stmt×List ExceptHandler×List Stmt×List Stmt} (h:GG e=some q):∃p,e=Wh q.1 q.2.1 q.2.2.1 q.2.2.2 p:=
 let ⟨k,h⟩:=aM h
 Uk (motive_2:=fun e=>∀k:e.ctorIdx=17,(Uk (motive_2:=fun _=>List Stmt×List ExceptHandler×List Stmt×List Stmt) e k fun b hs o f _=>(b,hs,o,f))=q→∃p,e=Wh q.1 q.2.1 q.2.2.1 q.2.2.2 p) e k (fun b hs o f p _ h=>⟨p,NC (fun q:List Stmt×List ExceptHandler×List Stmt×List Stmt=>Wh q.1 q.2.1 q.2.2.1 q.2.2.2 p) (h:(b,hs,o,f)=q)⟩) k h
noncomputable def I3:ExceptHandler→Nr (Str×List Stmt)
 | .ExceptHandler t x b _=>if x.isNone then t.bind fun t=>(cA t).map fun x=>(x,b) else none
theorem Av {e:ExceptHandler} {q:Str×List Stmt} (h:I3 e=some q):∃np p,e= .ExceptHandler (some (.Name q.1 np)) none q.2 p:=by
 obtain ⟨t,x,b,p⟩:=e
 refine aL h fun h1 h2=> ?_
 cases x with
 |some _=>cases h1
 |none=>
  obtain ⟨t,rfl,h3⟩:=Py.mp h2
  obtain ⟨y,h4,rfl⟩:=map_some h3
  obtain ⟨np,rfl⟩:=aY h4
  exact ⟨np,p,rfl⟩
noncomputable def ub:Str:="OperandError"
noncomputable def wg (e:Expr):Bool:=e.ctorIdx !=25
noncomputable def cH (c:Ctx) (x:Str) (i:Nat):Bool:=c.vars.contains (x,i)&&(c.sc.names.lookup x==some .local||c.sc.names.lookup x==some .cell)
noncomputable def xc (e:Expr):Nr (Str×Str):=(vC e).bind fun ts=>two ts fun a b=>(cA a).bind fun x=>(cA b).map fun y=>(x,y)
noncomputable def bG (f:Stmt→CS→Bool) (es:List Stmt) (cs:List CS):Bool:=List.rec (motive:=fun _=>List CS→Bool) List.isEmpty (fun e _ ih cs=>jQ cs fun c cs=>f e c&&ih cs) es cs
noncomputable def xQ (c:Ctx) (f:Expr→CE→Bool) (ct ci:Expr) (t:kT) (it:It):Bool:=jT c ct t false&&(BK t it&&(fh ci&&Hg f c ci it))
noncomputable def cy (fnm:Nat→Nr Str) (m:Nat) (c:Ctx):Nat→Stmt→CS→Bool
 |0,_,_=>false
 |n+1,st,cs=>match cs with
  | .assign i e=>(mO st).any fun q=>kM q.1 fun t=>(cA t).any fun x=>cH c x i&&((e.comp?.isSome||eR q.2.1)&&au fnm m c q.2.1 e)
  | .own i e=>(mO st).any fun q=>kM q.1 fun t=>(cA t).any fun x=>cH c x i&&((e.comp?.isSome||eR q.2.1)&&au fnm m c q.2.1 e)
  | .assignT ts es=>(mO st).any fun q=>kM q.1 fun t=>(xc t).any fun xy=>(vC q.2.1).any fun vs=>At ts fun i j=> !(vs.all (constantsAlone 8))&&(vs.length==2&&(cH c xy.1 i.1&&(cH c xy.2 j.1&&(xy.1 !=xy.2&&d7 (au fnm m c) vs es))))
  | .unpack ts e=>(mO st).any fun q=>kM q.1 fun t=>(xc t).any fun xy=>At ts fun i j=>cH c xy.1 i&&(cH c xy.2 j&&(xy.1 !=xy.2&&(eR q.2.1&&(wg q.2.1&&au fnm m c q.2.1 e))))
  | .setIdx x i e=>(mO st).any fun q=>kM q.1 fun t=>(uK t).any fun r=>jd r.2&&(au fnm m c r.1 x&&(au fnm m c r.2 i&&au fnm m c q.2.1 e))
  | .expr e=>(wj st).any fun v=>eR v&&au fnm m c v e
  | .ret e=>(Gl st).any fun v=>v.any fun v=>au fnm m c v e
  | .ite t a b=>(yv st).any fun q=>au fnm m c q.1 t&&(bG (cy fnm m c n) q.2.1 a&&bG (cy fnm m c n) q.2.2 b)
  | .for_ t it body=>(xL st).any fun q=>q.2.2.2.isEmpty&&(xQ c (au fnm m c) q.1 q.2.1 t it&&bG (cy fnm m c n) q.2.2.1 body)
  | .while_ t body=>(yI st).any fun q=>q.2.2.isEmpty&&(au fnm m c q.1 t&&bG (cy fnm m c n) q.2.1 body)
  | .cont=>(CF st).isSome
  | .raise_=>st.ctorIdx==16
  | .try_ a b=>(GG st).any fun q=>q.2.2.1.isEmpty&&(q.2.2.2.isEmpty&&(bG (cy fnm m c n) q.1 a&&kM q.2.1 fun hd=>(I3 hd).any fun r=>r.1==ub&&(eX c ub&&bG (cy fnm m c n) r.2 b)))
structure lV (Z:Wd) (h h':Heap) (CA CA':List Addr) (D D':Addr→Prop):Prop where
 pre:CA<+:CA'
 sub:∀b,D b→D' b
 sup:∀b,D' b→D b∨(b∈CA'∧dM Z h h' b)
 new:∀b∈CA',b∈CA∨dM Z h h' b
noncomputable def lT (Z:Wd) (g:Heap) (CA:List Addr) (σ:ag) (D:Addr→Prop) (h:Heap) (f:Flow):fc→Prop
 | .next=>f= .next
 | .cont=>f= .cont
 | .ret U=>∃v,f= .ret v∧iH Z g CA σ D h v U
 | .exc=>RA
structure cr (Z:Wd) (W:Addr→Prop) (env:Env) (vars:eE) (CA:List Addr) (D:Addr→Prop) (g:Heap) (r:fc×Loc×ag) (f:Flow) (h':Heap) (CA':List Addr) (D':Addr→Prop):Prop where
 keep:aw W g h'
 ext:lV Z g h' CA CA' D D'
 st:St Z env vars r.2.1 CA' r.2.2 D' h'
 flow:lT Z g CA' r.2.2 D' h' f r.1
noncomputable def lU (Z:Wd) (A:Od) (env:Env) (vars:eE) (CA:List Addr) (D:Addr→Prop) (r:fc×Loc×ag) (t:Sem Flow) (s:Nx):Prop:=
 ∀(Q:Flow→Nx→Prop) (X:Nv→Nx→Prop),(∀f h' tk CA' D',cr Z (Ws env CA) env vars CA D s.heap r f h' CA' D'→Q f {s with heap:=h',toks:=tk})→
  NH (model Z.prog Z.w) A t Q X s
noncomputable def fc.ok:fc→Bool
 | .exc=>false
 |_=>true
noncomputable def jf (Z:Wd) (n:Nat) (E:Ev):Prop:=∀(k m:Nat) (c:Ctx) (st:Stmt) (cs:CS),cy Z.fname m c k st cs=true→∀(env:Env) (A:Od) (s:Nx) (ρ:Loc) (σ:ag) (CA:List Addr) (D:Addr→Prop) (r:fc×Loc×ag),
 az env c→St Z env c.vars ρ CA σ D s.heap→aN n A→E.s cs ρ σ=some r→r.1.ok=true→lU Z A env c.vars CA D r (exec st env) s
section
variable {Z:Wd} {env:Env} {vars:eE} {ρ ρ' ρ'':Loc} {CA CA1 CA2:List Addr} {σ σ1 σ2:ag} {D D1 D2:Addr→Prop} {g h h1 h2:Heap} {W W':Addr→Prop} {r r':fc×Loc×ag} {f f':Flow}
theorem lV.refl (S:∀a∈CA,D a):lV Z h h1 CA CA D D:=⟨⟨[],NQ _⟩,fun _ d=>d,fun _ d=> .inl d,fun _ m=> .inl m⟩
theorem St.wsLive (S:St Z env vars ρ CA1 σ D h) (p:∀a∈CA,a∈CA1) {a:Addr} (w:Ws env CA a):∃o,h.get? a=some o:=by
 rcases w with w|rfl|⟨x,_,l⟩
 ·exact S.cells.live (p a w)
 ·obtain ⟨_,o,_,_,e,_⟩:=S.ns;exact ⟨o,e⟩
 ·obtain ⟨_,_,o,e,_⟩:=S.pc x a l;exact ⟨o,e⟩
theorem aw.alive (k:aw W h h1) (l:∀a,W a→∃o,h1.get? a=some o) {a:Addr} (n:h1.get? a=none):h.get? a=none:=by
 cases e:h.get? a with
 |none=>rfl
 |some o=>exact (ar n (k a o e fun w=>let ⟨_,e'⟩:=l a w;ar n e')).elim
theorem lV.mem (x:lV Z h h1 CA CA1 D D1):∀a∈CA,a∈CA1:=fun a m=>x.pre.subset m
theorem dM.to {a:Addr} (n:dM Z h h1 a) (l:∃o,h2.get? a=some o):dM Z h h2 a:=⟨n.none,n.base,l⟩
theorem dM.from {a:Addr} (n:dM Z h1 h2 a) (al:h1.get? a=Sl→h.get? a=Sl):dM Z h h2 a:=⟨al n.none,n.base,n.live⟩
theorem lV.at (x:lV Z h h1 CA CA1 D D1) (l:∀a∈CA1,∃o,h2.get? a=some o):lV Z h h2 CA CA1 D D1:=⟨x.pre,x.sub,fun b d=>(x.sup b d).imp id fun z=>⟨z.1,z.2.to (l b z.1)⟩,fun b m=>(x.new b m).imp id fun n=>n.to (l b m)⟩
theorem lV.since (x:lV Z h1 h2 CA CA1 D D1) (al:∀a,h1.get? a=none→h.get? a=none):lV Z h h2 CA CA1 D D1:=⟨x.pre,x.sub,fun b d=>(x.sup b d).imp id fun z=>⟨z.1,z.2.from (al b)⟩,fun b m=>(x.new b m).imp id fun n=>n.from (al b)⟩
theorem lV.join (x:lV Z h h2 CA CA1 D D1) (y:lV Z h h2 CA1 CA2 D1 D2):lV Z h h2 CA CA2 D D2 where
 pre:=x.pre.trans y.pre
 sub:=fun b d=>y.sub b (x.sub b d)
 sup:=fun b d=>(y.sup b d).elim (fun d=>(x.sup b d).imp id fun z=>⟨y.pre.subset z.1,z.2⟩) .inr
 new:=fun b m=>(y.new b m).elim (x.new b) .inr
theorem lV.freshAt (x:lV Z h h1 CA CA1 D D1) (s:∀b,b∈CA→W b) {b:Addr} (w:Ws env CA1 b) (s':∀b,Wx env b→W b):W b∨h.get? b=none:=w.elim (fun w=>(x.new b w).imp (s b) fun n=>n.none) fun w=> .inl (s' b w)
theorem iH.back {v:Nv} {U:aA} (al:∀a,h1.get? a=none→h.get? a=none) (x:iH Z h1 CA2 σ2 D2 h2 v U):iH Z h CA2 σ2 D2 h2 v U:=by
 cases U with
 |v u=>exact x
 |cell k=>exact x
 |own u=>obtain ⟨a,e,n,r⟩:=x;exact ⟨a,e,al a n,r⟩
theorem lT.back {o:fc} (al:∀a,h1.get? a=none→h.get? a=none) (x:lT Z h1 CA2 σ2 D2 h2 f o):lT Z h CA2 σ2 D2 h2 f o:=by
 cases o with
 |next=>exact x
 |cont=>exact x
 |exc=>exact x
 |ret U=>obtain ⟨v,e,x⟩:=x;exact ⟨v,e,x.back al⟩
theorem cr.trans (a:cr Z W env vars CA D g r f h1 CA1 D1) (l:∀b,W b→∃o,h1.get? b=some o) (s:∀b,b∈CA→W b) (s':∀b,Wx env b→W b) (b:cr Z (Ws env CA1) env vars CA1 D1 h1 r' f' h2 CA2 D2):cr Z W env vars CA D g r' f' h2 CA2 D2:=
 have al:∀x,h1.get? x=none→g.get? x=none:=fun _ n=>a.keep.alive l n
 ⟨a.keep.fresh b.keep fun x w=>a.ext.freshAt s w s',(a.ext.at fun x m=>b.st.cells.live (b.ext.mem x m)).join (b.ext.since al),b.st,b.flow.back al⟩
theorem cr.seq (a:cr Z (Ws env CA) env vars CA D g r f h1 CA1 D1) (b:cr Z (Ws env CA1) env vars CA1 D1 h1 r' f' h2 CA2 D2):cr Z (Ws env CA) env vars CA D g r' f' h2 CA2 D2:=
 a.trans (fun _ w=>a.st.wsLive a.ext.mem w) (fun _ m=> .inl m) (fun _ w=> .inr w) b
theorem cr.of (S:St Z env vars ρ CA σ D h) (k:aw (We CA) h h1) (c:aE Z CA σ1 D h1) {o:fc} (F:lT Z h CA σ1 D h1 f o):cr Z (Ws env CA) env vars CA D h (o,ρ,σ1) f h1 CA D:=
 ⟨k.weaken fun _ w=> .inl w,lV.refl S.cells.inD,S.step k c,F⟩
theorem St.newCell (S:St Z env vars ρ CA σ D h) (k:aw (We CA) h h1) {a:Addr} {u:V} (n:dM Z h h1 a) (ct:gG Z D1 h1 a u) (c:aE Z CA σ1 D1 h1) (sub:∀b,D b→D1 b) (ha:D1 a) (sup:∀b,D1 b→D b∨dM Z h h1 b):
  St Z env vars ρ (CA++[a]) (σ1++[u]) D1 h1:=by
 have na:a∉CA:=fun m=>let ⟨_,e⟩:=S.cells.live m;ar n.none e
 have S1:St Z env vars ρ CA σ1 D1 h1:=S.stepGrow k c sup sub
 have mem:∀b∈CA++[a],b∈CA∨b=a:=fun b m=>(NG.mp m).imp id N3.mp
 refine ⟨⟨S1.base,S1.dabove,S1.low,S1.live,?_⟩,S1.ns,S1.nsD,?_,S1.pc,S1.pinj,S1.pcel,fun x i m U e=>let ⟨v,sl,r⟩:=S1.vars x i m U e;⟨v,sl,r.more ⟨[a],rfl⟩⟩⟩
 ·refine ⟨by rw [Nu,Nu,c.len];rfl,?_,fun i b w e e'=> ?_,fun b m=>(mem b m).elim (c.inD b) fun z=>z▸ha⟩
  ·exact OU.mpr ⟨c.nodup,S0 _ _,fun x mx y my z=>na ((z.trans (N3.mp my))▸mx)⟩
  ·rcases Qt i CA.length with l|l
   ·rw [OE l] at e
    rw [OE (c.len▸l)] at e'
    exact c.at_ i b w e e'
   ·rw [OG l] at e
    rw [OG (c.len▸l),←c.len] at e'
    cases hq:i -CA.length with
    |zero=>rw [hq] at e e';cases Nq e;cases Nq e';exact ct
    |succ j=>rw [hq] at e;cases e
 ·exact fun m=>(mem _ m).elim S1.nsCA fun z=>let ⟨_,o,_,_,e,_⟩:=S.ns;ar n.none (z▸e)
end
section
variable {Z:Wd} {n:Nat} {E:Ev} {c:Ctx} {env:Env} {A:Od} {s:Nx} {ρ ρ':Loc} {σ σ':ag} {CA:List Addr} {D:Addr→Prop} {o:fc}
theorem iK (SS:jf Z n E) {k m:Nat} (EO:az env c) (R:aN n A):∀{sts:List Stmt} {css:List CS},bG (cy Z.fname m c k) sts css=true→∀{s:Nx} {ρ:Loc} {σ:ag} {CA:List Addr} {D:Addr→Prop} {r:fc×Loc×ag},St Z env c.vars ρ CA σ D s.heap→aH E css ρ σ=some r→r.1.ok=true→
  lU Z A env c.vars CA D r (execs sts env) s:=by
 intro sts
 induction sts with
 |nil=>
  intro css hc s ρ σ CA D r S ev ho Q X h
  refine Np fun nG=> ?_
  cases aF hc
  cases Nq ev
  refine nG ?_
  exact Qb (h .next s.heap s.toks CA D (.of S aw.refl S.cells rfl))
 |cons st sts ih=>
  intro css hc s ρ σ CA D r S ev ho Q X h
  refine Np fun nG=> ?_
  obtain ⟨cs,css,rfl,hc⟩:=cV hc
  refine nG ?_
  refine af ev fun r1 e1 ev=> ?_
  refine Np fun nG=> ?_
  obtain ⟨o1,ρ1,σ1⟩:=r1
  refine nG ?_
  cases o1 with
  |next=>
   refine Ov (SS k m c st cs (ac hc).1 env A s ρ σ CA D _ EO S R e1 rfl _ _ fun f h1 t1 CA1 D1 a1=> ?_)
   have hf:f= .next:=a1.flow
   subst hf
   exact ih (ac hc).2 (s:={s with heap:=h1,toks:=t1}) a1.st ev ho Q X fun f h2 t2 CA2 D2 a2=>h f h2 t2 CA2 D2 (a1.seq a2)
  |cont=>
   refine Np fun nG=> ?_
   cases Nq ev
   refine nG ?_
   refine Ov (SS k m c st cs (ac hc).1 env A s ρ σ CA D _ EO S R e1 rfl _ _ fun f h1 t1 CA1 D1 a1=> ?_)
   have hf:f= .cont:=a1.flow
   subst hf
   exact h _ h1 t1 CA1 D1 a1
  |ret U=>
   cases Nq ev
   refine Ov (SS k m c st cs (ac hc).1 env A s ρ σ CA D _ EO S R e1 rfl _ _ fun f h1 t1 CA1 D1 a1=> ?_)
   obtain ⟨v,rfl,hf⟩:∃v,f= .ret v∧_:=a1.flow
   exact h _ h1 t1 CA1 D1 a1
  |exc=>cases Nq ev;cases ho
end
theorem eT {env:Env} {c:Ctx} (EO:az env c):env.scope.kind= .function:=by rw [EO.sc];exact EO.kind
theorem pJ {elt:Expr} {gens:List N9} {scope:Px} {cp:Pos} {x:Str} {p:Pos} {line:Nat} {env:Env}:swapsWith (.ListComp elt gens scope cp) (some (.Name x p)) line env=pure false∨(swapsWith (.ListComp elt gens scope cp) (some (.Name x p)) line env=pure true∧env.kindOf x=some .local):=by
 unfold swapsWith
 dsimp only
 generalize hb:(env.blockKind==ScopeKind.function&&env.kindOf x==some NameKind.local&&p.line==_&& !_)=b
 cases b with
 |false=>exact .inl rfl
 |true=>exact .inr ⟨rfl,NE (ac (ac (ac hb).1).1).2⟩
theorem ez {v:Expr} {t:Nr Expr} {line:Nat} {env:Env} (h:eR v=true):swapsWith v t line env=pure false:=by
 cases v<;>first|rfl|cases h
section
variable {Z:Wd} {n:Nat} {E:Ev} {c:Ctx} {env:Env} {A:Od} {s:Nx} {ρ ρ':Loc} {σ σ':ag} {CA:List Addr} {D:Addr→Prop} {m:Nat} {p:Ob} {loose:List Str} {mg mb:Str→Nr Nv}
structure kD (env:Env) (c:Ctx) (x:Str) (i:Nat):Prop where
 mem:(x,i)∈c.vars
 kind:env.kindOf x=some .local∨env.kindOf x=some .cell
theorem eN {x:Str} {i:Nat} (h:cH c x i=true) (EO:az env c):kD env c x i:=
 ⟨hZ (ac h).1,by unfold PT;rw [EO.sc];exact (Pe.mp (ac h).2).imp NE NE⟩
theorem cr.store {h1 h2:Heap} {o:fc} {i:Nat} {x:Str} {ρ1:Loc} {σ1:ag} {CA1:List Addr} {D1:Addr→Prop} (k1:aw (We CA) s.heap h1) (x1:lV Z s.heap h1 CA CA1 D D1) (S2:St Z env c.vars ρ1 CA1 σ1 D1 h2) (k2:aw (Wv env x) h1 h2):cr Z (Ws env CA) env c.vars CA D s.heap (.next,ρ1,σ1) .next h2 CA1 D1:=
 ⟨(k1.weaken fun _ w=> .inl w).trans (k2.weaken fun _ w=> .inr (oh w)),x1.at fun _ m=>S2.cells.live m,S2,rfl⟩
theorem pr {h h1:Heap} {a:Addr} (n:dM Z h h1 a) {D':Addr→Prop} (sub:∀b,D b→D' b) (sup:∀b,D' b→D b∨b=a):lV Z h h1 CA (CA++[a]) D D' where
 pre:=⟨[a],rfl⟩
 sub:=sub
 sup:=fun b d=>(sup b d).imp id fun z=>⟨Rr _ (N3.mpr z),z▸n⟩
 new:=fun b m=>(NG.mp m).imp id fun m=>(N3.mp m:b=a)▸n
theorem nQ {a:Addr} {σ:ag} (l:CA.length=σ.length):(CA++[a])[σ.length]? =some a:=by rw [←l];exact RX
theorem sF {x:Str} {i:Nat} {v:Expr} {xp pos:Pos} (hst:cH c x i=true) (EO:az env c) (S:St Z env c.vars ρ CA σ D s.heap)
  (hsw:swapsWith v (some (.Name x xp)) pos.line env=pure false) {U:aA} {u:V} {σ1:ag} (H:eI Z A CA D σ1 U (eval v env) s) (eu:U.toV=some u):lU Z A env c.vars CA D (.next,ρ.set i (some (.v u)),σ1) (exec (.Assign [.Name x xp] v pos) env) s:=fun Q X h=>
 have t:=eN hst EO
 UW (hs:=hsw) (H _ _ fun w h1 t1 k1 c1 r1=>fX (s:={s with heap:=h1,toks:=t1}) (U:= .v u) (S.step k1 c1) EO.vars (eT EO) t.mem t.kind ((r1.bindV fun a=>S.toGd.fresh_notD).toV eu) fun h2 t2 S2 k2=>
  h .next h2 t2 CA D (.store (i:=i) (o:= .next) k1 (lV.refl S.cells.inD) S2 k2))
theorem B1 {x:Str} {i:Nat} {v:Expr} {xp pos:Pos} (hst:cH c x i=true) (EO:az env c) (S:St Z env c.vars ρ CA σ D s.heap)
  (hsw:swapsWith v (some (.Name x xp)) pos.line env=pure false) {u:V} {σ1:ag} (H:eI Z A CA D σ1 (.own u) (eval v env) s):lU Z A env c.vars CA D (.next,ρ.set i (some (.cell σ1.length)),σ1++[u]) (exec (.Assign [.Name x xp] v pos) env) s:=fun Q X h=>
 have t:=eN hst EO
 UW (hs:=hsw) (H _ _ fun w h1 t1 k1 c1 ⟨a,e,na,ba,ct,c2⟩=>
  have nA:dM Z s.heap h1 a:=⟨na,ba,ct.live⟩
  have S1:=S.newCell k1 nA ct c2 (fun b d=> .inl d) (.inr rfl) fun b d=>d.imp id fun (z:b=a)=>z▸nA
  fX (s:={s with heap:=h1,toks:=t1}) (U:= .cell σ1.length) S1 EO.vars (eT EO) t.mem t.kind ⟨a,nQ c1.len,e⟩ fun h2 t2 S2 k2=>
   h .next h2 t2 _ _ (.store (i:=i) (o:= .next) k1 (pr nA (fun b d=> .inl d) fun b d=>d) S2 k2))
theorem St.drop1 {vars:eE} {h h':Heap} {C:Addr} {D1 D':Addr→Prop} (S:St Z env vars ρ CA σ D1 h) (hs:Pn C h h') (sub:∀b,D' b→D1 b) (nC:¬D' C) (dC:D1 C) (a:D' env.locals) (b:∀x c,env.cells.lookup x=some c→D' c) (ca:∀a∈CA,D' a) (low:D' Z.base.objs.size):St Z env vars ρ CA σ D' h':=
 S.move (fun b o e q=>hs.extBut b o (fun z=>by subst z;exact q.elim (fun w=>w dC) nC) e) sub a b ca low
theorem sB (O:Wd.Ok Z p loose mg mb) (SE:bK Z n E) (SB:gX Z n E) {x:Str} {elt:Expr} {gens:List N9} {scope:Px} {cpos:Pos} {eltc:CE} {cgs:List CG} {xp pos:Pos} {k:Nat} {vs:eE} {q:List V×ag} (K:pj Z k c elt gens scope eltc cgs vs)
  (EO:az env c) (S:St Z env c.vars ρ CA σ D s.heap) (R:aN n A) (hsw:swapsWith (.ListComp elt gens scope cpos) (some (.Name x xp)) pos.line env=pure true) (ev:dZ E eltc cgs ρ σ=some q) (hz:q.1.length≤16777216) {Q:Flow→Nx→Prop} {X:Nv→Nx→Prop}
  (h:∀a C h' tk,AZ Z env c ρ CA q.2 D q.1 s.heap h' a C→NH (model Z.prog Z.w) A (storeName env x (.ref a)) (fun _ s''=>∃m,s''.heap.Ns C m∧∀h'',Pn C s''.heap h''→Q .next {s'' with heap:=h''}) X {s with heap:=h',toks:=tk}):
  NH (model Z.prog Z.w) A (exec (.Assign [.Name x xp] (.ListComp elt gens scope cpos) pos) env) Q X s:=by
 rw [exec_Assign_Name_used _ _ _ _ hsw]
 refine Ny (OR (Ny ?_))
 rw [arm_evalThenUse_ListComp]
 exact Ny (rK O SE SB K EO S R ev hz (use:=some (assign (.Name x xp) env)) (Q:=fun _ s'=>NH (model Z.prog Z.w) A (pure ()) (fun _ s'=>NH (model Z.prog Z.w) A (pure Flow.next) Q X s') X s') fun a C h' tk L=>
  PG (Oc (h a C h' tk L) (fun _ s'' ⟨m,hm,hq⟩=>⟨m,hm,fun h'' hs=>NM (NM (hq h'' hs))⟩) fun _ _ z=>z))
theorem qA {x:Str} {i:Nat} {U:aA} {a C:Addr} {g h1:Heap} {t1:Nat} {CA1:List Addr} {σ1 τ:ag} {D1 D':Addr→Prop} {us:List V} {Q:Flow→Nx→Prop} {X:Nv→Nx→Prop} (t:kD env c x i) (EO:az env c) (S:St Z env c.vars ρ CA σ D g) (hloc:env.kindOf x=some .local)
  (L:AZ Z env c ρ CA τ D us g h1 a C) (S1:St Z env c.vars ρ CA1 σ1 D1 h1) (r:eF Z CA1 D1 h1 (.ref a) U) (sub:∀b,D' b→D1 b) (nC:¬D' C) (dC:D1 C) (dD:∀b,D b→D' b) (ca:∀a∈CA1,D' a) (x1:lV Z g h1 CA CA1 D D')
  (h:∀f h' tk CA' D',cr Z (Ws env CA) env c.vars CA D g (.next,ρ.set i (some U),σ1) f h' CA' D'→Q f {s with heap:=h',toks:=tk}):
  NH (model Z.prog Z.w) A (storeName env x (.ref a)) (fun _ s''=>∃m,s''.heap.Ns C m∧∀h'',Pn C s''.heap h''→Q .next {s'' with heap:=h''}) X {s with heap:=h1,toks:=t1}:=
 fX (s:={s with heap:=h1,toks:=t1}) S1 EO.vars (eT EO) t.mem t.kind r fun h2 t2 S2 k2=>
  have nDC:=S.toGd.fresh_notD L.nC.none
  let ⟨mm,hns⟩:=L.ns
  ⟨mm,hns.at' fun o e=>k2 _ o e fun w=>w.elim (fun w=>nDC (w.2▸S.nsD)) fun w=>(by have:=w.1;rw [hloc] at this;cases this),fun h3 hs3=>
   have S3:=S2.drop1 hs3 sub nC dC (dD _ S.nsD) (fun x q l=>dD _ (S.pc x q l).1) ca (dD _ S.low)
   h .next h3 t2 CA1 D' ⟨aw.fresh ((L.keep.weaken fun b w=> .inl w).trans (k2.weaken fun b w=> .inr (oh w))) (aw.sameBut hs3 rfl (W:=fun b=>b=C)) fun b w=> .inr (w▸L.nC.none),x1.at fun _ m=>S3.cells.live m,S3,rfl⟩⟩
section
variable (O:Wd.Ok Z p loose mg mb) (SE:bK Z n E) (SB:gX Z n E) {x:Str} {i:Nat} {elt:Expr} {gens:List N9} {scope:Px} {cpos:Pos} {eltc:CE} {cgs:List CG} {xp pos:Pos} {k:Nat} {vs:eE} {q:List V×ag} (K:pj Z k c elt gens scope eltc cgs vs) (hst:cH c x i=true)
  (EO:az env c) (S:St Z env c.vars ρ CA σ D s.heap) (R:aN n A) (ev:dZ E eltc cgs ρ σ=some q) (hz:q.1.length≤16777216)
include O SE SB K hst EO S R ev hz
theorem qC:lU Z A env c.vars CA D (.next,ρ.set i (some (.v (.lst q.1))),q.2) (exec (.Assign [.Name x xp] (.ListComp elt gens scope cpos) pos) env) s:=
 pJ.elim (fun hsw=>sF hst EO S hsw (wL O SE SB K EO S R ev hz) rfl) fun ⟨hsw,hloc⟩ Q X h=>
  sB O SE SB K EO S R hsw ev hz fun a C h' tk L=>
   have nDC:=S.toGd.fresh_notD L.nC.none
   qA (eN hst EO) EO S hloc L L.st (U:= .v (.lst q.1)) (D':=D) (L.cont.rep (fun z=>z.elim (S.toGd.fresh_notD L.na.none) L.ne) fun b d=> .inl d) (fun b d=> .inl d) nDC (.inr rfl) (fun _ d=>d) S.cells.inD (lV.refl S.cells.inD) h
theorem vw:lU Z A env c.vars CA D (.next,ρ.set i (some (.cell q.2.length)),q.2++[.lst q.1]) (exec (.Assign [.Name x xp] (.ListComp elt gens scope cpos) pos) env) s:=
 pJ.elim (fun hsw=>B1 hst EO S hsw (wL O SE SB K EO S R ev hz)) fun ⟨hsw,hloc⟩ Q X h=>
  sB O SE SB K EO S R hsw ev hz fun a C h' tk L=>
   have nDC:=S.toGd.fresh_notD L.nC.none
   have S1:=S.newCell L.keep L.na L.cont L.cells (fun b d=> .inl (.inl d)) (.inr rfl) fun b d=>d.elim (fun d=>d.imp id fun d=>(d:b=C)▸L.nC) fun d=> .inr ((d:b=a)▸L.na)
   qA (eN hst EO) EO S hloc L S1 (U:= .cell q.2.length) (D':=DC D a) ⟨a,nQ L.cells.len,rfl⟩ (fun b d=>d.elim (fun d=> .inl (.inl d)) .inr) (fun z=>z.elim nDC fun z=>L.ne z.symm) (.inl (.inr rfl)) (fun _ d=> .inl d)
    (fun b mb=>(NG.mp mb).imp (S.cells.inD b) N3.mp) (pr L.na (fun b d=> .inl d) fun b d=>d) h
end
end
theorem ya {β:Type} {c:Prop} [SI c] {x:β} {f:Nr β} (h:f=if c then some x else none):f=some x∨f=none:=by
 by_cases q:c
 ·rw [NP q] at h;exact .inl h
 ·rw [N4 q] at h;exact .inr h
theorem wv {α β:Type} {a b:α} {f:α→Nr β} {x y:β} (fa:f a=some x∨f a=none) (fb:f b=some y∨f b=none) (h:([a,b].filterMap f).length=2):[a,b].filterMap f=[x,y]:=by
 rw [QL,QL] at h ⊢
 rcases fa with fa|fa<;>rcases fb with fb|fb<;>rw [fa,fb] at h ⊢ <;>first|rfl|cases h
theorem sU {x y:Str} {p1 p2 w w':Pos} {k k':Nat} {va vb:Expr} {env:Env} (hn:([va,vb].all (constantsAlone 8))=false):
  swappedStores [.Tuple [.Name x p1,.Name y p2] k w] (.Tuple [va,vb] k' w') env=pure none∨swappedStores [.Tuple [.Name x p1,.Name y p2] k w] (.Tuple [va,vb] k' w') env=pure (some [x,y]):=by
 unfold swappedStores
 dsimp only
 split
 ·exact .inl rfl
 ·split
  ·exact .inl rfl
  ·split
   ·exact .inl rfl
   ·rename_i hh
    split
    ·exact .inl rfl
    ·split
     ·rename_i hq;rw [hn] at hq;cases hq
     ·right
      congr 2
      rw [Bool.or_eq_true,not_or] at hh
      exact wv (ya rfl) (ya rfl) (Decidable.of_not_not fun z=>hh.1 (bne_iff_ne.mpr z))
section
variable {Z:Wd} {n:Nat} {E:Ev} {c:Ctx} {env:Env} {A:Od} {s:Nx} {ρ ρ':Loc} {σ σ':ag} {CA:List Addr} {D:Addr→Prop} {o:fc} {m:Nat} {X:Nv→Nx→Prop}
theorem eF.moveOn {CA:List Addr} {D D':Addr→Prop} {h h':Heap} {v:Nv} {U:aA} (r:eF Z CA D h v U) {W:Addr→Prop} (k:aw W h h') (w:∀b,W b→D b) (e:∀b o,h.get? b=some o→D' b→D b):eF Z CA D' h' v U:=
 r.mono fun b o d g=>⟨fun z=>d (e b o g z),k b o g fun y=>d (w b y)⟩
theorem eF.grows {h h':Heap} {v:Nv} {U:aA} (r:eF Z CA D h v U) (g:bM h h'):eF Z CA D h' v U:=r.mono fun b o d e=>⟨d,g b o e⟩
theorem Jc {vars:eE} {h:Heap} (S:St Z env vars ρ CA σ D h) {b:Addr} (w:Wx env b):D b:=by
 rcases w with rfl|⟨x,_,l⟩
 ·exact S.nsD
 ·exact (S.pc x b l).1
theorem wz {x y:Str} {i j:Nat} {v1 v2:Nv} {U1 U2:aA} (EO:az env c) (S:St Z env c.vars ρ CA σ D s.heap) (tx:kD env c x i) (ty:kD env c y j) (r1:eF Z CA D s.heap v1 U1) (r2:eF Z CA D s.heap v2 U2) {Q:Unit→Nx→Prop}
  (h:∀h' tk,St Z env c.vars ((ρ.set i (some U1)).set j (some U2)) CA σ D h'→aw (Wx env) s.heap h'→Q () {s with heap:=h',toks:=tk}):
  NH (model Z.prog Z.w) A (storeName env x v1) (fun _ s₁=>NH (model Z.prog Z.w) A (storeName env y v2) Q X s₁) X s:=
 fX S EO.vars (eT EO) tx.mem tx.kind r1 fun h1 t1 S1 k1=>
  fX (s:={s with heap:=h1,toks:=t1}) S1 EO.vars (eT EO) ty.mem ty.kind (r2.moveOn k1 (fun b w=>Jc S (oh w)) fun b o e d=>d) fun h2 t2 S2 k2=>
   h h2 t2 S2 ((k1.weaken fun b w=>oh w).trans (k2.weaken fun b w=>oh w))
structure Ji (Z:Wd) (env:Env) (vars:eE) (ρ:Loc) (CA:List Addr) (D:Addr→Prop) (g:Heap) (q:List aA×ag) (vs:List Nv) (h':Heap) (CA':List Addr) (D':Addr→Prop):Prop where
 keep:aw (We CA) g h'
 ext:lV Z g h' CA CA' D D'
 st:St Z env vars ρ CA' q.2 D' h'
 vals:bS Z CA' D' h' vs q.1
theorem Ji.cons {vars:eE} {g h1 h2:Heap} {CA1 CA2:List Addr} {D1 D2:Addr→Prop} {q:List aA×ag} {vs:List Nv} {v:Nv} {U:aA} (k:aw (We CA) g h1) (x:lV Z g h1 CA CA1 D D1) (S:St Z env vars ρ CA1 σ D1 h1) (r:eF Z CA1 D1 h1 v U) (e:Ji Z env vars ρ CA1 D1 h1 q vs h2 CA2 D2):
  Ji Z env vars ρ CA D g (U::q.1,q.2) (v::vs) h2 CA2 D2 where
 keep:=k.fresh e.keep fun b w=>(x.new b w).imp id fun n=>n.none
 ext:=(x.at fun a m=>e.st.cells.live (e.ext.mem a m)).join (e.ext.since fun a=>k.alive fun b w=>S.cells.live (x.mem b w))
 st:=e.st
 vals:= .cons ((r.moveOn e.keep (fun b w=>S.cells.inD b w) fun b o g d=>(e.ext.sup b d).elim id fun z=>(ar z.2.none g).elim).more e.ext.pre) e.vals
theorem DP:∀{ts:List (Nat×Bool)} {es:List CE} {σ:ag} {q:List aA×ag},xg E ts es ρ σ=some q→q.1.length=ts.length:=by
 intro ts
 induction ts with
 |nil=>intro es σ q ev;cases Nq (bU ev).2;rfl
 |cons t ts ih=>
  intro es σ q ev
  cases es with
  |nil=>cases ev
  |cons e es=>
   obtain ⟨t,b⟩:=t
   refine af ev fun r e1 ev=> ?_
   cases b with
   |false=>exact af ev fun u e2 ev=>am ev fun q2 e3 ev=>by subst ev;exact NC TC (ih e3)
   |true=>exact af ev fun u e2 ev=>am ev fun q2 e3 ev=>by subst ev;exact NC TC (ih e3)
theorem zE (SE:bK Z n E) {pos:Pos} (EO:az env c) (R:aN n A):∀{es:List Expr} {cs:List CE},d7 (au Z.fname m c) es cs=true→∀{ts:List (Nat×Bool)} {s:Nx} {σ:ag} {CA:List Addr} {D:Addr→Prop} {q:List aA×ag},
  St Z env c.vars ρ CA σ D s.heap→xg E ts cs ρ σ=some q→∀{Q:List Nv→Nx→Prop},
  (∀vs h' tk CA' D',Ji Z env c.vars ρ CA D s.heap q vs h' CA' D'→Q vs {s with heap:=h',toks:=tk})→
  NH (model Z.prog Z.w) A (spliced (backTo pos (starEach es env))) Q X s:=by
 intro es
 induction es with
 |nil=>
  intro cs hc ts s σ CA D q S ev Q h
  refine Np fun nG=> ?_
  cases aF hc
  refine nG ?_
  cases ts with
  |nil=>cases Nq ev;exact Ps (h [] s.heap s.toks CA D ⟨aw.refl,lV.refl S.cells.inD,S,.nil⟩)
  |cons t ts=>cases ev
 |cons e es ih=>
  intro cs hc ts s σ CA D q S ev Q h
  refine Np fun nG=> ?_
  obtain ⟨ce,cs,rfl,hc⟩:=cV hc
  refine nG ?_
  have hc2:=ac (ac hc).2
  cases ts with
  |nil=>cases ev
  |cons t ts=>
   obtain ⟨t,b⟩:=t
   refine af ev fun r e1 ev=> ?_
   obtain ⟨U,σ1⟩:=r
   rw [bt (ac hc).1]
   cases b with
   |false=>
    refine af ev fun u e2 ev=>am ev fun q2 e3 ev=> ?_
    subst ev
    exact O9 (SE m c e ce hc2.1 env A s ρ σ CA D U σ1 EO S R e1 _ _ fun v h1 t1 k1 c1 r1=>ih hc2.2 (s:={s with heap:=h1,toks:=t1}) (S.step k1 c1) e3 fun vs h2 t2 CA2 D2 L=>
     h (v::vs) h2 t2 CA2 D2 (.cons (U:= .v u) k1 (lV.refl S.cells.inD) (S.step k1 c1) ((r1.bindV fun a=>S.toGd.fresh_notD).toV e2) L))
   |true=>
    refine af ev fun u e2 ev=>am ev fun q2 e3 ev=> ?_
    subst ev
    cases U with
    |v u=>cases e2
    |cell k=>cases e2
    |own w=>
     cases Nq e2
     exact O9 (SE m c e ce hc2.1 env A s ρ σ CA D _ σ1 EO S R e1 _ _ fun v h1 t1 k1 c1 ⟨a,ea,na,ba,ct,c2⟩=>
      have nA:dM Z s.heap h1 a:=⟨na,ba,ct.live⟩
      have S1:=S.newCell k1 nA ct c2 (fun b d=> .inl d) (.inr rfl) fun b d=>d.imp id fun (z:b=a)=>z▸nA
      ih hc2.2 (s:={s with heap:=h1,toks:=t1}) S1 e3 fun vs h2 t2 CA2 D2 L=>
       h (v::vs) h2 t2 CA2 D2 (.cons (U:= .cell σ1.length) k1 (pr nA (fun b d=> .inl d) fun b d=>d) S1 ⟨a,nQ c1.len,ea⟩ L))
theorem bS.two {CA':List Addr} {D':Addr→Prop} {h':Heap} {us:List aA} {vs:List Nv} {P:Prop} (r:bS Z CA' D' h' vs us) (l:us.length=2) (K:∀v1 v2 U1 U2,vs=[v1,v2]→us=[U1,U2]→eF Z CA' D' h' v1 U1→eF Z CA' D' h' v2 U2→P):P:=by
 cases r with
 |nil=>cases l
 |cons r1 r=>cases r with
  |nil=>cases l
  |cons r2 r=>cases r with
   |nil=>exact K _ _ _ _ rfl rfl r1 r2
   |cons _ _=>cases l
theorem sH {h h1 h2:Heap} (g:bM h h1) (g2:bM h1 h2):bM h h2:=fun b o e=>g2 b o (g b o e)
structure BA (env:Env) (c:Ctx) (x y:Str) (i j:Nat):Prop where
 a:kD env c x i
 b:kD env c y j
 ne:i≠j
theorem qq {e:Expr} {q:Str×Str} (h:xc e=some q):∃p1 p2 k w,e= .Tuple [.Name q.1 p1,.Name q.2 p2] k w:=
 af h fun ts h1 h=>let ⟨a,b,h2,h⟩:=gj h;af h fun x h3 h=>am h fun y h4 h=>let ⟨k,w,h5⟩:=kA h1;let ⟨p1,h6⟩:=aY h3;let ⟨p2,h7⟩:=aY h4;⟨p1,p2,k,w,by rw [h5,h2,h6,h7,←h]⟩
theorem cr.two {h1 h2:Heap} {q:List aA×ag} {vs:List Nv} {h0:Heap} {CA1:List Addr} {D1:Addr→Prop} {ρ':Loc} (L:Ji Z env c.vars ρ CA D s.heap q vs h0 CA1 D1) (g:bM h0 h1) (S2:St Z env c.vars ρ' CA1 q.2 D1 h2) (k2:aw (Wx env) h1 h2):cr Z (Ws env CA) env c.vars CA D s.heap (.next,ρ',q.2) .next h2 CA1 D1:=
 ⟨((L.keep.trans (aw.of_all g)).weaken fun b w=> .inl w).trans (k2.weaken fun b w=> .inr w),L.ext.at fun _ m=>S2.cells.live m,S2,rfl⟩
theorem xa (SE:bK Z n E) {x y:Str} {i j:Nat} {bi bj:Bool} {va vb:Expr} {cs:List CE} {p1 p2 w w' pos:Pos} {k k':Nat} (t:BA env c x y i j) (hn:([va,vb].all (constantsAlone 8))=false)
  (hc:d7 (au Z.fname m c) [va,vb] cs=true) (EO:az env c) (S:St Z env c.vars ρ CA σ D s.heap) (R:aN n A) {q:List aA×ag} (ev:xg E [(i,bi),(j,bj)] cs ρ σ=some q):
  lU Z A env c.vars CA D (.next,i6 [i,j] q.1 ρ,q.2) (exec (.Assign [.Tuple [.Name x p1,.Name y p2] k w] (.Tuple [va,vb] k' w') pos) env) s:=by
 intro Q X h
 have main:∀(Q':Nv→Nx→Prop),(∀tt v1 v2 U1 U2 h0 h1 t1 CA1 D1,q.1=[U1,U2]→Ji Z env c.vars ρ CA D s.heap q [v1,v2] h0 CA1 D1→bM h0 h1→eF Z CA1 D1 h1 v1 U1→eF Z CA1 D1 h1 v2 U2→h1.IsTuple tt #[v1,v2]→Q' (.ref tt) {s with heap:=h1,toks:=t1})→
   NH (model Z.prog Z.w) A (eval (.Tuple [va,vb] k' w') env) Q' X s:=by
  intro Q' hq
  refine wpAny_Tuple (zE SE EO R hc S ev fun vs h1 t1 CA1 D1 L=> ?_)
  refine bS.two L.vals (DP ev) fun v1 v2 U1 U2 e1 hU r1 r2=> ?_
  rw [e1] at L ⊢
  have g:=aG h1 {cls:= .type "tuple",data:= .seq [v1,v2].toArray}
  exact ⟨(by decide:2≤PV),hq _ v1 v2 U1 U2 h1 _ t1 CA1 D1 hU L g (r1.grows g) (r2.grows g) ⟨_,Oa _ rfl,rfl,0,rfl⟩⟩
 have hs:swapsWithSole [.Tuple [.Name x p1,.Name y p2] k w] (.Tuple [va,vb] k' w') pos.line env=pure false:=rfl
 rcases sU (x:=x) (y:=y) (p1:=p1) (p2:=p2) (w:=w) (w':=w') (k:=k) (k':=k') (env:=env) hn with hw|hw
 ·refine Assign_Tuple (hs:=hs) (hw:=hw) (main _ fun tt v1 v2 U1 U2 h0 h1 t1 CA1 D1 hU L g r1 r2 ht=>Sb R.calm ht rfl rfl fun h2 k2=> ?_)
  have g2:bM h1 h2:=fun b o e=>k2 b o (fun z=>OD _ (z▸N7 e)) e
  refine OZ (PG (Oc (wz (s:={s with heap:=h2,toks:=t1}) EO (L.st.keepEq (sH g g2)) t.a t.b (r1.grows g2) (r2.grows g2) (Q:=fun _ s'=>NH (model Z.prog Z.w) A (assignInOrder [] []) (fun _=>Q .next) X s') fun h3 t3 S3 k3=>NM ?_) (fun _ s' hq=>OZ (PG hq)) fun _ _ z=>z))
  rw [hU] at h
  exact h .next h3 t3 CA1 D1 (.two L (sH g g2) S3 k3)
 ·refine Assign_Tuple_swapped (hs:=hs) (hw:=hw) (main _ fun tt v1 v2 U1 U2 h0 h1 t1 CA1 D1 hU L g r1 r2 ht=> ?_)
  refine unpackItems_tuple (items:= #[v1,v2]) R.calm ?_ fun h2 k2=> ?_
  ·exact ht
  have g2:bM h1 h2:=fun b o e=>k2 b o (fun z=>OD _ (z▸N7 e)) e
  refine OZ (bindName_ (Oc (wz (s:={s with heap:=h2,toks:=t1}) EO (L.st.keepEq (sH g g2)) t.b t.a (r2.grows g2) (r1.grows g2) (Q:=fun _ s'=>NH (model Z.prog Z.w) A (assignInOrder [] []) (fun _=>Q .next) X s') fun h3 t3 S3 k3=>NM ?_) (fun _ s' hq=>OZ (bindName_ hq)) fun _ _ z=>z))
  rw [hU] at h
  exact h .next h3 t3 CA1 D1 (.two L (sH g g2) (((List.set_comm _ _ t.ne).symm▸S3:St Z env c.vars ((ρ.set i (some U1)).set j (some U2)) CA1 q.2 D1 h3)) k3)
theorem zQ (SE:bK Z n E) {x y:Str} {i j:Nat} {v:Expr} {ce:CE} {p1 p2 w pos:Pos} {k:Nat} (t:BA env c x y i j) (h1:eR v=true) (h2:wg v=true)
  (hc:au Z.fname m c v ce=true) (EO:az env c) (S:St Z env c.vars ρ CA σ D s.heap) (R:aN n A) {us:List V} {q:V×ag} (ev:eO E ce ρ σ=some q) (hq:q.1= .tup us) (hl:us.length=2):
  lU Z A env c.vars CA D (.next,i6 [i,j] (us.map aA.v) ρ,q.2) (exec (.Assign [.Tuple [.Name x p1,.Name y p2] k w] v pos) env) s:=by
 intro Q X h
 have hs:swapsWithSole [.Tuple [.Name x p1,.Name y p2] k w] v pos.line env=pure false:=by unfold swapsWithSole;exact ez h1
 have hw:swappedStores [.Tuple [.Name x p1,.Name y p2] k w] v env=pure none:=by cases v<;>first|rfl|cases h2
 refine Assign_Tuple (hs:=hs) (hw:=hw) (cT SE hc EO S R ev fun vv h1 t1 k1 c1 r1=> ?_)
 obtain ⟨a,items,rfl,ht,rr,_,_⟩:=(hq▸r1:b8 Z D h1 vv (.tup us)).rd.tup
 cases us with
 |nil=>cases hl
 |cons u1 us=>cases us with
  |nil=>cases hl
  |cons u2 us=>cases us with
   |cons _ _=>cases hl
   |nil=>
    obtain ⟨v1,v2,hitems,q1,q2⟩:=rr.two
    refine Sb (s:={s with heap:=h1,toks:=t1}) R.calm (let ⟨o,g,cc,nn,e⟩:=ht;⟨o,g,cc,nn,e⟩) (by rw [←OQ,hitems];rfl) rfl fun h2 k2=> ?_
    rw [hitems]
    have g2:bM h1 h2:=fun b o e=>k2 b o (fun z=>OD _ (z▸N7 e)) e
    have S1:=S.step k1 c1
    exact OZ (PG (Oc (wz (s:={s with heap:=h2,toks:=t1}) (U1:= .v u1) (U2:= .v u2) EO (S1.keepEq g2) t.a t.b (q1.grows g2) (q2.grows g2) (Q:=fun _ s'=>NH (model Z.prog Z.w) A (assignInOrder [] []) (fun _=>Q .next) X s') fun h3 t3 S3 k3=>NM
     (h .next h3 t3 CA D ⟨((k1.trans (aw.of_all g2)).weaken fun b w=> .inl w).trans (k3.weaken fun b w=> .inr w),lV.refl S.cells.inD,S3,rfl⟩)) (fun _ s' hq=>OZ (PG hq)) fun _ _ z=>z))
end
theorem JJ {k:Int} {n:Nat} (h:k <n) (z:n≤16777216):k <2^63:=by omega
section
variable {Z:Wd} {n:Nat} {E:Ev} {c:Ctx} {env:Env} {A:Od} {s:Nx} {ρ ρ':Loc} {σ σ':ag} {CA:List Addr} {D:Addr→Prop} {o:fc} {m:Nat} {X:Nv→Nx→Prop} {p:Ob} {loose:List Str} {mg mb:Str→Nr Nv} {P:Aj} {r:fc×Loc×ag}
theorem zM {v o' ix:Expr} {sp:Pos} {line:Nat} {env:Env}:swapsWith v (some (.Subscript o' ix sp)) line env=pure false:=by
 cases v<;>rfl
theorem zq {a:Addr} {vv kv:Nv} {u k w w':V} (dead:D a) (ct:gG Z D s.heap a w) (rv:b8 Z D s.heap vv u) (rk:b8 Z D s.heap kv k) (e:AV w k u=some w') {Q:Unit→Nx→Prop}
  (h:∀h' tk,Pn a s.heap h'→gG Z D h' a w'→Q () {s with heap:=h',toks:=tk}):NH (model Z.prog Z.w) A (setItem (.ref a) kv vv) Q X s:=by
 have old:∀{h4:Heap},Pn a s.heap h4→∀b o,¬D b→s.heap.get? b=some o→¬D b∧h4.get? b=some o:=fun hs b o d e=>⟨d,(hs.2 b fun z=>d (z▸dead)).trans e⟩
 cases w<;>first|(cases e;done)|skip
 ·refine af e fun i e1 e=> ?_
  refine aL e fun hz e=> ?_
  have h1:=ND (ac hz).1
  have h2:=ND (ac hz).2
  cases Nq e
  obtain ⟨z,items,hp,ri⟩:=ct
  have len:items.size=_:=(OQ (xs:=items)).symm.trans ri.length
  obtain ⟨tk,rfl⟩:=Rd.int (cW e1▸rk).rd
  rw [←len] at h2
  exact q9 hp h1 (JJ h2 (len▸z)) h2 fun h4 hp4 hs4=>h h4 _ hs4 ⟨by rw [OC];exact z,_,hp4,by rw [Array.toList_setIfInBounds];exact (ri.mono (old hs4)).set _ (rv.mono (old hs4))⟩
 ·refine af e fun kx e1 e=> ?_
  refine Np fun nG=> ?_
  refine aL e fun hz e=> ?_
  cases Nq e
  have rs:Rd Z D s.heap kv (.str kx):=(dR e1▸rk).rd
  obtain ⟨tk,rfl⟩:=rs.str
  obtain ⟨z,kvs,sm,hd,ek,ri⟩:=ct
  refine nG ?_
  have hl:kvs.length=_:=(Nw (f:=fun x:Str×Nv=>x.1)).symm.trans ((NC P1 ek).trans (Nw (f:=bF)))
  refine wpAny_setItem_pairs (knd:=Oz Z.prog Z.w) (k:=bF kx) (Ta _ _ _ _) hd (fun h4 hp4 hs4=> ?_) (hl▸eC hz)
  have st:=oC (x:=kx) ek (ri.mono (old hs4)) (DictOf.nodup hd) (rv.mono (old hs4))
  exact h h4 _ hs4 ⟨NO.mpr (nj (P:=fun k=>eU k=true) rs.strOk (NO.mp z)),_,sm,hp4,st.1,st.2⟩
theorem z7 (SE:bK Z n E) {oe ix v:Expr} {cx ci ce:CE} {sp pos:Pos} (hx:au Z.fname m c oe cx=true) (hi:au Z.fname m c ix ci=true) (hv:au Z.fname m c v ce=true)
  (EO:az env c) (S:St Z env c.vars ρ CA σ D s.heap) (R:aN n A) (ev:dU P E (.setIdx cx ci ce) ρ σ=some r):
  lU Z A env c.vars CA D r (exec (.Assign [.Subscript oe ix sp] v pos) env) s:=fun Q X h=>
 af ev fun u e1 ev=>af ev fun U e2 ev=>af ev fun k e3 ev=>af ev fun cc e4 ev=>af ev fun w e5 ev=>am ev fun w' e6 ev=>by
  refine Np fun nG=> ?_
  subst ev
  obtain ⟨U,σ2⟩:=U
  refine nG ?_
  cases U<;>first|(cases e4;done)|skip
  cases Nq e4
  refine wpAny_Assign_Subscript (hs:=zM) (cT SE hv EO S R e1 fun vv h1 t1 k1 c1 r1=> ?_)
  have S1:=S.step k1 c1
  refine SE m c oe cx hx env A {s with heap:=h1,toks:=t1} ρ u.2 CA D (.cell cc) σ2 EO S1 R e2 _ _ fun ov h2 t2 k2 c2 r2=> ?_
  obtain ⟨a,ha,rfl⟩:=r2
  have S2:=S1.step k2 c2
  refine cT (s:={s with heap:=h2,toks:=t2}) SE hi EO S2 R e3 fun kv h3 t3 k3 c3 r3=> ?_
  have hm:a∈CA:=NN ha
  exact zq (s:={s with heap:=h3,toks:=t3}) (c3.inD a hm) (c3.at_ cc a w ha e5) ((r1.mono (S1.toGd.old k2)).mono (S2.toGd.old k3)) r3 e6 fun h4 t4 hs ct'=>
   have c4:=c3.change ha hs ct'
   h .next h4 t4 CA D (.of S (((k1.trans k2).trans k3).trans (aw.sameBut hs hm)) c4 rfl)
theorem pM (EO:az env c):interactive env=false:=by
 unfold interactive
 rw [eT EO];rfl
theorem Eu (O:Wd.Ok Z p loose mg mb) (SE:bK Z n E) (SC:qb Z n E) {v:Expr} {ce:CE} {pos:Pos} (h2:eR v=true) (hv:au Z.fname m c v ce=true) (EO:az env c) (S:St Z env c.vars ρ CA σ D s.heap) (R:aN n A) (ev:dU P E (.expr ce) ρ σ=some r) (ho:r.1.ok=true):
  lU Z A env c.vars CA D r (exec (.Expr v pos) env) s:=by
 intro Q X h
 unfold dU at ev
 dsimp only at ev
 cases hf:ce.callF? with
 |none=>
  rw [hf] at ev
  refine af ev fun q e1 ev=> ?_
  cases Nq ev
  exact Rl (hi:=pM EO) (hs:=ez h2) (SE _ c v ce hv env A s ρ σ CA D q.1 q.2 EO S R e1 _ _ fun w h1 t1 k1 c1 _=>h .next h1 t1 CA D (.of S k1 c1 rfl))
 |some q=>
  rw [hf] at ev
  cases wx hf
  refine af ev fun us e1 ev=>af ev fun rr e2 ev=> ?_
  cases Nq ev
  cases m with
  |zero=>cases hv
  |succ m=>
   refine Np fun nG=> ?_
   obtain ⟨⟨f,args⟩,h3,h4⟩:=bR hv
   obtain ⟨np,cpos,rfl⟩:=cU h3
   obtain ⟨o1,o2⟩:=O.fn _ _ (NE (ac (ac h4).2).1)
   obtain ⟨rr1,rr2⟩:=rr
   refine nG ?_
   cases rr1 with
   |exc=>cases ho
   |ok U=>
    refine Rl (hi:=pM EO) (hs:=ez h2) (Pt (jZ O EO S.base (ac h4).1 o1 (iD (.inr (.inr o2)) (ee (ac (ac h4).2).2 _ _).1 (jk SE EO R (ac (ac h4).2).2 S e1 fun vs h1 t1 k1 c1 r1=> ?_))))
    have G1:=S.toGd.step k1 c1
    exact ⟨O.X.keeps G1.base,P6 (tZ (s:={s with heap:=h1,toks:=t1}) SC e2 rfl R G1 r1 fun v h2 t2 k2 c2 _=>h .next h2 t2 CA D (.of S (k1.trans k2) c2 rfl))⟩
theorem H8 (SE:bK Z n E) {v:Expr} {ce:CE} {pos:Pos} (hv:au Z.fname m c v ce=true) (EO:az env c) (S:St Z env c.vars ρ CA σ D s.heap) (R:aN n A) (ev:dU P E (.ret ce) ρ σ=some r):
  lU Z A env c.vars CA D r (exec (.Return (some v) pos) env) s:=fun Q X h=>
 af ev fun q e1 ev=>by
  refine Np fun nG=> ?_
  cases Nq ev
  refine nG ?_
  exact Sq (SE _ c v ce hv env A s ρ σ CA D q.1 q.2 EO S R e1 _ _ fun w h1 t1 k1 c1 r1=>h (.ret w) h1 t1 CA D (.of S k1 c1 ⟨w,rfl,r1⟩))
theorem Hy (SB:gX Z n E) (SS:jf Z n E) {k:Nat} {t:Expr} {ct:CE} {a b:List Stmt} {ca cb:List CS} {pos:Pos} (ht:au Z.fname m c t ct=true) (ha:bG (cy Z.fname m c k) a ca=true) (hb:bG (cy Z.fname m c k) b cb=true)
  (EO:az env c) (S:St Z env c.vars ρ CA σ D s.heap) (R:aN n A) (ev:dU P E (.ite ct ca cb) ρ σ=some r) (ho:r.1.ok=true):
  lU Z A env c.vars CA D r (exec (.If t a b pos) env) s:=fun Q X h=>
 af ev fun q e1 ev=>wpAny_If (SB m c t ct ht env A s ρ σ CA D q.1 q.2 EO S R (jq e1) _ _ fun h1 t1 k1 c1=>by
  have a1:cr Z (Ws env CA) env c.vars CA D s.heap (.next,ρ,q.2) .next h1 CA D:= .of S k1 c1 rfl
  have go:∀{sts css},bG (cy Z.fname m c k) sts css=true→aH E css ρ q.2=some r→NH (model Z.prog Z.w) A (execs sts env) Q X {s with heap:=h1,toks:=t1}:=fun hc e2=>
   iK SS EO R hc (s:={s with heap:=h1,toks:=t1}) a1.st e2 ho Q X fun f h2 t2 CA2 D2 a2=>h f h2 t2 CA2 D2 (a1.seq a2)
  obtain ⟨b,σ1⟩:=q
  cases b with
  |true=>exact go ha ev
  |false=>exact go hb ev)
end
structure pI (W:Addr→Prop) (env:Env) (g h:Heap) (e:Addr):Prop where
 keep:aw W g h
 ns:∃m,h.Ns env.locals m
 new:g.get? e=none
 obj:∃dx t,h.get? e=some {cls:= .ref 59,dict:=dx,data:= .fields #[.ref t,.none,.none,.none,.bool false,.none]}
noncomputable def MF (Z:Wd) (A:Od) (env:Env) (CA:List Addr) (t:Sem Flow) (s:Nx):Prop:=
 ∀(Q:Flow→Nx→Prop) (X:Nv→Nx→Prop),PassesOwn (model Z.prog Z.w) A env X→(∀h' tk e,pI (Ws env CA) env s.heap h' e→X (.ref e) {s with heap:=h',toks:=tk})→NH (model Z.prog Z.w) A t Q X s
section
variable {Z:Wd} {n:Nat} {E:Ev} {c:Ctx} {env:Env} {A:Od} {CA CA1:List Addr} {D D1:Addr→Prop} {vars:eE} {g h h1:Heap} {e:Addr} {r:fc×Loc×ag} {f:Flow}
theorem pI.seq (a:cr Z (Ws env CA) env vars CA D g r f h1 CA1 D1) (t:pI (Ws env CA1) env h1 h e):pI (Ws env CA) env g h e:=
 ⟨a.keep.fresh t.keep fun x w=>a.ext.freshAt (fun _ m=> .inl m) w fun _ w=> .inr w,t.ns,a.keep.alive (fun _ w=>a.st.wsLive a.ext.mem w) t.new,t.obj⟩
end
noncomputable def yt (e:Stmt):Nr (Nr Expr×Nr Expr):=if h:e.ctorIdx=16 then some (Ts (motive_2:=fun _=>Nr Expr×Nr Expr) e h fun a b _=>(a,b)) else none
theorem vB {e:Stmt} {q:Nr Expr×Nr Expr} (h:yt e=some q):∃p,e=VX q.1 q.2 p:=
 let ⟨k,h⟩:=aM h
 Ts (motive_2:=fun e=>∀k:e.ctorIdx=16,(Ts (motive_2:=fun _=>Nr Expr×Nr Expr) e k fun a b _=>(a,b))=q→∃p,e=VX q.1 q.2 p) e k (fun a b p _ h=>⟨p,NC (fun q:Nr Expr×Nr Expr=>VX q.1 q.2 p) (h:(a,b)=q)⟩) k h
noncomputable def yH (sc:Px) (st:Stmt):Bool:=(yt st).any fun q=>q.2.isNone&&q.1.any fun e=>(fT e).any fun r=>r.1==ub&&(oN sc ub&&kM r.2 fun a=>(lX a).any fun k=>(IJ k).isSome)
noncomputable def Ai (sc:Px):Nat→Stmt→CS→Bool
 |0,_,_=>false
 |d+1,st,cs=>match cs with
  | .for_ _ _ b=>(xL st).any fun q=>bG (Ai sc d) q.2.2.1 b
  | .ite _ a b=>(yv st).any fun q=>bG (Ai sc d) q.2.1 a&&bG (Ai sc d) q.2.2 b
  | .raise_=>yH sc st
  | .assign _ _=>true
  |_=>false
noncomputable def wu (Z:Wd) (n:Nat) (E:Ev):Prop:=∀(d k m:Nat) (c:Ctx) (st:Stmt) (cs:CS),cy Z.fname m c k st cs=true→Ai c.sc d st cs=true→∀(env:Env) (A:Od) (s:Nx) (ρ:Loc) (σ:ag) (CA:List Addr) (D:Addr→Prop) (r:fc×Loc×ag),
 az env c→St Z env c.vars ρ CA σ D s.heap→aN n A→E.s cs ρ σ=some r→r.1= .exc→MF Z A env CA (exec st env) s
section
variable {Z:Wd} {n:Nat} {E:Ev} {c:Ctx} {env:Env} {A:Od}
theorem sO (SS:jf Z n E) (SX:wu Z n E) {d k m:Nat} (EO:az env c) (R:aN n A):∀{sts:List Stmt} {css:List CS},bG (cy Z.fname m c k) sts css=true→bG (Ai c.sc d) sts css=true→∀{s:Nx} {ρ:Loc} {σ:ag} {CA:List Addr} {D:Addr→Prop} {r:fc×Loc×ag},St Z env c.vars ρ CA σ D s.heap→aH E css ρ σ=some r→r.1= .exc→
  MF Z A env CA (execs sts env) s:=by
 intro sts
 induction sts with
 |nil=>
  intro css hc hx s ρ σ CA D r S ev ho
  cases aF hc
  cases Nq ev
  cases ho
 |cons st sts ih=>
  intro css hc hx s ρ σ CA D r S ev ho Q X P h
  refine Np fun nG=> ?_
  obtain ⟨cs,css,rfl,hc⟩:=cV hc
  refine nG ?_
  have hx':=ac (show (Ai c.sc d st cs&&bG (Ai c.sc d) sts css)=true from hx)
  refine af ev fun r1 e1 ev=> ?_
  refine Np fun nG=> ?_
  obtain ⟨o1,ρ1,σ1⟩:=r1
  refine nG ?_
  cases o1 with
  |next=>
   refine Ov (SS k m c st cs (ac hc).1 env A s ρ σ CA D _ EO S R e1 rfl _ _ fun f h1 t1 CA1 D1 a1=> ?_)
   have hf:f= .next:=a1.flow
   subst hf
   exact ih (ac hc).2 hx'.2 (s:={s with heap:=h1,toks:=t1}) a1.st ev ho Q X P fun h2 t2 e z=>h h2 t2 e (z.seq a1)
  |cont=>cases Nq ev;cases ho
  |ret U=>cases Nq ev;cases ho
  |exc=>exact Ov (SX d k m c st cs (ac hc).1 hx'.1 env A s ρ σ CA D _ EO S R e1 rfl _ _ P h)
end
section
variable {Z:Wd} {n:Nat} {E:Ev} {c:Ctx} {env:Env} {A:Od} {s:Nx} {ρ ρ':Loc} {σ σ':ag} {CA:List Addr} {D:Addr→Prop} {o:fc} {m k:Nat} {X:Nv→Nx→Prop} {p:Ob} {loose:List Str} {mg mb:Str→Nr Nv} {P:Aj} {r r':fc×Loc×ag}
theorem iH.less {g h:Heap} {D1 D2:Addr→Prop} {CA1:List Addr} {v:Nv} {U:aA} (r:iH Z g CA1 σ D1 h v U) (sub:∀b,D2 b→D1 b) (ca:∀a∈CA1,D2 a):iH Z g CA1 σ D2 h v U:=by
 cases U with
 |v u=>exact b8.mono (fun b o d e=>⟨fun z=>d (sub b z),e⟩) r
 |cell k=>exact r
 |own u=>
  refine Np fun nG=> ?_
  obtain ⟨a,e,n,b,ct,cl⟩:=r
  refine nG ?_
  exact ⟨a,e,n,b,ct.mono (fun o e=>e) fun b o d e=>⟨fun z=>d (z.imp (sub b) id),e⟩,cl.shift (fun b o e z=>z.imp (sub b) id) fun b mb=> .inl (ca b mb)⟩
noncomputable def Wl (env:Env) (CA:List Addr) (I J:Addr):Addr→Prop:=fun b=>Ws env CA b∨b=I∨b=J
structure nD (Z:Wd) (env:Env) (CA:List Addr) (D:Addr→Prop) (g:Heap) (I J:Addr):Prop where
 nI:¬D I
 nJ:¬D J
 lI:∃o,g.get? I=some o
 lJ:∃o,g.get? J=some o
 dL:D env.locals
 dP:∀x c,env.cells.lookup x=some c→D c
 dC:∀a∈CA,D a
 low:D Z.base.objs.size
section
variable {g h1 h2:Heap} {I J:Addr} {CA1:List Addr} {D1:Addr→Prop} {f:Flow} {vars:eE}
noncomputable def rM (D:Addr→Prop) (I J:Addr):Addr→Prop:=fun b=>D b∧b≠I∧b≠J
theorem nD.ne (G:nD Z env CA D g I J) {b:Addr} (d:D b):b≠I∧b≠J:=⟨fun z=>G.nI (z▸d),fun z=>G.nJ (z▸d)⟩
theorem nD.nWx (G:nD Z env CA D g I J) {y:Addr} (q:¬D y):¬Wx env y:=fun w=>w.elim (fun z=>q (z▸G.dL)) fun ⟨x,_,l⟩=>q (G.dP x _ l)
theorem nD.caNe (G:nD Z env CA D g I J) (x:lV Z g h1 CA CA1 (DI D I J) D1) {a:Addr} (m:a∈CA1):a≠I∧a≠J:=
 (x.new a m).elim (fun w=>G.ne (G.dC a w)) fun w=>⟨fun z=>let ⟨_,e⟩:=G.lI;ar w.none (z▸e),fun z=>let ⟨_,e⟩:=G.lJ;ar w.none (z▸e)⟩
theorem cr.cut (G:nD Z env CA D g I J) (a:cr Z (Wl env CA I J) env vars CA (DI D I J) g r f h1 CA1 D1) (k2:aw (fun b=>b=I∨b=J) h1 h2) (F:lT Z g CA1 r.2.2 (rM D1 I J) h2 f r.1):cr Z (Wl env CA I J) env vars CA D g r f h2 CA1 (rM D1 I J):=
 have up:∀b,D b→rM D1 I J b:=fun b d=>⟨a.ext.sub b (.inl d),G.ne d⟩
 have dI:=a.ext.sub I (.inr (.inl rfl))
 have dJ:=a.ext.sub J (.inr (.inr rfl))
 have ca:∀b∈CA1,rM D1 I J b:=fun b m=>⟨a.st.cells.inD b m,G.caNe a.ext m⟩
 have S2:=a.st.move (D':=rM D1 I J) (fun b o e q=>k2 b o e fun z=>q.elim (fun w=>w (z.elim (fun z=>z▸dI) fun z=>z▸dJ)) fun w=>z.elim w.2.1 w.2.2) (fun b q=>q.1) (up _ G.dL) (fun x q l=>up _ (G.dP x q l)) ca (up _ G.low)
 ⟨a.keep.trans (k2.weaken fun b w=> .inr w),⟨a.ext.pre,up,fun b d=>(a.ext.sup b d.1).imp (fun z=>z.elim id fun z=>z.elim (fun z=>(d.2.1 z).elim) fun z=>(d.2.2 z).elim) fun z=>⟨z.1,z.2.to (S2.cells.live z.1)⟩,fun b m=>(a.ext.new b m).imp id fun n=>n.to (S2.cells.live m)⟩,S2,F⟩
theorem BM (G:nD Z env CA D g I J) (a:cr Z (Wl env CA I J) env vars CA (DI D I J) g r f h1 CA1 D1):cr Z (Wl env CA I J) env vars CA D g r f h1 CA1 (rM D1 I J):=a.cut G aw.refl (by
 have F:=a.flow
 cases hr:r.1<;>rw [hr] at F
 ·exact F
 ·exact F
 ·exact let ⟨v,e,q⟩:=F;⟨v,e,q.less (fun b q=>q.1) fun b m=>⟨a.st.cells.inD b m,G.caNe a.ext m⟩⟩
 ·exact F)
structure tJ (Z:Wd) (env:Env) (c:Ctx) (CA:List Addr) (D:Addr→Prop) (I J:Addr) (two:Bool) (E:Ev) (t:kT) (body:List CS) (r:fc×Loc×ag) (g h:Heap) (xs:List V) (ρ:Loc) (σ:ag) (CA1:List Addr) (D1:Addr→Prop):Prop where
 aft:cr Z (Wl env CA I J) env c.vars CA (DI D I J) g (.next,ρ,σ) .next h CA1 D1
 it:dY Z D1 h I J two xs
 ev:fm (fun x ρ σ=>(gT t x ρ).bind fun ρ=>aH E body ρ σ) xs ρ σ=some r
theorem tJ.turn0 {ct:Expr} {t:kT} {cb:List Stmt} {body:List CS} {two:Bool} {x:V} {xs:List V} (EO:az env c) (R:aN n A) (ht:jT c ct t false=true) (G:nD Z env CA D g I J)
  (L:tJ Z env c CA D I J two E t body r g s.heap (x::xs) ρ σ CA1 D1) (hbt:gT t x ρ=some ρ') {v:Nv} {s₁:Nx} (hgo:tX Z A D1 I J two ct s x xs v s₁) {Q:Flow→Nx→Prop} {X:Nv→Nx→Prop}
  (h:∀h3 t3,cr Z (Wl env CA I J) env c.vars CA (DI D I J) g (.next,ρ',σ) .next h3 CA1 D1→dY Z D1 h3 I J two xs→(∀b,Wl env CA I J b→∃o,h3.get? b=some o)→NH (model Z.prog Z.w) A (execs cb env) Q X {s with heap:=h3,toks:=t3}):
  NH (model Z.prog Z.w) A (Qa ct (.ref I) v) (fun _ s₁=>NH (model Z.prog Z.w) A (assign ct env v) (fun _ s₂=>NH (model Z.prog Z.w) A (execs cb env) Q X s₂) X s₁) X s₁:=
 have dI:=L.aft.ext.sub I (.inr (.inl rfl))
 have dJ:=L.aft.ext.sub J (.inr (.inr rfl))
 have nC:I∉CA1∧J∉CA1:=⟨fun m=>(G.caNe L.aft.ext m).1 rfl,fun m=>(G.caNe L.aft.ext m).2 rfl⟩
 hgo _ _ fun h2 t2 k2 IT2 lI lJ r2=>by
  have S2:=L.aft.st.other k2 fun b w=>by
   rcases w with rfl|rfl
   ·exact ⟨dI,nC.1,fun z=>G.nI (z▸G.dL),fun x z=>G.nI (G.dP x _ z),lI⟩
   ·exact ⟨dJ,nC.2,fun z=>G.nJ (z▸G.dL),fun x z=>G.nJ (G.dP x _ z),lJ⟩
  refine pF (s:={s with heap:=h2,toks:=t2}) ht EO S2 R.calm r2 hbt fun h3 t3 S3 k3 _=> ?_
  have a3:cr Z (Wl env CA I J) env c.vars CA (DI D I J) g (.next,ρ',σ) .next h3 CA1 D1:=⟨(L.aft.keep.trans (k2.weaken fun b w=> .inr w)).trans (k3.weaken fun b w=> .inl (.inr w)),L.aft.ext.at fun _ m=>S3.cells.live m,S3,rfl⟩
  exact h h3 t3 a3 (IT2.mono (fun o e=>k3 _ o e (G.nWx G.nI)) (fun o e=>k3 _ o e (G.nWx G.nJ)) fun b o q e=>⟨q,k3 b o e fun w=>q (Jc S2 w)⟩) fun b w=>w.elim (fun w=>S3.wsLive a3.ext.mem w) fun w=>by
   rcases w with rfl|rfl
   ·exact let ⟨o,e⟩:=lI;⟨o,k3 _ o e (G.nWx G.nI)⟩
   ·exact let ⟨o,e⟩:=lJ;⟨o,k3 _ o e (G.nWx G.nJ)⟩
theorem tJ.done (G:nD Z env CA D g I J) {two:Bool} {xs:List V} {h3 h4:Heap} {D4:Addr→Prop} {CA4:List Addr} {r1:fc×Loc×ag} (a3:cr Z (Wl env CA I J) env c.vars CA (DI D I J) g (.next,ρ',σ) .next h3 CA1 D1) (IT3:dY Z D1 h3 I J two xs) (lv:∀b,Wl env CA I J b→∃o,h3.get? b=some o)
  (a4:cr Z (Ws env CA1) env c.vars CA1 D1 h3 r1 f h4 CA4 D4):cr Z (Wl env CA I J) env c.vars CA (DI D I J) g r1 f h4 CA4 D4∧dY Z D4 h4 I J two xs:=
 have nWs:∀{y},¬D y→(y∈CA1→y≠y)→¬Ws env CA1 y:=fun q q' w=>w.elim (fun m=>q' m rfl) (G.nWx q)
 ⟨a3.trans lv (fun _ m=> .inl (.inl m)) (fun _ w=> .inl (.inr w)) a4,IT3.mono (fun o e=>a4.keep _ o e (nWs G.nI fun m=>(G.caNe a3.ext m).1)) (fun o e=>a4.keep _ o e (nWs G.nJ fun m=>(G.caNe a3.ext m).2)) fun b o q e=>⟨fun z=>(a4.ext.sup b z).elim q fun z=>ar z.2.none e,a4.keep b o e fun w=>q (w.elim (a3.st.cells.inD b) (Jc a3.st))⟩⟩
structure Hc (Z:Wd) (A:Od) (n:Nat) (E:Ev) (c:Ctx) (env:Env) (W:Addr→Prop) (CA:List Addr) (D:Addr→Prop) (cb:List Stmt) (body:List CS) (r:fc×Loc×ag) (s:Nx) (Q:Flow→Nx→Prop) (X:Nv→Nx→Prop):Prop where
 go:r.1.ok=true→∀f h' tk CA' D',cr Z W env c.vars CA D s.heap r f h' CA' D'→Q f {s with heap:=h',toks:=tk}
 exc:r.1= .exc→wu Z n E∧(∃d,bG (Ai c.sc d) cb body=true)∧PassesOwn (model Z.prog Z.w) A env X∧∀h' tk e,pI W env s.heap h' e→X (.ref e) {s with heap:=h',toks:=tk}
noncomputable def Kv (Z:Wd) (env:Env) (c:Ctx) (CA:List Addr) (D:Addr→Prop) (I J:Addr) (two:Bool) (E:Ev) (t:kT) (body:List CS) (r:fc×Loc×ag) (s:Nx) (mm:Nat) (s':Nx):Prop:=
 ∃xs' ρx σx CAx D1 h1 tk,mm=xs'.length∧s'={s with heap:=h1,toks:=tk}∧tJ Z env c CA D I J two E t body r s.heap h1 xs' ρx σx CAx D1
theorem EI (SS:jf Z n E) {ct:Expr} {t:kT} {cb:List Stmt} {body:List CS} {two:Bool} {x:V} {xs:List V} (EO:az env c) (R:aN n A) (ht:jT c ct t false=true) (hb:bG (cy Z.fname m c k) cb body=true) (G:nD Z env CA D s.heap I J) {tk:Tok}
  (L:tJ Z env c CA D I J two E t body r s.heap h1 (x::xs) ρ σ CA1 D1) {v:Nv} {s₁:Nx} (hgo:∀ρ',gT t x ρ=some ρ'→tX Z A D1 I J two ct {s with heap:=h1,toks:=tk} x xs v s₁)
  {QT Q:Flow→Nx→Prop} {X:Nv→Nx→Prop} (H:Hc Z A n E c env (Wl env CA I J) CA D cb body r s Q X) (hR:∀v s3,Q (.ret v) s3→QT (.ret v) s3) (hN:∀f s3,f= .next∨f= .cont→Kv Z env c CA D I J two E t body r s xs.length s3→QT f s3):
  NH (model Z.prog Z.w) A (Qa ct (.ref I) v) (fun _ s₁=>NH (model Z.prog Z.w) A (assign ct env v) (fun _ s₂=>NH (model Z.prog Z.w) A (execs cb env) QT (Th (model Z.prog Z.w) A env (Ti (model Z.prog Z.w) A env X)) s₂) (Th (model Z.prog Z.w) A env (Ti (model Z.prog Z.w) A env X)) s₁) (Th (model Z.prog Z.w) A env (Ti (model Z.prog Z.w) A env X)) s₁:=by
 refine af L.ev fun r1 e1 ev=>af e1 fun ρ1 hbt e1=>L.turn0 (s:={s with heap:=h1,toks:=tk}) EO R ht G hbt (hgo _ hbt) fun h3 t3 a3 IT3 lv=> ?_
 refine Np fun nG=> ?_
 obtain ⟨o1,ρ2,σ2⟩:=r1
 refine nG ?_
 have go:=fun ho=>iK SS EO R hb (s:={s with heap:=h3,toks:=t3}) a3.st e1 ho QT (Th (model Z.prog Z.w) A env (Ti (model Z.prog Z.w) A env X))
 cases o1 with
 |next=>exact go rfl fun f h4 t4 CA4 D4 a4=>let d:=tJ.done G a3 IT3 lv a4;hN f _ (.inl a4.flow) ⟨xs,ρ2,σ2,CA4,D4,h4,t4,rfl,rfl,(show f= .next from a4.flow)▸d.1,d.2,ev⟩
 |cont=>exact go rfl fun f h4 t4 CA4 D4 a4=>let d:=tJ.done G a3 IT3 lv a4;hN f _ (.inr a4.flow) ⟨xs,ρ2,σ2,CA4,D4,h4,t4,rfl,rfl,⟨d.1.keep,d.1.ext,d.1.st,rfl⟩,d.2,ev⟩
 |ret U=>
  refine go rfl fun f h4 t4 CA4 D4 a4=> ?_
  obtain ⟨w,e,_⟩:∃w,f= .ret w∧_:=a4.flow
  have ev:=Nq ev
  rw [←ev] at H
  rw [e] at a4 ⊢
  exact hR w _ (H.go rfl _ h4 t4 CA4 _ (BM G (tJ.done G a3 IT3 lv a4).1))
 |exc=>
  refine Np fun nG=> ?_
  obtain ⟨SX,⟨d,hx⟩,P,hX⟩:=H.exc (Nq ev▸rfl)
  refine nG ?_
  exact Oc (sO SS SX EO R hb hx (s:={s with heap:=h3,toks:=t3}) a3.st e1 rfl QT X P fun h4 t4 e z=>hX h4 t4 e
   ⟨a3.keep.fresh z.keep fun x w=>a3.ext.freshAt (fun _ m=> .inl (.inl m)) w fun _ w=> .inl (.inr w),z.ns,a3.keep.alive lv z.new,z.obj⟩) (fun _ _ x=>x) P
theorem AT (SS:jf Z n E) {ct:Expr} {t:kT} {cb:List Stmt} {body:List CS} {two:Bool} {xs:List V} (EO:az env c) (R:aN n A) (ht:jT c ct t false=true) (htw:ko ct=some two) (hb:bG (cy Z.fname m c k) cb body=true) (G:nD Z env CA D s.heap I J)
  (L0:tJ Z env c CA D I J two E t body r s.heap s.heap xs ρ σ CA1 D1) {Q:Flow→Nx→Prop} {X:Nv→Nx→Prop} (H:Hc Z A n E c env (Wl env CA I J) CA D cb body r s Q X):
  PB (model Z.prog Z.w) A (.forLoop ct (.ref I) cb [] env) (fun r s'=>match r with| .ok f=>Q f s'| .error e=>Ti (model Z.prog Z.w) A env X e s') s:=by
 refine codeAny_forLoop_any (Kv Z env c CA D I J two E t body r s) (fun mm s' hI=> ?_) xs.length ⟨xs,ρ,σ,CA1,D1,s.heap,s.toks,rfl,rfl,L0⟩
 refine Np fun nG=> ?_
 obtain ⟨xs',ρx,σx,CAx,D1,h1,tk,e1,e2,L⟩:=hI
 rw [e1,e2] at nG
 cases xs' with
 |nil=>exact nG (vg (s:={s with heap:=h1,toks:=tk}) R.calm L.it fun h2 t2 k2=>Qb (H.go (Nq L.ev▸rfl) .next h2 t2 CAx _ (Nq L.ev▸L.aft.cut G k2 rfl)))
 |cons x xs'=>exact af L.ev fun r1 e1 ev=>af e1 fun ρ1 hbt e1=>nG (rY (s:={s with heap:=h1,toks:=tk}) (target:=ct) htw L.aft.st.live L.it (L.aft.ext.sub I (.inr (.inl rfl))) (L.aft.ext.sub J (.inr (.inr rfl))) (yu ht htw hbt) fun v s₁ hgo=>EI SS EO R ht hb G L (fun _ _=>hgo) H (fun _ _ q=>q) fun f s3 hf I=>by
  rcases hf with rfl|rfl<;>exact ⟨xs'.length,OM _,I⟩)
end
theorem ye (O:Wd.Ok Z p loose mg mb) (SE:bK Z n E) (SS:jf Z n E) {ct ci:Expr} {t:kT} {it:It} {cb:List Stmt} {body:List CS} {pos:Pos} (hf:xQ c (au Z.fname m c) ct ci t it=true) (hb:bG (cy Z.fname m c k) cb body=true)
  (EO:az env c) (S:St Z env c.vars ρ CA σ D s.heap) (R:aN n A) (ev:dU P E (.for_ t it body) ρ σ=some r) {Q:Flow→Nx→Prop} {X:Nv→Nx→Prop} (H:Hc Z A n E c env (Ws env CA) CA D cb body r s Q X):
  NH (model Z.prog Z.w) A (exec (.For ct ci cb [] pos) env) Q X s:=af ev fun q e1 ev=>by
 have f1:=ac hf
 have f2:=ac f1.2
 have f3:=ac f2.2
 refine wpAny_For (hs:=fun x=>iZ f3.1) (pi O SE f3.2 EO S R e1 _ _ fun I J h1 t1 k1 c1 nI nJ IT=> ?_)
 have S1:St Z env c.vars ρ CA q.2 (DI D I J) h1:=S.stepGrow k1 c1 (fun b q=>q.imp id fun z=>z.elim (fun z=>z▸nI) fun z=>z▸nJ) fun b q=> .inl q
 have G:nD Z env CA D h1 I J:=⟨S.toGd.fresh_notD nI.none,S.toGd.fresh_notD nJ.none,nI.live,nJ.live,S.nsD,fun x q l=>(S.pc x q l).1,S.cells.inD,S.low⟩
 have al:∀a,h1.get? a=none→s.heap.get? a=none:=fun _=>k1.alive fun b w=>c1.live w
 have fr:∀b,Wl env CA I J b→Ws env CA b∨s.heap.get? b=none:=fun b w=>w.imp id fun w=>w.elim (fun w=>w▸nI.none) fun w=>w▸nJ.none
 exact AT (s:={s with heap:=h1,toks:=t1}) SS EO R f1.1 (pU f1.1 f2.1) hb G ⟨⟨aw.refl,lV.refl S1.cells.inD,S1,rfl⟩,IT,ev⟩
  ⟨fun ho f h2 t2 CA2 D2 a2=>H.go ho f h2 t2 CA2 D2 ⟨aw.fresh (k1.weaken fun b w=> .inl w) a2.keep fr,a2.ext.since al,a2.st,a2.flow.back al⟩,
   fun ho=>let q:=H.exc ho;⟨q.1,q.2.1,q.2.2.1,fun h2 t2 e z=>q.2.2.2 h2 t2 e ⟨aw.fresh (k1.weaken fun b w=> .inl w) z.keep fr,z.ns,al e z.new,z.obj⟩⟩⟩
theorem Hs (O:Wd.Ok Z p loose mg mb) (SE:bK Z n E) (SS:jf Z n E) {ct ci:Expr} {t:kT} {it:It} {cb:List Stmt} {body:List CS} {pos:Pos} (hf:xQ c (au Z.fname m c) ct ci t it=true) (hb:bG (cy Z.fname m c k) cb body=true)
  (EO:az env c) (S:St Z env c.vars ρ CA σ D s.heap) (R:aN n A) (ev:dU P E (.for_ t it body) ρ σ=some r) (ho:r.1.ok=true):lU Z A env c.vars CA D r (exec (.For ct ci cb [] pos) env) s:=fun Q X h=>
 ye O SE SS hf hb EO S R ev ⟨fun _=>h,fun z=>(by rw [z] at ho;cases ho)⟩
noncomputable def Mc (Z:Wd) (env:Env) (c:Ctx) (CA:List Addr) (D:Addr→Prop) (E:Ev) (t:CE) (body:List CS) (r:fc×Loc×ag) (s:Nx) (mm:Nat) (s':Nx):Prop:=
 ∃ρx σx CAx D1 h1 tk,s'={s with heap:=h1,toks:=tk}∧cr Z (Ws env CA) env c.vars CA D s.heap (.next,ρx,σx) .next h1 CAx D1∧fW (cv E t) (aH E body) mm ρx σx=some r
theorem Es (SB:gX Z n E) (SS:jf Z n E) {ct:Expr} {t:CE} {cb:List Stmt} {body:List CS} (ht:au Z.fname m c ct t=true) (hb:bG (cy Z.fname m c k) cb body=true) (EO:az env c) (R:aN n A) (ho:r.1.ok=true) {mm:Nat} {s':Nx} (hI:Mc Z env c CA D E t body r s mm s') {QT QE:Flow→Nx→Prop} {X:Nv→Nx→Prop}
  (hE:∀h' tk CA' D',cr Z (Ws env CA) env c.vars CA D s.heap r .next h' CA' D'→QE .next {s with heap:=h',toks:=tk}) (hN:∀f s3 m',f= .next∨f= .cont→m' <mm→Mc Z env c CA D E t body r s m' s3→QT f s3) (hR:∀v h' tk CA' D',cr Z (Ws env CA) env c.vars CA D s.heap r (.ret v) h' CA' D'→QT (.ret v) {s with heap:=h',toks:=tk}):
  NH (model Z.prog Z.w) A (isTrue ct env (eval ct env)) (fun b s₂=>if b then NH (model Z.prog Z.w) A (execs cb env) QT X s₂ else NH (model Z.prog Z.w) A (execs [] env) QE X s₂) X s':=by
 refine Np fun nG=> ?_
 obtain ⟨ρx,σx,CAx,D1,h1,tk,e0,a1,ev⟩:=hI
 cases mm with
 |zero=>cases ev
 |succ mm=>
  refine af ev fun b e1 ev=>nG (e0▸SB m c ct t ht env A {s with heap:=h1,toks:=tk} ρx σx CAx D1 b.1 b.2 EO a1.st R (jq e1) _ _ fun h2 t2 k2 c2=> ?_)
  have a2:cr Z (Ws env CA) env c.vars CA D s.heap (.next,ρx,b.2) .next h2 CAx D1:=a1.seq (.of (o:= .next) a1.st k2 c2 rfl)
  obtain ⟨b,σ1⟩:=b
  cases b with
  |false=>exact Qb (hE h2 t2 CAx D1 (Nq ev▸a2))
  |true=>
   refine af ev fun r1 e2 ev=> ?_
   refine Np fun nG=> ?_
   obtain ⟨o1,ρ2,σ2⟩:=r1
   refine nG ?_
   have go:=fun ho=>iK SS EO R hb (s:={s with heap:=h2,toks:=t2}) a2.st e2 ho QT X
   cases o1 with
   |next=>exact go rfl fun f h3 t3 CA3 D3 a3=>hN f _ mm (.inl a3.flow) (OM _) ⟨ρ2,σ2,CA3,D3,h3,t3,rfl,(show f= .next from a3.flow)▸a2.seq a3,ev⟩
   |cont=>exact go rfl fun f h3 t3 CA3 D3 a3=>hN f _ mm (.inr a3.flow) (OM _) ⟨ρ2,σ2,CA3,D3,h3,t3,rfl,let a4:=a2.seq a3;⟨a4.keep,a4.ext,a4.st,rfl⟩,ev⟩
   |ret U=>exact go rfl fun f h3 t3 CA3 D3 a3=>let ⟨w,e,_⟩:=(a3.flow:∃w,f= .ret w∧_);e▸hR w h3 t3 CA3 D3 (e▸Nq ev▸a2.seq a3)
   |exc=>cases Nq ev;cases ho
theorem Bh (SB:gX Z n E) (SS:jf Z n E) {ct:Expr} {t:CE} {cb:List Stmt} {body:List CS} {pos:Pos} (ht:au Z.fname m c ct t=true) (hb:bG (cy Z.fname m c k) cb body=true)
  (EO:az env c) (S:St Z env c.vars ρ CA σ D s.heap) (R:aN n A) (ev:dU P E (.while_ t body) ρ σ=some r) (ho:r.1.ok=true):
  lU Z A env c.vars CA D r (exec (.While ct cb [] pos) env) s:=fun Q X h=>
 wpAny_While (codeAny_whileLoop (Mc Z env c CA D E t body r s) (fun mm s' hI=>Es SB SS ht hb EO R ho hI (fun h' tk CA' D' a=>h .next h' tk CA' D' a) (fun f s3 m' hf lt I=>by rcases hf with rfl|rfl<;>exact ⟨m',lt,I⟩) fun v h' tk CA' D' a=>h (.ret v) h' tk CA' D' a) turns
  ⟨ρ,σ,CA,D,s.heap,s.toks,rfl,.of S aw.refl S.cells rfl,ev⟩)
end
section
variable {Z:Wd} {n:Nat} {E:Ev} {p:Ob} {loose:List Str} {mg mb:Str→Nr Nv}
theorem DM {α:Type} {l:List α} (h:l.length=2):∃a b,l=[a,b]:=by
 cases l with
 |nil=>cases h
 |cons a l=>cases l with
  |nil=>cases h
  |cons b l=>cases l with
   |nil=>exact ⟨a,b,rfl⟩
   |cons _ _=>cases h
theorem FU {st:Stmt} {q:List Expr×Expr×Pos} {t:Expr} (h:mO st=some q) (ht:q.1=[t]):st= .Assign [t] q.2.1 q.2.2:=by rw [sx h,ht]
section
variable {fn:Nat→Nr Str} {k m:Nat} {c:Ctx} {st:Stmt} {P:Prop}
theorem uV {i:Nat} {e:CE} (hc:((mO st).any fun q=>kM q.1 fun t=>(cA t).any fun x=>cH c x i&&((e.comp?.isSome||eR q.2.1)&&au fn m c q.2.1 e))=true) (K:∀x xp v p,st= .Assign [.Name x xp] v p→cH c x i=true→(e.comp?.isSome||eR v)=true→au fn m c v e=true→P):P:=by
 refine ax hc fun q h1 h2=> ?_
 refine ib h2 fun t h3 h4=> ?_
 refine ax h4 fun x h5 h6=> ?_
 obtain ⟨xp,h7⟩:=aY h5
 have a:=ac h6
 exact K x xp q.2.1 q.2.2 (by rw [FU h1 h3,h7]) a.1 (ac a.2).1 (ac a.2).2
theorem BZ {v:Expr} {q:CE×List CG} (h:au fn m c v (.comp q.1 q.2)=true) (K:∀k e gens scope p,v= .ListComp e gens scope p→m=k+1→au fn (k+1) c (.ListComp e gens scope p) (.comp q.1 q.2)=true→P):P:=by
 cases m with
 |zero=>cases h
 |succ m=>
  refine ax h fun r h1 _=> ?_
  obtain ⟨pos,h2⟩:=pC h1
  exact K m r.1 r.2.1 r.2.2 pos h2 rfl (h2▸h)
theorem zF {ts:List (Nat×Bool)} {es:List CE} (hc:cy fn m c (k+1) st (.assignT ts es)=true) (K:∀i j x y p1 p2 kk w va vb k' w' p,ts=[i,j]→st= .Assign [.Tuple [.Name x p1,.Name y p2] kk w] (.Tuple [va,vb] k' w') p→([va,vb].all (constantsAlone 8))=false→
  cH c x i.1=true→cH c y j.1=true→(x !=y)=true→d7 (au fn m c) [va,vb] es=true→P):P:=by
 refine ax hc fun q h1 h2=> ?_
 refine ib h2 fun t h3 h4=> ?_
 refine ax h4 fun xy h5 h6=> ?_
 refine ax h6 fun vs h7 h8=> ?_
 obtain ⟨i,j,e1,h9⟩:=mr h8
 have a:=ac h9
 have b:=ac a.2
 obtain ⟨va,vb,e2⟩:=DM (NE b.1)
 have d:=ac b.2
 have g:=ac d.2
 have l:=ac g.2
 obtain ⟨p1,p2,kk,w,e3⟩:=qq h5
 obtain ⟨k',w',h13⟩:=kA h7
 rw [e2] at h13 a l
 exact K i j xy.1 xy.2 p1 p2 kk w va vb k' w' q.2.2 e1 (by rw [FU h1 h3,h13,e3]) (cJ a.1) d.1 g.1 l.1 l.2
theorem Cw {ts:List Nat} {e:CE} (hc:cy fn m c (k+1) st (.unpack ts e)=true) (K:∀i j x y p1 p2 kk w v p,ts=[i,j]→st= .Assign [.Tuple [.Name x p1,.Name y p2] kk w] v p→cH c x i=true→cH c y j=true→(x !=y)=true→eR v=true→wg v=true→au fn m c v e=true→P):P:=by
 refine ax hc fun q h1 h2=> ?_
 refine ib h2 fun t h3 h4=> ?_
 refine ax h4 fun xy h5 h6=> ?_
 obtain ⟨i,j,e1,h9⟩:=mr h6
 have a:=ac h9
 have b:=ac a.2
 have d:=ac b.2
 have g:=ac d.2
 obtain ⟨p1,p2,kk,w,e3⟩:=qq h5
 exact K i j xy.1 xy.2 p1 p2 kk w q.2.1 q.2.2 e1 (by rw [FU h1 h3,e3]) a.1 b.1 d.1 g.1 (ac g.2).1 (ac g.2).2
theorem De {x i e:CE} (hc:cy fn m c (k+1) st (.setIdx x i e)=true) (K:∀a b sp v p,st= .Assign [.Subscript a b sp] v p→au fn m c a x=true→au fn m c b i=true→au fn m c v e=true→P):P:=by
 refine ax hc fun q h1 h2=> ?_
 refine ib h2 fun t h3 h4=> ?_
 refine ax h4 fun ob h5 h6=> ?_
 obtain ⟨sp,e1⟩:=kq h5
 have a:=ac (ac h6).2
 exact K ob.1 ob.2 sp q.2.1 q.2.2 (by rw [FU h1 h3,e1]) a.1 (ac a.2).1 (ac a.2).2
theorem xi {e:CE} (hc:cy fn m c (k+1) st (.expr e)=true) (K:∀v p,st= .Expr v p→eR v=true→au fn m c v e=true→P):P:=by
 refine ax hc fun v h1 h2=> ?_
 obtain ⟨p,e1⟩:=lP h1
 exact K v p e1 (ac h2).1 (ac h2).2
theorem B5 {e:CE} (hc:cy fn m c (k+1) st (.ret e)=true) (K:∀v p,st= .Return (some v) p→au fn m c v e=true→P):P:=by
 refine ax hc fun v h1 h2=> ?_
 refine ax h2 fun w e1 h3=> ?_
 obtain ⟨p,e2⟩:=zr h1
 exact K w p (by rw [e2,e1]) h3
theorem G4 {t:CE} {a b:List CS} (hc:cy fn m c (k+1) st (.ite t a b)=true) (K:∀x y z p,yv st=some (x,y,z)→st= .If x y z p→au fn m c x t=true→bG (cy fn m c k) y a=true→bG (cy fn m c k) z b=true→P):P:=by
 refine ax hc fun q h1 h2=> ?_
 obtain ⟨p,e1⟩:=Ae h1
 have a:=ac h2
 exact K q.1 q.2.1 q.2.2 p h1 e1 a.1 (ac a.2).1 (ac a.2).2
theorem GS {t:kT} {it:It} {b:List CS} (hc:cy fn m c (k+1) st (.for_ t it b)=true) (K:∀ct ci cb p,xL st=some (ct,ci,cb,[])→st= .For ct ci cb [] p→xQ c (au fn m c) ct ci t it=true→bG (cy fn m c k) cb b=true→P):P:=by
 refine ax hc fun q h1 h2=> ?_
 obtain ⟨p,e1⟩:=yV h1
 have a:=ac h2
 have z:q.2.2.2=[]:=aF a.1
 exact K q.1 q.2.1 q.2.2.1 p (by rw [h1,←z]) (by rw [e1,z]) (ac a.2).1 (ac a.2).2
theorem E6 {t:CE} {b:List CS} (hc:cy fn m c (k+1) st (.while_ t b)=true) (K:∀ct cb p,st= .While ct cb [] p→au fn m c ct t=true→bG (cy fn m c k) cb b=true→P):P:=by
 refine ax hc fun q h1 h2=> ?_
 obtain ⟨p,e1⟩:=uF h1
 have a:=ac h2
 exact K q.1 q.2.1 p (by rw [e1,aF a.1]) (ac a.2).1 (ac a.2).2
end
theorem Gb {c:Ctx} {env:Env} {x y:Str} {i j:Nat} (EO:az env c) (h1:cH c x i=true) (h2:cH c y j=true) (h3:x≠y):BA env c x y i j:=
 have a:=eN h1 EO
 have b:=eN h2 EO
 ⟨a,b,fun z=>h3 ((EO.vars.inj x i y j a.mem b.mem).mpr z)⟩
theorem yZ (O:Wd.Ok Z p loose mg mb) (SE:bK Z n E) (SB:gX Z n E) (SC:qb Z n E) (SS:jf Z n E) {k m:Nat} {c:Ctx} {st:Stmt} {cs:CS} (hc:cy Z.fname m c k st cs=true) {env:Env} {A:Od} {s:Nx} {ρ:Loc} {σ:ag} {CA:List Addr} {D:Addr→Prop} {r:fc×Loc×ag}
  (EO:az env c) (S:St Z env c.vars ρ CA σ D s.heap) (R:aN n A) (ev:dU Z.P E cs ρ σ=some r) (ho:r.1.ok=true):lU Z A env c.vars CA D r (exec st env) s:=by
 refine Np fun nG=> ?_
 cases k with
 |zero=>cases hc
 |succ k=>
  cases cs with
  |assign i e=>
   refine uV hc fun x xp v pos he h1 h2 h3=> ?_
   unfold dU at ev
   dsimp only at ev
   cases hq:e.comp? with
   |none=>
    rw [hq] at ev h2
    exact af ev fun q e1 ev=>af e1 fun rr e2 e1=>af e1 fun u e3 e1=>nG (he▸Nq ev▸Nq e1▸sF h1 EO S (ez h2) (SE m c v e h3 env A s ρ σ CA D rr.1 rr.2 EO S R e2) e3)
   |some q=>
    rw [hq] at ev
    rw [rI hq] at h3
    refine BZ h3 fun m' el gens scope cp e1 e2 h4=> ?_
    obtain ⟨vs,K⟩:=mV h4
    rw [e1] at he
    exact af ev fun rr e1 ev=>aL ev fun hz ev=>nG (he▸Nq ev▸qC O SE SB K h1 EO S R e1 (eC hz))
  |own i e=>
   refine uV hc fun x xp v pos he h1 h2 h3=> ?_
   unfold dU at ev
   dsimp only at ev
   cases hq:e.comp? with
   |none=>
    rw [hq] at ev h2
    refine af ev fun rr e2 ev=>am ev fun u e3 ev=>nG (he▸ev▸?_)
    obtain ⟨U,σ1⟩:=rr
    cases U<;>first|(cases e3;done)|skip
    cases Nq e3
    exact B1 h1 EO S (ez h2) (SE m c v e h3 env A s ρ σ CA D _ σ1 EO S R e2)
   |some q=>
    rw [hq] at ev
    rw [rI hq] at h3
    refine BZ h3 fun m' el gens scope cp e1 e2 h4=> ?_
    obtain ⟨vs,K⟩:=mV h4
    rw [e1] at he
    exact af ev fun rr e1 ev=>aL ev fun hz ev=>nG (he▸Nq ev▸vw O SE SB K h1 EO S R e1 (eC hz))
  |assignT ts es=>exact zF hc fun i j x y p1 p2 kk w va vb k' w' p e1 he h1 h2 h3 h4 h5=>by rw [e1] at ev;exact af ev fun r e1 ev=>nG (he▸Nq ev▸xa SE (Gb EO h2 h3 (jy h4)) h1 h5 EO S R e1)
  |unpack ts e=>exact Cw hc fun i j x y p1 p2 kk w v p e1 he h2 h3 h4 h5 h6 h7=>by rw [e1] at ev;exact af ev fun q e1 ev=>af ev fun us e2 ev=>aL ev fun hl ev=>nG (he▸Nq ev▸zQ SE (Gb EO h2 h3 (jy h4)) h5 h6 h7 EO S R e1 (kf e2) hl)
  |setIdx x i e=>exact De hc fun a b sp v p he h1 h2 h3=>nG (he▸z7 SE h1 h2 h3 EO S R ev)
  |expr e=>exact xi hc fun v p he h1 h2=>nG (he▸Eu O SE SC h1 h2 EO S R ev ho)
  |ret e=>exact B5 hc fun v p he h1=>nG (he▸H8 SE h1 EO S R ev)
  |ite t a b=>exact G4 hc fun x y z p _ he h1 h2 h3=>nG (he▸Hy SB SS h1 h2 h3 EO S R ev ho)
  |for_ t it body=>exact GS hc fun ct ci cb p _ he h1 h2=>nG (he▸Hs O SE SS h1 h2 EO S R ev ho)
  |while_ t body=>exact E6 hc fun ct cb p he h1 h2=>nG (he▸Bh SB SS h1 h2 EO S R ev ho)
  |cont=>
   obtain ⟨u,h1⟩:=Oq.mp hc
   obtain ⟨pos,he⟩:=xh h1
   exact nG (he▸Nq ev▸fun Q X h=>wpAny_Continue (h .cont s.heap s.toks CA D (.of S aw.refl S.cells rfl)))
  |raise_=>cases Nq ev;cases ho
  |try_ a b=>cases ev
theorem ze (O:Wd.Ok Z p loose mg mb) (SE:bK Z n E) (SB:gX Z n E) (SC:qb Z n E) (SS:jf Z n E):jf Z (n+1) (step Z.P E):=
 fun _ _ _ _ _ hc _ _ _ _ _ _ _ _ EO S R ev ho=>yZ O SE SB SC SS hc EO S (R.less (NZ _)) ev ho
end
structure F9 (Z:Wd) (a:Addr) (fn:Fn) (fo:Obj) (fd:OL) (body:List Stmt) (ps:List Str) (c:Ctx) (k m:Nat):Prop where
 at_:Z.K.lookup a=some fo
 data:fo.data= .func fd
 code:codeIn Z.K fd.code fd.qualname=true
 bod:fd.body= .stmts body
 clo:fd.closure=[]
 glb:fd.globals=Og
 blt:fd.builtins=R7
 kind:fd.scope.kind= .function
 co:fd.scope.isCoroutine=false
 gen:fd.scope.isGenerator=false
 sc:c.sc=fd.scope
 vars:kh c.vars
 chk:bG (cy Z.fname m c k) body fn.body=true
 np:ps.length=fn.np
 pv:∀j x,ps[j]? =some x→(x,j)∈c.vars
 pk:∀x∈ps,fd.scope.names.lookup x=some .local∨fd.scope.names.lookup x=some .cell
 binds:∀(s:Nx) (vs:List Nv),Z.K.In s.heap→vs.length≤fn.np→fn.np≤vs.length+fn.dflts.length→∃dvs:List Nv,dvs.length=fn.np -vs.length∧
   (∀D:Addr→Prop,(∀b o,Z.K.lookup b=some o→¬D b)→ak Z D s.heap dvs (fn.dflts.drop (fn.dflts.length -(fn.np -vs.length))))∧BindsTo s fd ⟨vs,[]⟩ (ps.zip (vs++dvs))
noncomputable def EH (Z:Wd) (a:Addr) (fn:Fn):Prop:=∃fo fd body ps c k m,F9 Z a fn fo fd body ps c k m
section
variable {prog:Ob} {w:Pz} {A:Od} {s:Nx}
theorem nO {R:Qx→Nx→Prop} {a:Addr} {o:Obj} {fd:OL} {body:List Stmt} {args:Args} {binds:List (Str×Nv)}
  (hroom:A.depth <recursionLimit) (ho:s.heap.get? a=some o) (hdata:o.data= .func fd) (hlim:s.heap.NoLimit) (hcd:s.heap.CodeRec fd.code fd.qualname)
  (hbody:fd.body= .stmts body) (hbind:BindsTo s fd args binds) (hclo:fd.closure=[])
  (hkind:∀x∈binds,fd.scope.names.lookup x.1=some .local∨(fd.scope.names.lookup x.1=some .cell∧((cellsFrom (s.heap.objs.size+1) fd.scope.names []).lookup x.1).isSome=true))
  (h:∀s₁,InCallC s (Om fd s.heap.objs.size a).locals (bindL (Om fd s.heap.objs.size a).kindOf binds fun _=>none) (Om fd s.heap.objs.size a).cells
    (bindC (Om fd s.heap.objs.size a).kindOf binds fun _=>none) s₁→
   NH (model prog w) (A.deeper (Om fd s.heap.objs.size a)) (execs body (Om fd s.heap.objs.size a)) (fun f s'=>R (.ok (.ret (match f with| .ret v=>v|_=> .none))) s')
    (fun e s'=>NH (model prog w) (A.deeper (Om fd s.heap.objs.size a)) (leaving (Om fd s.heap.objs.size a) e) (fun _ s''=>R (.error e) s'') (fun e' s''=>R (.error e') s'') s') s₁)
  (hco:fd.scope.isCoroutine=false) (hgen:fd.scope.isGenerator=false) (hk:fd.scope.kind= .function):
  PB (model prog w) A (.call (.ref a) args) R s:=by
 refine codeAny_call_function hroom ho hdata hco hgen hbody hcd (hbind _ _ _ _ ?_)
 rw [hclo]
 refine wpAny_newFunctionEnv_cells hk hkind fun env he s' x=> ?_
 subst he
 exact ⟨hlim.keeps x.toInCall.keep,codeAny_func (h s' x)⟩
end
theorem vd {kindOf:Str→Nr US}:∀{binds:List (Str×Nv)} {m:Str→Nr Nv} {x:Str},x∉binds.map (·.1)→bindL kindOf binds m x=m x:=by
 intro binds
 induction binds with
 |nil=>intro m x _;rfl
 |cons p r ih=>
  intro m x hx
  rw [NJ,NW,not_or] at hx
  obtain ⟨n,v⟩:=p
  rw [bindL,ih hx.2]
  by_cases h:kindOf n=some .local
  ·rw [NP h];exact N4 hx.1
  ·rw [N4 h]
theorem u8 {kindOf:Str→Nr US}:∀{binds:List (Str×Nv)} {m:Str→Nr Nv} {x:Str},x∉binds.map (·.1)→bindC kindOf binds m x=m x:=by
 intro binds
 induction binds with
 |nil=>intro m x _;rfl
 |cons p r ih=>
  intro m x hx
  rw [NJ,NW,not_or] at hx
  obtain ⟨n,v⟩:=p
  rw [bindC,ih hx.2]
  by_cases h:kindOf n=some .local
  ·rw [NP h]
  ·rw [N4 h];exact N4 hx.1
theorem lY {kindOf:Str→Nr US}:∀{binds:List (Str×Nv)} {m:Str→Nr Nv} {x:Str} {v:Nv},(binds.map (·.1)).Nodup→(x,v)∈binds→(kindOf x=some .local→bindL kindOf binds m x=some v)∧(kindOf x=some .cell→bindC kindOf binds m x=some v):=by
 intro binds
 induction binds with
 |nil=>intro m x v _ h;cases h
 |cons p r ih=>
  intro m x v hn hm
  rw [NJ,Pl] at hn
  rcases NW.mp hm with e|hm'
  ·subst e
   exact ⟨fun hk=>by rw [bindL,vd hn.1,NP hk];exact NP rfl,fun hk=>by rw [bindC,u8 hn.1,N4 (by rw [hk];decide)];exact NP rfl⟩
  ·obtain ⟨n,w⟩:=p
   exact ⟨fun hk=>by rw [bindL];exact (ih hn.2 hm').1 hk,fun hk=>by rw [bindC];exact (ih hn.2 hm').2 hk⟩
theorem uk {α:Type} {l:List (Str×α)} (hp:l.Pairwise fun x y=>x.2≠y.2) {x y:Str} {c:α} (a:l.lookup x=some c) (b:l.lookup y=some c):x=y:=by
 obtain ⟨i,hi,ei⟩:=Pd (gE a)
 obtain ⟨j,hj,ej⟩:=Pd (gE b)
 have no:∀{i j:Nat} {hi:i <l.length} {hj:j <l.length} {x y:Str},i <j→l[i]=(x,c)→l[j]=(y,c)→RA:=fun {i j hi hj x y} h ei ej=>Pq.mp hp i j hi hj h (by rw [ei,ej])
 rcases Sp i j with h|h|h
 ·exact (no h ei ej).elim
 ·subst h;rw [ei] at ej;exact NC Prod.fst ej
 ·exact (no h ej ei).elim
section
variable {Z:Wd} {n:Nat} {E:Ev} {A:Od} {p:Ob} {loose:List Str} {mg mb:Str→Nr Nv}
theorem oS {vs:List Nv} {ps:List Str} {j:Nat} {x:Str} {v:Nv} (a:ps[j]? =some x) (b:vs[j]? =some v):(x,v)∈ps.zip vs:=
 NN (i:=j) (List.getElem?_zip_eq_some.mpr ⟨a,b⟩)
theorem nc:∀{ps:List Str} {vs:List Nv},ps.length≤vs.length→(ps.zip vs).map (·.1)=ps
 |[],_,_=>rfl
 |_::_,[],h=>absurd h (Nat.not_succ_le_zero _)
 |x::ps,v::vs,h=>NC (x:: ·) (nc (PY h))
theorem bS.get {CA:List Addr} {D:Addr→Prop} {h:Heap} {vs:List Nv} {Us:List aA} (r:bS Z CA D h vs Us):∀{i:Nat} {U:aA},Us[i]? =some U→∃v,vs[i]? =some v∧eF Z CA D h v U:=by
 induction r with
 |nil=>exact fun h=>nomatch h
 |cons a r ih=>
  intro i U h
  cases i with
  |zero=>cases Nq h;exact ⟨_,rfl,a⟩
  |succ i=>exact ih h
theorem FE {Us:List aA} {sz i:Nat} {U:aA} (e:(Us.map some++TA sz none)[i]? =some (some U)):Us[i]? =some U:=by
 rcases Qt i Us.length with l|l
 ·rw [OE (by rw [Nw];exact l),OO] at e
  refine am e fun a h1 h2=> ?_
  cases h2;exact h1
 ·rw [OG (by rw [Nw];exact l)] at e
  cases List.eq_of_mem_replicate (NN e)
structure Gg (Z:Wd) (CA:List Addr) (σ:ag) (D:Addr→Prop) (h:Heap):Prop where
 base:∀b o,Z.base.get? b=some o→h.get? b=some o
 dabove:∀a,D a→Z.base.objs.size≤a
 low:D Z.base.objs.size∨Z.base.objs.size=h.objs.size
 live:∀a,D a→∃o,h.get? a=some o
 cells:aE Z CA σ D h
theorem Gd.gg {CA:List Addr} {σ:ag} {D:Addr→Prop} {h:Heap} (G:Gd Z CA σ D h):Gg Z CA σ D h:=⟨G.base,G.dabove,.inl G.low,G.live,G.cells⟩
theorem Gg.le {CA:List Addr} {σ:ag} {D:Addr→Prop} {h:Heap} (G:Gg Z CA σ D h):Z.base.objs.size≤h.objs.size:=G.low.elim (fun d=>let ⟨_,e⟩:=G.live _ d;NY (N7 e)) N8
theorem Gg.dbase {CA:List Addr} {σ:ag} {D:Addr→Prop} {h:Heap} (G:Gg Z CA σ D h) (a:Addr) (d:D a):Z.base.get? a=none:=gq (G.dabove a d)
noncomputable def Wy (env:Env) (b:Addr):Prop:=b=env.locals∨∃x,env.cells.lookup x=some b
theorem Dn {env:Env} {b:Addr} (w:Wx env b):Wy env b:=w.imp id fun ⟨x,_,l⟩=>⟨x,l⟩
theorem oy {c:Ctx} {ps:List Str} (hvo:kh c.vars) (hpv:∀j x,ps[j]? =some x→(x,j)∈c.vars):ps.Nodup:=
 Pq.mpr fun i j hi hj hij z=>absurd ((hvo.inj _ _ _ _ (hpv i ps[i] (NB hi)) (hpv j ps[j] (NB hj))).mp z) (Re hij)
section
variable {c:Ctx} {fd:OL} {a:Addr} {s s₁:Nx} {CA:List Addr} {σ:ag} {D:Addr→Prop} {ps:List Str} {vals:List Nv} {Us:List aA} {sz:Nat}
theorem KG (x:InCallC s (Om fd s.heap.objs.size a).locals (bindL (Om fd s.heap.objs.size a).kindOf (ps.zip vals) fun _=>none) (Om fd s.heap.objs.size a).cells (bindC (Om fd s.heap.objs.size a).kindOf (ps.zip vals) fun _=>none) s₁):
  ∀b,Wy (Om fd s.heap.objs.size a) b→s.heap.objs.size≤b∧∃o,s₁.heap.get? b=some o:=fun b w=>by
 rcases w with rfl|⟨y,l⟩
 ·exact let ⟨o,_,_,e,_⟩:=x.toInCall.ns;⟨NI _,o,e⟩
 ·exact let ⟨o,e,_⟩:=x.cell y b l;⟨NY (x.above y b (gE l)),o,e⟩
theorem St.init (G:Gg Z CA σ D s.heap) (rs:bS Z CA D s.heap vals Us)
  (x:InCallC s (Om fd s.heap.objs.size a).locals (bindL (Om fd s.heap.objs.size a).kindOf (ps.zip vals) fun _=>none) (Om fd s.heap.objs.size a).cells (bindC (Om fd s.heap.objs.size a).kindOf (ps.zip vals) fun _=>none) s₁)
  (hps:ps.length=Us.length) (hvo:kh c.vars) (hpv:∀j x,ps[j]? =some x→(x,j)∈c.vars) (hpk:∀x∈ps,fd.scope.names.lookup x=some .local∨fd.scope.names.lookup x=some .cell):
  St Z (Om fd s.heap.objs.size a) c.vars (Us.map some++TA sz none) CA σ (fun b=>D b∨Wy (Om fd s.heap.objs.size a) b) s₁.heap:=by
 have keep:=x.toInCall.keep
 have nw:=KG x
 have cellK:∀y,(Om fd s.heap.objs.size a).kindOf y=some .cell→∃q,(Om fd s.heap.objs.size a).cells.lookup y=some q:=fun y hy=>Oq.mp (VY (x:=y) fd.scope.names (s.heap.objs.size+1) [] (.inl hy))
 have len:=rs.length
 have G':Gd Z CA σ (fun b=>D b∨Wy (Om fd s.heap.objs.size a) b) s₁.heap:=
  {base:=fun b o e=>keep b o (G.base b o e)
   dabove:=fun b d=>d.elim (G.dabove b) fun w=>Nt G.le (nw b w).1
   low:=G.low.imp id .inl
   live:=fun b d=>d.elim (fun x=>let ⟨o,e⟩:=G.live b x;⟨o,keep b o e⟩) fun w=>(nw b w).2
   cells:=G.cells.grow keep (fun b o e d=>d.elim id fun w=>absurd (N7 e) (PD.mpr (nw b w).1)) fun b d=> .inl d}
 refine ⟨G',⟨_,x.toInCall.ns⟩,.inr (.inl rfl),fun m=>let ⟨o,e⟩:=G.cells.live m;OD _ (N7 e),fun y q l=>⟨.inr (.inr ⟨y,l⟩),_,x.cell y q l⟩,fun y z q l l'=>uk x.apart l l',cellK,fun y i m U e=> ?_⟩
 have e':=FE e
 have hpi:i <ps.length:=hps.symm▸(NA.mp e').1
 have ep:=NB hpi
 have ey:ps[i]=y:=(hvo.inj _ _ _ _ (hpv i ps[i] ep) m).mpr rfl
 refine Np fun nG=> ?_
 obtain ⟨v,hv,rv⟩:=rs.get e'
 refine nG ?_
 have mz:(y,v)∈ps.zip vals:=oS (by rw [←ey];exact ep) hv
 have nd:((ps.zip vals).map (·.1)).Nodup:=by rw [nc (N8 (hps.trans len.symm))];exact oy hvo hpv
 refine ⟨v,?_,rv.mono fun b o d e=>⟨fun z=>z.elim d fun w=>OD _ (On (N7 e) (nw b w).1),keep b o e⟩⟩
 rcases hpk y (ey▸Vg hpi) with kl|kc
 ·exact .inl ⟨kl,_,x.toInCall.ns,(lY nd mz).1 kl⟩
 ·obtain ⟨q,hq⟩:=cellK y kc
  have:=x.cell y q hq
  rw [(lY nd mz).2 kc] at this
  exact .inr ⟨.inl kc,q,hq,this⟩
end
theorem aE.take {CA CA2:List Addr} {σ σ2:ag} {D D2:Addr→Prop} {h:Heap} (c:aE Z CA2 σ2 D2 h) (pre:CA<+:CA2) (hl:CA.length=σ.length) (sub:∀b,D b→D2 b) (ca:∀a∈CA,D a):aE Z CA (σ2.take σ.length) D h:=by
 refine Np fun nG=> ?_
 obtain ⟨t,rfl⟩:=pre
 refine nG ?_
 have cl:=c.len
 rw [Nu] at cl
 refine ⟨by rw [SL,←cl,←hl,Qc (Oj _ _)],(OU.mp c.nodup).1,fun i b u e e'=> ?_,ca⟩
 have hi:i <CA.length:=(NA.mp e).1
 rw [List.getElem?_take,NP (hl▸hi)] at e'
 exact (c.at_ i b u (by rw [OE hi];exact e) e').mono (fun o x=>x) fun b o d x=>⟨fun z=>d (sub b z),x⟩
structure KF (Z:Wd) (h h':Heap) (CA CA':List Addr) (D D':Addr→Prop):Prop where
 pre:CA<+:CA'
 sub:∀b,D b→D' b
 new:∀b∈CA',b∈CA∨dM Z h h' b
theorem DK {g h2:Heap} {CA CA2:List Addr} {σ σ2 σ':ag} {D D2:Addr→Prop} {W U:aA} {v:Nv} (e:back σ.length W σ2=some (.ok U,σ')) (c:aE Z CA σ D g) (x:KF Z g h2 CA CA2 D D2) (c2:aE Z CA2 σ2 D2 h2) (r:iH Z g CA2 σ2 D2 h2 v W):
  aE Z CA σ' D h2∧iH Z g CA σ' D h2 v U:=by
 have cl:aE Z CA (σ2.take σ.length) D h2:=c2.take x.pre c.len x.sub c.inD
 cases W with
 |v u=>cases Nq e;exact ⟨cl,b8.mono (fun b o d e=>⟨fun z=>d (x.sub b z),e⟩) r⟩
 |own u=>
  refine Np fun nG=> ?_
  cases Nq e
  obtain ⟨b,e,nn,bb,ct,c3⟩:=r
  refine nG ?_
  exact ⟨cl,b,e,nn,bb,ct.mono (fun o e=>e) fun b o d e=>⟨fun z=>d (z.imp (x.sub b) id),e⟩,c3.take x.pre c.len (fun b z=>z.imp (x.sub b) id) fun a m=> .inl (c.inD a m)⟩
 |cell q=>
  by_cases hq:q <σ.length
  ·rw [back,NP hq] at e;cases e
  rw [back,N4 hq] at e
  refine am e fun u e1 e2=> ?_
  cases e2
  obtain ⟨b,hb,rfl⟩:=r
  have mb:b∈CA2:=NN hb
  have nb:b∉CA:=fun m=>by
   obtain ⟨i,hi⟩:=Oy.mp m
   have li:=(NA.mp hi).1
   obtain ⟨t,rfl⟩:=x.pre
   exact hq (jX c2.nodup hb (by rw [OE li];exact hi)▸c.len▸li)
  have nw:=(x.new b mb).resolve_left nb
  have inD:=c2.inD b mb
  exact ⟨cl,b,rfl,nw.none,nw.base,(c2.at_ q b u hb e1).mono (fun o e=>e) fun y o d e=>⟨fun z=>d (z.elim (x.sub y) fun z=>z▸inD),e⟩,c2.take x.pre c.len (fun y z=>z.elim (x.sub y) fun z=>z▸inD) fun a m=> .inl (c.inD a m)⟩
theorem ak.toVs' {CA:List Addr} {D:Addr→Prop} {h:Heap} {vs:List Nv} {us:List V} (r:ak Z D h vs us):bS Z CA D h vs (us.map aA.v):=by
 induction us generalizing vs with
 |nil=>cases r;exact .nil
 |cons u us ih=>cases r with|cons x r=>exact .cons (U:= .v u) x (ih r)
theorem vk {a np d:Nat} (h1:a≤np) (h2:np≤a+d):a+(d -(d -(np -a)))=np:=by rw [Vh (Tj.mpr h2),Qi h1]
theorem sL {d n u:Nat} (h1:d+(n+1)+40 <recursionLimit) (h2:u+10*(n+1)+200 <SJ):d+1+n+40 <recursionLimit∧u+3+10*n+200 <SJ∧d <recursionLimit:=
 ⟨by rw [OA d 1 n,O2 1 n];exact h1,NL (OK (by rw [OA,O2 3];exact N2 (N2 (by decide:3≤10) _) _) _) h2,NL (Nt (Oj d (n+1)) (Oj _ 40)) h1⟩
structure MZ (Z:Wd) (env:Env) (c:Ctx) (ρ:Loc) (CA:List Addr) (σ:ag) (D:Addr→Prop) (g h:Heap):Prop where
 keep:∀b o,g.get? b=some o→h.get? b=some o
 st:St Z env c.vars ρ CA σ (fun b=>D b∨Wy env b) h
 eo:az env c
 new:∀b,Wy env b→g.objs.size≤b
theorem aN.into {env:Env} (R:aN (n+1) A):aN n (A.deeper env):=⟨(sL R.depth R.units).1,(sL R.depth R.units).2.1,R.calm⟩
theorem jl (O:Wd.Ok Z p loose mg mb) {a:Addr} {fn:Fn} {fo:Obj} {fd:OL} {body:List Stmt} {ps:List Str} {c:Ctx} {k m:Nat} (F:F9 Z a fn fo fd body ps c k m) {args:List aA} {σ:ag} (hn:args.length≤fn.np) (hn2:fn.np≤args.length+fn.dflts.length)
  {s:Nx} {vs:List Nv} {CA:List Addr} {D:Addr→Prop} (R:aN (n+1) A) (G:Gg Z CA σ D s.heap) (rs:bS Z CA D s.heap vs args) {RR:Qx→Nx→Prop}
  (h:∀h₁ tk,MZ Z (Om fd s.heap.objs.size a) c (gA fn args) CA σ D s.heap h₁→NH (model Z.prog Z.w) (A.deeper (Om fd s.heap.objs.size a)) (execs body (Om fd s.heap.objs.size a)) (fun f s'=>RR (.ok (.ret (match f with| .ret v=>v|_=> .none))) s')
   (fun e s'=>NH (model Z.prog Z.w) (A.deeper (Om fd s.heap.objs.size a)) (leaving (Om fd s.heap.objs.size a) e) (fun _ s''=>RR (.error e) s'') (fun e' s''=>RR (.error e') s'') s') {s with heap:=h₁,toks:=tk}):PB (model Z.prog Z.w) A (.call (.ref a) ⟨vs,[]⟩) RR s:=by
 have KH:Z.K.In s.heap:=O.X.keeps G.base
 have lenA:=rs.length
 rw [←lenA] at hn hn2
 refine Np fun nG=> ?_
 obtain ⟨dvs,d1,d2,d3⟩:=F.binds s vs KH hn hn2
 refine nG ?_
 have notD:∀b o,Z.K.lookup b=some o→¬D b:=fun b o e d=>by
  have:=O.X b o e
  rw [G.dbase b d] at this;cases this
 have rAll:=rs.append (d2 D notD).toVs'
 rw [lenA] at rAll hn hn2
 have lenAll:(args++(fn.dflts.drop (fn.dflts.length -(fn.np -args.length))).map aA.v).length=fn.np:=by
  rw [Nu,Nw,Pa]
  exact vk hn hn2
 have hkind:∀x∈ps.zip (vs++dvs),fd.scope.names.lookup x.1=some .local∨(fd.scope.names.lookup x.1=some .cell∧((cellsFrom (s.heap.objs.size+1) fd.scope.names []).lookup x.1).isSome=true):=fun x hx=>
  (F.pk x.1 (RP hx).1).imp id fun q=>⟨q,VY _ _ _ (.inl q)⟩
 refine nO (sL R.depth R.units).2.2 (KH _ _ F.at_) F.data (O.T.nolimit.keeps G.base) (VZ KH F.code) F.bod d3 F.clo hkind (fun s₁ x=> ?_) F.co F.gen F.kind
 refine Np fun nG=> ?_
 obtain ⟨h₁,tk,rfl,keep⟩:=x.done
 refine nG ?_
 exact h h₁ tk ⟨keep,St.init (c:=c) (sz:=fn.size -fn.np) G rAll x (F.np.trans lenAll.symm) F.vars F.pv F.pk,⟨F.sc.symm,F.sc▸F.kind,F.glb,F.blt,F.vars⟩,fun b w=>(KG x b w).1⟩
theorem Ez (O:Wd.Ok Z p loose mg mb) (SS:jf Z n E) {a:Addr} {fn:Fn} {fo:Obj} {fd:OL} {body:List Stmt} {ps:List Str} {c:Ctx} {k m:Nat} (F:F9 Z a fn fo fd body ps c k m) {args:List aA} {σ:ag} {r:fc×Loc×ag} (hn:args.length≤fn.np) (hn2:fn.np≤args.length+fn.dflts.length)
  (e1:aH E fn.body (gA fn args) σ=some r) (ho:r.1.ok=true)
  {s:Nx} {vs:List Nv} {CA:List Addr} {D:Addr→Prop} (R:aN (n+1) A) (G:Gg Z CA σ D s.heap) (rs:bS Z CA D s.heap vs args) {RR:Qx→Nx→Prop}
  (hR:∀f h2 tk CA2 D2,aw (We CA) s.heap h2→KF Z s.heap h2 CA CA2 D D2→aE Z CA2 r.2.2 D2 h2→lT Z s.heap CA2 r.2.2 D2 h2 f r.1→RR (.ok (.ret (match f with| .ret v=>v|_=> .none))) {s with heap:=h2,toks:=tk}):PB (model Z.prog Z.w) A (.call (.ref a) ⟨vs,[]⟩) RR s:=
 jl O F hn hn2 R G rs fun h₁ tk x=>iK SS x.eo R.into F.chk (s:={s with heap:=h₁,toks:=tk}) x.st e1 ho _ _ fun f h2 t2 CA2 D2 a2=>
  have al:∀b,h₁.get? b=none→s.heap.get? b=none:=fun _=>(aw.of_all (W:=fun _=>RA) x.keep).alive fun _ w=>w.elim
  hR f h2 t2 CA2 D2 ((aw.of_all x.keep).fresh a2.keep fun b w=>w.imp id fun w=>gq (x.new b (Dn w)))
   ⟨a2.ext.pre,fun b d=>a2.ext.sub b (.inl d),fun b m=>(a2.ext.new b m).imp id fun n=>n.from (al b)⟩ a2.st.cells (a2.flow.back al)
theorem zD (O:Wd.Ok Z p loose mg mb) (SS:jf Z n E) (FO:∀i fn,Z.P.tab i=some fn→EH Z (Z.fa i) fn):qb Z (n+1) (step Z.P E):=fun i args σ U σ' ev A s vs CA D R G rs RR hR=>by
 refine af ev fun fn e1 ev=> ?_
 refine Np fun nG=> ?_
 refine aL ev fun hn ev=> ?_
 obtain ⟨fo,fd,body,ps,c,kk,m,F⟩:=FO i fn e1
 refine nG ?_
 refine af ev fun r e2 ev=> ?_
 obtain ⟨o,ρ,σ2⟩:=r
 have go:=fun ho RR=>Ez (RR:=RR) O SS F (ND (ac hn).1) (ND (ac hn).2) e2 ho R G.gg rs
 cases o with
 |next=>
  refine Np fun nG=> ?_
  cases Nq ev
  refine nG ?_
  refine go rfl RR fun f h2 t2 CA2 D2 k2 x2 c2 F2=> ?_
  have hf:f= .next:=F2
  subst hf
  exact hR .none h2 t2 k2 (c2.take x2.pre G.cells.len x2.sub G.cells.inD) .none
 |cont=>cases ev
 |exc=>cases ev
 |ret W=>
  refine go rfl RR fun f h2 t2 CA2 D2 k2 x2 c2 F2=> ?_
  refine Np fun nG=> ?_
  obtain ⟨v,rfl,r2⟩:∃v,f= .ret v∧_:=F2
  refine nG ?_
  have b:=DK ev G.cells x2 c2 r2
  exact hR v h2 t2 k2 b.1 b.2
end
structure LS (Z:Wd) (n:Nat) (E:Ev):Prop where
 e:bK Z n E
 b:gX Z n E
 s:jf Z n E
 c:qb Z n E
theorem zv {Z:Wd} {p:Ob} {loose:List Str} {mg mb:Str→Nr Nv} (O:Wd.Ok Z p loose mg mb) (M:wf Z) (FO:∀i fn,Z.P.tab i=some fn→EH Z (Z.fa i) fn):∀n,LS Z n (run Z.P n):=by
 intro n
 induction n with
 |zero=>
  refine ⟨?_,?_,?_,?_⟩
  ·intro _ _ _ _ _ _ _ _ _ _ _ _ _ _ _ _ _ ev;cases ev
  ·intro _ _ _ _ _ _ _ _ _ _ _ _ _ _ _ _ _ ev;cases ev
  ·intro _ _ _ _ _ _ _ _ _ _ _ _ _ _ _ _ _ ev;cases ev
  ·intro i args σ U σ' ev;cases ev
 |succ n ih=>exact ⟨zj O M ih.e ih.b ih.c,y7 O M ih.e ih.b ih.c,ze O ih.e ih.b ih.c ih.s,zD O ih.s FO⟩
noncomputable def o9:iJ→Addr
 | .line=>351| .ins=>323| .reg=>195| .imm=>229| .rel=>270| .register=>600
noncomputable def Iq:List Addr:=[94,101,108,115,122,367,374,381,388,395,402,409,416,421,428,435,442,447,454,461,466,471,476,483,490,497,504,511,518,525,532,539,548,360,611,618,625,632,639,646,653,660,665,672,677,348,292,185,219,253,150,226,260]
noncomputable def uL (i:Nat):Addr:=Iq.getD i 0
noncomputable def m7:List Str:=(["condition_names","condition_number","opposite","condition_of","where_next","target_name","jump_condition","is_jump","led","falls","label_places","check_lines","atoms_of","implies","way_known","jump_end","followed","with_label","retargeted","named_elsewhere","kept_labels","reached","without_dead","dropped","without_idle_jumps","turned_about","without_settled","with_ends","block_end","strains","put_in_line","one_round","threaded","told_lines","early_names","late_ending","gpr","_law_base","_law_pen","_law_take","_law_row","_law_goal","_law_between","_law_refused","law"]:List Rc).map NK
noncomputable def xT (i:Nat):Nr Str:=m7[i]?
noncomputable def qU:Aj:=aj
noncomputable def Ki:List eE:=([[],
 [("condition",0)],
 [("condition",0)],
 [("name",0),("stem",1)],
 [("name",0)],
 [("instruction",0),("operand",1)],
 [("instruction",0)],
 [("instruction",0)],
 [("instruction",0),("name",1)],
 [("instruction",0)],
 [("lines",0),("found",1),("at",2),("line",3),("label",4)],
 [("lines",0),("line",1),("operand",2),("places",3)],
 [("condition",0),("name",1)],
 [("one",0),("other",1),("wide",2),("narrow",3)],
 [("known",0),("asked",1)],
 [("lines",0),("places",1),("at",2),("seen",3)],
 [("lines",0),("places",1),("at",2),("known",3),("seen",4),("row",5),("way",6)],
 [("lines",0),("at",1),("entries",2),("taken",3),("number",4),("name",5)],
 [("lines",0),("entries",1),("at",2),("row",3),("places",4),("condition",5),("begin",6),("end",7),("name",8)],
 [("lines",0),("found",1),("line",2),("operand",3)],
 [("lines",0),("entries",1),("used",2)],
 [("lines",0),("entries",1),("places",2),("found",3),("todo",4),("name",5),("at",6),("row",7)],
 [("lines",0),("entries",1),("found",2)],
 [("lines",0),("at",1),("behind",2)],
 [("lines",0),("at",1),("row",2)],
 [("lines",0),("at",1),("row",2),("behind",3),("condition",4),("turned",5)],
 [("lines",0),("at",1),("known",2),("behind",3),("way",4),("row",5)],
 [("lines",0),("places",1),("found",2),("line",3),("row",4),("goal",5)],
 [("lines",0),("begin",1),("at",2)],
 [("lines",0),("places",1),("at",2),("begin",3),("end",4),("spot",5),("line",6),("row",7),("goal",8),("is_within",9)],
 [("lines",0),("places",1),("at",2),("row",3),("begin",4),("end",5),("block",6)],
 [("lines",0),("entries",1)],
 [("lines",0),("entries",1),("found",2),("before",3)],
 [("lines",0)],
 [("size",0)],
 [("size",0)],
 [("number",0),("size",1),("names",2)],
 [],
 [("script",0),("store",1),("cell",2)],
 [("pen",0),("many",1),("found",2)],
 [("pen",0),("at",1),("count",2),("loops",3),("way",4),("goal",5)],
 [("told",0)],
 [("rows",0),("places",1),("found",2),("at",3),("row",4),("goal",5),("span",6)],
 [("lines",0)],
 [("script",0),("pen",1),("count",2),("loops",3),("rows",4),("lines",5),("given",6),("found",7),("told",8),("was",9),("now",10),("name",11),("labels",12),("called",13),("more",14),("odd",15)],
 [("self",0)],
 [("self",0)],
 [("self",0)],
 [("self",0)],
 [("self",0)],
 [("self",0)],
 [("self",0)],
 [("self",0)]]:List (List (Rc×Nat))).map fun l=>l.map fun p=>(NK p.1,p.2)
noncomputable def Al (i:Nat):eE:=Ki.getD i []
noncomputable def gW (prog:Ob) (w:Pz) (K:Frag) (h:Heap):Wd:=⟨prog,w,K,o9,uL,xT,qU,h⟩
noncomputable def Cd (e:Data):Nr OL:=if h:e.ctorIdx=7 then some (TN (motive:=fun _=>OL) e h fun a=>a) else none
theorem xj {e:Data} {q:OL} (h:Cd e=some q):e= .func q:=
 let ⟨k,h⟩:=aM h
 TN (motive:=fun e=>∀k:e.ctorIdx=7,TN (motive:=fun _=>OL) e k (fun a=>a)=q→e= .func q) e k (fun _ _ h=>NC Data.func h) k h
noncomputable def mP:FuncBody→Nr (List Stmt)
 | .stmts b=>some b
 |_=>none
theorem iP {d:FuncBody} {b:List Stmt} (h:mP d=some b):d= .stmts b:=by cases d<;>first|(cases h;done)|(cases Nq h;rfl)
noncomputable def Dp (e:Nv):Nr Addr:=if h:e.ctorIdx=10 then some (TO (motive:=fun _=>Addr) e h fun a=>a) else none
theorem rA {e:Nv} {q:Addr} (h:Dp e=some q):e= .ref q:=
 let ⟨k,h⟩:=aM h
 TO (motive:=fun e=>∀k:e.ctorIdx=10,TO (motive:=fun _=>Addr) e k (fun a=>a)=q→e= .ref q) e k (fun _ _ h=>NC Q1 h) k h
noncomputable def GN (e:Data):Nr (Qe Nv):=if h:e.ctorIdx=2 then some (Ul (motive:=fun _=>Qe Nv) e h fun a _=>a) else none
theorem zH {e:Data} {q:Qe Nv} (h:GN e=some q):∃n,e= .seq q n:=
 let ⟨k,h⟩:=aM h
 Ul (motive:=fun e=>∀k:e.ctorIdx=2,Ul (motive:=fun _=>Qe Nv) e k (fun a _=>a)=q→∃n,e= .seq q n) e k (fun _ n _ h=>⟨n,NC (Data.seq · n) h⟩) k h
noncomputable def x8 (e:Data):Nr P4:=if h:e.ctorIdx=8 then some (Um (motive:=fun _=>P4) e h fun a=>a) else none
theorem rC {e:Data} {q:P4} (h:x8 e=some q):e= .cls q:=
 let ⟨k,h⟩:=aM h
 Um (motive:=fun e=>∀k:e.ctorIdx=8,Um (motive:=fun _=>P4) e k (fun a=>a)=q→e= .cls q) e k (fun _ _ h=>NC Data.cls h) k h
noncomputable def AU (K:Frag) (a:Addr):Nr OL:=(K.lookup a).bind fun o=>Cd o.data
theorem l7 {K:Frag} {a:Addr} {fd:OL} (h:AU K a=some fd):∃o,K.lookup a=some o∧o.data= .func fd:=af h fun o h1 h2=>⟨o,h1,xj h2⟩
noncomputable def Cq (K:Frag) (a:Addr):Nr (List Nv):=(K.lookup a).bind fun o=>if o.cls== .type "tuple" then (GN o.data).map (·.toList) else none
structure Lj (K:Frag) (a:Addr) (vs:List Nv) (o:Obj) (n:Nat):Prop where
 at_:K.lookup a=some o
 cls:o.cls= .type "tuple"
 data:o.data= .seq vs.toArray n
theorem sd {K:Frag} {a:Addr} {vs:List Nv} (h:Cq K a=some vs):∃o n,Lj K a vs o n:=
 af h fun o h1 h2=>let ⟨h3,h4⟩:=bU h2;am h4 fun xs h5 h6=>let ⟨n,h7⟩:=zH h5;⟨o,n,h1,NE h3,by rw [h7,←h6,Array.toArray_toList]⟩
noncomputable def oU (p:Arguments):Bool:=p.posonlyargs.isEmpty&&(p.kwonlyargs.isEmpty&&(p.vararg.isNone&&p.kwarg.isNone))
noncomputable def A8 (fd:OL):Bool:=fd.defaults== .none
noncomputable def td (K:Frag) (fd:OL):Nr Nv:=(Dp fd.defaults).bind fun T=>(Cq K T).bind one
noncomputable def jG (fd:OL):List Str:=fd.params.args.map (·.arg)
noncomputable def sN (K:Frag) (fd:OL):Bool:=codeIn K fd.code fd.qualname&&(fd.closure.isEmpty&&(fd.globals==Og&&(fd.builtins==R7&&(fd.scope.kind== .function&&(!fd.scope.isCoroutine&&(!fd.scope.isGenerator&&oU fd.params))))))
structure CK (K:Frag) (fd:OL):Prop where
 code:codeIn K fd.code fd.qualname=true
 clo:fd.closure=[]
 glb:fd.globals=Og
 blt:fd.builtins=R7
 kind:fd.scope.kind= .function
 co:fd.scope.isCoroutine=false
 gen:fd.scope.isGenerator=false
 ns:oU fd.params=true
theorem lM {K:Frag} {fd:OL} (h:sN K fd=true):CK K fd:=
 let a:=ac h;let b:=ac a.2;let c:=ac b.2;let d:=ac c.2;let e:=ac d.2;let f:=ac e.2;let g:=ac f.2
 ⟨a.1,aF b.1,NE c.1,NE d.1,NE e.1,cJ f.1,cJ g.1,g.2⟩
noncomputable def wy (K:Frag) (fd:OL) (fn:Fn):Bool:=match fn.dflts with
 |[]=>A8 fd
 |_::_=>(fn.dflts==[.tup []])&&(fn.np==2&&(td K fd).any fun d=>(Dp d).any fun e=>(Cq K e).any (·.isEmpty))
noncomputable def Gq (K:Frag) (fnm:Nat→Nr Str) (a:Addr) (fn:Fn) (vars:eE):Bool:=(AU K a).any fun fd=>sN K fd&&(tU vars&&((mP fd.body).any fun body=>bG (cy fnm 40 ⟨fd.scope,vars⟩ 40) body fn.body&&
 ((jG fd).length==fn.np&&((jG fd).zipIdx.all (fun x=>vars.contains x)&&((jG fd).all (fun x=>fd.scope.names.lookup x==some .local||fd.scope.names.lookup x==some .cell)&&wy K fd fn)))))
theorem Aa {x y:Str} {v:Nv} {l:List (Str×Nv)} (h:y≠x):((x,v)::l).lookup y=l.lookup y:=by rw [Pb,PU.mpr h]
theorem zY {x:Str} {v:Nv} {l:List (Str×Nv)}:((x,v)::l).lookup x=some v:=by rw [Pb,Ru]
theorem jP:∀{ps:List Str} {vs:List Nv},ps.Nodup→∀p∈ps.zip vs,(ps.zip vs).lookup p.1=some p.2
 |[],_,_,_,hp=>nomatch hp
 |_::_,[],_,_,hp=>nomatch hp
 |x::ps,v::vs,hn,p,hp=>by
  rw [Sd] at hp ⊢
  rcases NW.mp hp with rfl|hp
  ·exact zY
  ·rw [Aa fun z=>(Pl.mp hn).1 (by rw [←z];exact (RP (show (p.1,p.2)∈_ from hp)).1)]
   exact jP (Pl.mp hn).2 p hp
theorem k7:∀{ps:List Str} {vs:List Nv} {zs:List (Str×Nv)},ps.length=vs.length→(∀p∈ps.zip vs,zs.lookup p.1=some p.2)→ps.filterMap (fun n=>(zs.lookup n).map (n,·))=ps.zip vs
 |[],_,_,_,_=>rfl
 |_::_,[],_,h,_=>nomatch h
 |x::ps,v::vs,zs,h,hz=>by
  have e:zs.lookup x=some v:=hz (x,v) OY
  rw [QL,e,Sd]
  exact NC ((x,v):: ·) (k7 (PX h) fun p hp=>hz p (OS _ hp))
theorem hY {α β:Type} {m:Sem α} {x:α} {k:α→Sem β} {r:Sem β} (h:m=pure x) (h2:k x=r):m>>=k=r:=by rw [h];exact h2
theorem vX {α β σ:Type} {l:List α} {g:α→β} {f:β→σ→Sem (ForInStep σ)} {st:σ} (h:l=[]):forIn (l.map g) st f=pure st:=by rw [h];rfl
theorem BY {ps:List Str} {vs:List Nv} {m:Nat} (hm:m≤vs.length):¬(!((ps.take m).filter fun n=>((ps.zip vs).lookup n).isNone).isEmpty)=true:=by
 have:(ps.take m).filter (fun n=>((ps.zip vs).lookup n).isNone)=[]:=by
  refine List.filter_eq_nil_iff.mpr fun x hx z=> ?_
  obtain ⟨i,hi,rfl⟩:=Pd hx
  have h1:=hi
  rw [SL,Nat.lt_min] at h1
  rw [UX] at z
  exact lK (oS (NB h1.2) (NB (On h1.1 hm))) (OI.mp z)
 rw [this];nofun
theorem En {ps:List Str} {vs:List Nv} {y:Str} (h:y∉ps):(ps.zip vs).lookup y=none:=by
 induction ps generalizing vs with
 |nil=>rfl
 |cons x ps ih=>
  cases vs with
  |nil=>rfl
  |cons v vs=>
   rw [Sd,Pb,show (y==x)=false from PU.mpr fun z=>h (by rw [z];exact .head _)]
   exact ih fun m=>h (.tail _ m)
theorem zA {f:Str×Nv→List (Str×Nv)→Sem (ForInStep (List (Str×Nv)))} (hf:∀p r,f p r=pure (.yield (if (r.lookup p.1).isNone=true then r++[p] else r))) {ps:List Str} {vs ds:List Nv} (nd:ps.Nodup) (l1:vs.length≤ps.length) (l2:ps.length≤vs.length+ds.length) (l3:ds.length≤1):
  forIn ((ps.drop (ps.length -ds.length)).zip ds) (ps.zip vs) f=pure (ps.zip (vs++ds.drop (ds.length -(ps.length -vs.length)))):=by
 refine Np fun nG=> ?_
 cases ds with
 |nil=>rw [UC,Sw,NQ] at nG;exact nG rfl
 |cons d ds=>
  cases RD (Nat.le_zero.mp (PY l3))
  rcases Qz ps with rfl|⟨i,y,rfl⟩
  ·exact nG rfl
  ·rw [P9] at nd l1 l2 nG
   have e1:(i++[y]).length=i.length+1:=Nu
   rw [e1] at l1 l2
   have e2:(i++[y]).drop (i.length+1 -1)=[y]:=List.drop_left
   have hc:∀r,forIn [(y,d)] r f=pure (if (r.lookup y).isNone=true then r++[(y,d)] else r):=fun r=>(RN ..).trans (hY (hf _ _) rfl)
   rw [e1,show [d].length=1 from rfl,e2,show [y].zip [d]=[(y,d)] from rfl,hc] at nG
   have ny:y∉i:=fun m=>(OU.mp nd).2.2 y m y (.head _) rfl
   rcases OW l1 with l|l
   ·have l4:vs.length=i.length:=Tn (ON l) (PY l2)
    have e3:(i++[y]).zip vs=i.zip vs:=by
     have:=VC (r₁:=[y]) (r₂:=[]) l4.symm
     rw [NQ,UC,NQ] at this
     exact this
    rw [e3,En ny,Uy,NP rfl,l4,Q5,VC l4.symm] at nG
    exact nG rfl
   ·have hy:((i++[y]).zip vs).lookup y≠none:=fun z=>lK (oS (ps:=i++[y]) (x:=y) (j:=i.length) (by rw [OG (NI _),PZ];rfl) (NB (by rw [l];exact OM _))) z
    rw [N4 fun z=>hy (OI.mp z),l,PZ] at nG
    exact nG (by rw [show [d].drop (1 -0)=[] from rfl,NQ])
noncomputable def dd (n:Nat) (d:Nr (Qe Nv)):List Nv:=(d.getD #[]).toList.drop ((d.getD #[]).toList.length -n)
noncomputable def pz (fd:OL):List Str:=fd.params.posonlyargs.map (·.arg)++fd.params.args.map (·.arg)
theorem HO {fd:OL} {vs:List Nv} (ns:oU fd.params=true):∃k,bindArgs fd ⟨vs,[]⟩=seqItems? fd.defaults>>=k∧((pz fd).Nodup→vs.length≤(pz fd).length→∀d,(pz fd).length≤vs.length+(dd (pz fd).length d).length→(dd (pz fd).length d).length≤1→
  k d=pure ((pz fd).zip (vs++(dd (pz fd).length d).drop ((dd (pz fd).length d).length -((pz fd).length -vs.length))))):=by
 have n1:=ac ns
 have n2:=ac n1.2
 have n3:=ac n2.2
 refine ⟨_,rfl,fun nd l1 d l2 l3=>(N4 ?h1).trans ((N4 ?h2).trans (hY (x:=(pz fd).zip (vs++(dd (pz fd).length d).drop ((dd (pz fd).length d).length -((pz fd).length -vs.length)))) ?h3 (hY (vX (aF n2.1)) ((N4 ?h4).trans ?h5))))⟩
 case h1=>exact fun z=>PD.mpr l1 (ND (ac z).1)
 case h2=>exact BY (ps:=pz fd) (vs:=vs) (Nat.sub_le_of_le_add l2)
 case h3=>
  refine zA (fun p r=> ?_) nd l1 l2 l3
  obtain ⟨x,y⟩:=p
  exact (apply_ite (fun r=>pure (Pm r)) _ _ _).symm
 case h4=>exact fun z=>nomatch z
 case h5=>
  dsimp only
  rw [OI.mp n3.1,OI.mp n3.2,aF n2.1,Os,NQ]
  refine NC pure (k7 (Eq.symm (?_ :(vs++(dd (pz fd).length d).drop ((dd (pz fd).length d).length -((pz fd).length -vs.length))).length=(pz fd).length)) (jP nd))
  rw [Nu,Pa];exact vk l1 l2
noncomputable def wK (s:Nx) (fd:OL) (ds:List Nv):Prop:=(fd.defaults= .none∧ds=[])∨∃T o n,fd.defaults= .ref T∧s.heap.get? T=some o∧o.data= .seq ds.toArray n
theorem nr {s:Nx} {fd:OL} {vs ds:List Nv} (ns:oU fd.params=true) (nd:(jG fd).Nodup) (l1:vs.length≤(jG fd).length) (l2:(jG fd).length≤vs.length+ds.length) (l3:ds.length≤1) (l4:ds.length≤(jG fd).length) (D:wK s fd ds):
  BindsTo s fd ⟨vs,[]⟩ ((jG fd).zip (vs++ds.drop (ds.length -((jG fd).length -vs.length)))):=by
 refine Np fun nG=> ?_
 obtain ⟨k,h1,h2⟩:=HO (vs:=vs) ns
 rw [show pz fd=jG fd by unfold pz;rw [aF (ac ns).1];rfl] at h2
 have go:∀d,dd (jG fd).length d=ds→k d=pure ((jG fd).zip (vs++ds.drop (ds.length -((jG fd).length -vs.length)))):=fun d e=>by
  have:=h2 nd l1 d
  rw [e] at this
  exact this l2 l3
 rcases D with ⟨h5,rfl⟩|⟨T,o,n,h5,h6,h7⟩
 ·exact nG (.of_eq (h1.trans (hY (x:=none) (by rw [h5];rfl) (go none Sw))))
 ·exact nG (.of_defaults h5 h6 h7 h1 (go (some ds.toArray) (by show ds.drop (ds.length -_)=ds;rw [Nat.sub_eq_zero_of_le l4];rfl)))
theorem lR {K:Frag} {fd:OL} {v:Nv} (h:td K fd=some v):∃T o n,fd.defaults= .ref T∧K.lookup T=some o∧o.data= .seq #[v] n:=by
 refine af h fun T h1 h2=> ?_
 refine af h2 fun vs h3 h4=> ?_
 refine Np fun nG=> ?_
 obtain ⟨o,n,E⟩:=sd h3
 have:=gK h4
 subst this
 refine nG ?_
 exact ⟨T,o,n,rA h1,E.at_,E.data⟩
theorem DV {K:Frag} {fd:OL} {fn:Fn} (h:wy K fd fn=true):∃ds:List Nv,ds.length≤1∧ds.length≤fn.np∧(∀s:Nx,K.In s.heap→wK s fd ds)∧∀(Z:Wd) (D:Addr→Prop) (g:Heap),K.In g→(∀b o,K.lookup b=some o→¬D b)→ak Z D g ds fn.dflts:=by
 refine Np fun nG=> ?_
 unfold wy at h
 cases hf:fn.dflts with
 |nil=>
  rw [hf] at h nG
  exact nG ⟨[],Oe _,Oe _,fun s _=> .inl ⟨NE h,rfl⟩,fun Z D g _ _=> .nil⟩
 |cons d0 ds=>
  rw [hf] at h nG
  have q1:=ac h
  have q2:=ac q1.2
  have e1:d0::ds=[.tup []]:=NE q1.1
  refine ax q2.2 fun d q3 q4=> ?_
  refine ax q4 fun e q5 q6=> ?_
  refine ax q6 fun ys q7 q8=> ?_
  cases aF q8
  cases rA q5
  obtain ⟨oe,ne,te⟩:=sd q7
  obtain ⟨T,o,n,g1,g2,g3⟩:=lR q3
  rw [e1] at nG
  exact nG ⟨[.ref e],NI 1,by rw [NE q2.1];exact NZ 1,fun s KH=> .inr ⟨T,o,n,g1,KH _ _ g2,g3⟩,fun Z D g KH hD=> .cons (.tup (Oe _) (hD _ _ te.at_) (KH _ _ te.at_) te.cls te.data .nil) .nil⟩
theorem EQ {Z:Wd} {a:Addr} {fn:Fn} {vars:eE} (h:Gq Z.K Z.fname a fn vars=true):EH Z a fn:=by
 refine Np fun nG=> ?_
 refine ax h fun fd h1 h2=> ?_
 obtain ⟨o,h3,h4⟩:=l7 h1
 have R:=lM (ac h2).1
 have vo:=og (ac (ac h2).2).1
 refine ax (ac (ac h2).2).2 fun body h5 h6=> ?_
 have h7:=ac h6
 have h8:=ac h7.2
 have h9:=ac h8.2
 have h10:=ac h9.2
 have pv:∀j x,(jG fd)[j]? =some x→(x,j)∈vars:=fun j x e=>hZ (NO.mp h9.1 (x,j) (Oy.mpr ⟨j,by rw [TP,e];simp⟩))
 have nd:=oy (c:=⟨fd.scope,vars⟩) vo pv
 obtain ⟨ds,d1,d2,d3,d4⟩:=DV h10.2
 have hnp:(jG fd).length=fn.np:=NE h8.1
 refine nG ⟨o,fd,body,jG fd,⟨fd.scope,vars⟩,40,40,h3,h4,R.code,iP h5,R.clo,R.glb,R.blt,R.kind,R.co,R.gen,rfl,vo,h7.1,hnp,pv,fun x hx=>(Pe.mp (NO.mp h10.1 x hx)).imp NE NE,fun s vs KH l1 l2=> ?_⟩
 have hl:=(d4 Z (fun _=>RA) s.heap KH fun b o e d=>d).length
 rw [←hl] at l2 ⊢
 refine ⟨ds.drop (ds.length -(fn.np -vs.length)),?_,fun D hD=>(d4 Z D s.heap KH hD).drop _,?_⟩
 ·rw [Pa,Vh (Tj.mpr l2)]
 ·have b:=nr (s:=s) (vs:=vs) R.ns nd (hnp▸l1) (hnp▸l2) d1 (hnp▸d2) (d3 s KH)
  rw [hnp] at b;exact b
theorem oA {α β:Type} [BEq α] [LawfulBEq α] {l:List (α×β)} {x:α} {k:β} (h:l.lookup x=some k):(x,k)∈l:=by
 induction l with
 |nil=>cases h
 |cons p l ih=>
  obtain ⟨y,b⟩:=p
  rw [Pb] at h
  cases hq:x==y with
  |true=>rw [hq] at h;cases Nq h;cases NE hq;exact .head _
  |false=>rw [hq] at h;exact .tail _ (ih h)
noncomputable def Cs (x:Sg):List (Nat×Nat):=Rg (bF x) ((bF x).length+1)
noncomputable def KT (x y:Sg):=Q2 (bF x) (bF y) 0 (bF x).length ((bF x).length+1)
noncomputable def A4 (x:Sg) (sep:Nr Sg) (r:List Sg):Bool:=(r.all eU&&decide (r.length≤16777216))&&match sep with
 |none=> !(Cs x==[(0,(bF x).length)])&&(decide (PySem.wordsOf (bF x)=r.map bF)&&(decide ((bF x).length≤PV)&&decide ((Cs x).length≤PV)))
 |some y=> !(decide ((bF x).length <(bF y).length)||decide (QJ (bF x) <QJ (bF y)))&&(!((bF y).length==0)&&
   (!(KT x y).isEmpty&&(decide (Sy (bF x) (KT x y) (bF y).length=r.map bF)&&(decide ((bF x).length≤PV)&&decide (r.length≤PV)))))
theorem uh {x:Sg} {sep:Nr Sg} {r:List Sg} (h:A4 x sep r=true):mM x sep r:=by
 have h1:=ac h
 have h2:=ac h1.1
 refine ⟨⟨h2.1,ND h2.2⟩,?_⟩
 cases sep with
 |none=>
  have a:=ac h1.2
  have b:=ac a.2
  have c:=ac b.2
  exact ⟨cJ a.1,ND b.1,ND c.1,ND c.2⟩
 |some y=>
  have a:=ac h1.2
  have b:=ac a.2
  have c:=ac b.2
  have d:=ac c.2
  have e:=ac d.2
  exact ⟨cJ a.1,cJ b.1,cJ c.1,ND d.1,ND e.1,ND e.2⟩
theorem wX:qz.all (fun p=>A4 p.1.1 p.1.2 p.2)=true:=by kernel_rfl
theorem yP (x:Sg) (sep:Nr Sg) (r:List Sg) (e:qU.splits x sep=some r):mM x sep r:=
 uh (NO.mp wX _ (oA (show qz.lookup (x,sep)=some r from e)))
noncomputable def fY (x:Nr (Nr Nv)):Bool:=x==some none
noncomputable def jC (x:Nr (Nr Nv)) (a:Addr):Bool:=x==some (some (.ref a))
noncomputable def CX (e:Nv):Nr Str:=if h:e.ctorIdx=6 then some (TQ (motive:=fun _=>Str) e h fun a _=>a) else none
theorem sj {e:Nv} {q:Str} (h:CX e=some q):∃t,e= .str q t:=
 let ⟨k,h⟩:=aM h
 TQ (motive:=fun e=>∀k:e.ctorIdx=6,TQ (motive:=fun _=>Str) e k (fun a _=>a)=q→∃t,e= .str q t) e k (fun _ t _ h=>⟨t,NC (Wj · t) h⟩) k h
noncomputable def Cz (x:Nr (Nr Nv)) (s:Str):Bool:=x.any fun y=>y.any fun v=>CX v==some s
theorem vn {x:Nr (Nr Nv)} {s:Str} (h:Cz x s=true):∃t,x=some (some (.str s t)):=
 let ⟨y,h1,h2⟩:=bR h;let ⟨v,h3,h4⟩:=bR h2;let ⟨t,h5⟩:=sj (NE h4);⟨t,by rw [h1,h3,h5]⟩
noncomputable def m6:List iJ:=[.line,.ins,.reg,.imm,.rel,.register]
noncomputable def BH:List Bf:=[.len,.list_,.tuple_,.dict_,.str_,.int_,.all_,.min_,.max_]
noncomputable def wZ:List D7:=[.told,.symbol]
theorem iu (c:iJ):c∈m6:=by cases c<;>decide
theorem rB (b:Bf):b∈BH:=by cases b<;>decide
theorem qu (m:D7):m∈wZ:=by cases m<;>decide
noncomputable def Hq (K:Frag) (i:Nat):Bool:=isFn K (.ref (uL i))&&keepIn K (.ref (uL i))
noncomputable def J8 (K:Frag):Bool:=m6.all fun c=>c.fields.all fun f=>plainGet K (o9 c) (fs f)&&(hasDictIn K (o9 c)&&(fY (findIn K (.ref (o9 c)) (fs f))&&noGet K none))
noncomputable def GV (K:Frag):Bool:=m6.all fun c=>wZ.all fun m=>(qU.meth c m).all fun i=>plainGet K (o9 c) (mn m)&&(jC (findIn K (.ref (o9 c)) (mn m)) (uL i)&&Hq K i)
noncomputable def Cp (K:Frag):Bool:=Cy.all (fun p=>eU p.2&&Cz (nsIn K Og (bF p.1)) (bF p.2))&&(m7.zipIdx.all (fun p=>jC (nsIn K Og p.1) (uL p.2)&&keepIn K (.ref (uL p.2)))&&
 (m6.all (fun c=>jC (nsIn K Og (cn c)) (o9 c)&&keepIn K (.ref (o9 c)))&&(BH.all (fun b=>fY (nsIn K Og (bn b)))&&(fY (nsIn K Og "range")&&fY (nsIn K Og "enumerate")))))
theorem FV:(m6.all fun c=>c.fields.all fun f=>wZ.all fun m=>fs f !=mn m)=true:=by kernel_rfl
theorem Kk:(BH.all fun b=>bn b !=("__name__":Str))=true:=by kernel_rfl
theorem K9 (b:Bf):bootBuiltins (bn b)=some (Lp b):=by cases b<;>first|rfl|kernel_rfl
theorem HW:bootBuiltins "range"=some (.type "range"):=by first|rfl|kernel_rfl
theorem Hx:bootBuiltins "enumerate"=some (.type "enumerate"):=by first|rfl|kernel_rfl
noncomputable def JO (K:Frag):Bool:=(Pf 53).all fun i=>(qU.tab i).all fun fn=>Gq K xT (uL i) fn (Al i)
noncomputable def Lm (K:Frag):Bool:=(K.lookup 677).isSome&&(J8 K&&(GV K&&(Cp K&&JO K)))
theorem J7 {prog:Ob} {w:Pz} {K:Frag} {h:Heap} {p:Ob} {loose:List Str} {mg mb:Str→Nr Nv} (g:Lm K=true) (X:K.In h) (T:TopRead p loose mg mb h):(gW prog w K h).Ok p loose mg mb:=
 have g1:=ac g
 have g2:=ac g1.2
 have g3:=ac g2.2
 have g4:=ac (ac g3.2).1
 have g5:=ac g4.2
 have g6:=ac g5.2
 have g7:=ac g6.2
 {X:=X
  T:=T
  splits:=yP
  sysM:=let ⟨o,e⟩:=Oq.mp g1.1;PE (by decide) (N7 (X _ _ e))
  fld:=fun c f hf=>by
   have a:=ac (NO.mp (NO.mp g2.1 c (iu c)) f hf)
   have b:=ac a.2
   have d:=ac b.2
   exact ⟨a.1,b.1,none,NE d.1,d.2⟩
  meth:=fun c m i e=>by
   have a:=NO.mp (NO.mp g3.1 c (iu c)) m (qu m)
   rw [show qU.meth c m=some i from e] at a
   have a:=ac a
   have b:=ac a.2
   have d:=ac b.2
   exact ⟨a.1,NE b.1,d.1,d.2⟩
  noFld:=fun c m f hf=>jy (NO.mp (NO.mp (NO.mp FV c (iu c)) f hf) m (qu m))
  glob:=fun x s e=>have a:=ac (NO.mp g4.1 _ (oA (show Cy.lookup x=some s from e)));let ⟨t,q⟩:=vn a.2;⟨t,a.1,q⟩
  fn:=fun i x e=>have a:=ac (NO.mp g5.1 (x,i) (Oy.mpr ⟨i,by rw [TP,show m7[i]? =some x from e];simp⟩));⟨NE a.1,a.2⟩
  cls:=fun c=>have a:=ac (NO.mp g6.1 c (iu c));⟨NE a.1,a.2⟩
  bf:=fun b=>⟨NE (NO.mp g7.1 b (rB b)),K9 b,jy (NO.mp Kk b (rB b))⟩
  rng:=⟨NE (ac g7.2).1,HW⟩
  enm:=⟨NE (ac g7.2).2,Hx⟩}
theorem DO {i:Nat} {fn:Fn} (e:qU.tab i=some fn):i <53:=(NA.mp (show JY[i]? =some fn from e)).1
theorem ki {prog:Ob} {w:Pz} {K:Frag} {h:Heap} (g:Lm K=true):∀i fn,(gW prog w K h).P.tab i=some fn→EH (gW prog w K h) ((gW prog w K h).fa i) fn:=fun i fn e=>
 have g5:=ac (ac (ac (ac g).2).2).2
 EQ (vars:=Al i) (by
  have:=NO.mp g5.2 i (Qp.mpr (DO e))
  rw [show qU.tab i=some fn from e] at this
  exact this)
noncomputable def xC (x:Nr (Nr Nv)) (n:Rc):Bool:=x==some (some (.builtin n))
noncomputable def lL (K:Frag) (C:Addr) (name:Str):Bool:=xC (findIn K (.ref C) "__setattr__") "object.__setattr__"&&(plainOver K C&&(fY (takerIn K C name)&&(clsIn K C).any (·.hasDict)))
section
variable {prog:Ob} {w:Pz} {A:Od} {X:Nv→Nx→Prop} {s:Nx} {K:Frag} {C x dx:Addr} {es:List PN} {n:Nat} {name:Str} {v:Nv}
theorem tI (h:es.any (·.key.isStr name)=false):es.findIdx? (fun x=>x.key.isStr name)=none:=by
 have:=any_of_findIdx name es
 rw [h] at this
 cases hq:es.findIdx? (fun x=>x.key.isStr name) with
 |none=>rfl
 |some i=>rw [hq] at this;cases this
theorem uA {Q:Unit→Nx→Prop} (KX:K.In s.heap) (hx:s.heap.get? x=some (Rb C dx)) (hdx:s.heap.get? dx=some (dictOf es n)) (ht:lL K C name=true) (hne:es.any (·.key.isStr name)=false) (hrk:es.any (·.refKey)=false) (hz:es.length≤900)
  (h:∀h' t,Pn dx s.heap h'→h'.get? dx=some (dictOf (es++[⟨Rn w.params name,.str name t,v⟩]) (n+1))→Q () {s with heap:=h',toks:=s.toks+2}):
  NH (model prog w) A (setAttr (.ref x) name v) Q X s:=by
 have u1:=ac ht
 have u2:=ac u1.2
 have u3:=ac u2.2
 have I:InstAt s.heap x (Rb C dx) C (some (dictOf es n)):=⟨hx,rfl,rfl,hdx⟩
 refine set_plain KX I (NE u1.1) (osa_open (s:={s with toks:=s.toks+1}) KX I u2.1 (NE u3.1) fun b=> ?_)
 refine Np fun nG=> ?_
 obtain ⟨cd,hc,hd'⟩:=any_some u3.2
 refine nG ?_
 have hput:putL name (Rn w.params name) (.str name (s.toks+1)) v es=es++[⟨Rn w.params name,.str name (s.toks+1),v⟩]:=by rw [←putL_find,tI hne]
 have hupd:(s.heap.update dx (Obj.putName name (Rn w.params name) (.str name (s.toks+1)) v)).get? dx=some (dictOf (es++[⟨Rn w.params name,.str name (s.toks+1),v⟩]) (n+1)):=by
  rw [Qy _ hdx (by rw [putName_dict];rfl),putName_dict,hput]
  have:putN name es n=n+1:=by unfold putN;rw [hne];rfl
  rw [this]
 refine Ny (NM (Ny (Ny (TR hx (Ny (Looks.here (s:={s with toks:=s.toks+1}) (Vu KX hc) ?_))))))
 rw [hd']
 refine NM (a:=some dx) (Ny (NM (Ny ?_)))
 unfold nsSet
 refine Ny (Ny (Vf (NM (Ny (wpAny_mkText (Ny (TR hdx ?_)))))))
 dsimp only
 rw [aRefKeyMayBeTheName_at]
 have c:(!es.toArray.any (·.key.isStr name)&&es.toArray.any (·.refKey))=false:=by
  rw [←Vi,←Vi,hrk,V0]
 rw [c]
 refine wpAny_updatePart hdx ?_
 refine Ny (Vj hupd (Vk (by rw [UN,TS,Nu,Tw];omega)) ?_)
 exact NM (h _ _ (T5 ..) hupd)
end
structure Ct (fsl:List gV) (es:List PN):Prop where
 ref:es.any (·.refKey)=false
 key:∀f,f∉fsl→es.any (·.key.isStr (fs f))=false
theorem zc {fsl:List gV} {es:List PN} (K:jK fsl es):Ct fsl es:=by
 induction K with
 |nil=>exact ⟨rfl,fun _ _=>rfl⟩
 | @cons f fl e es t hk K ih=>
  refine ⟨?_,fun g hg=> ?_⟩
  ·rw [Rz,ih.ref,Bool.or_false];unfold Vd;rw [hk]
  ·rw [Rz,ih.key g fun m=>hg (OS _ m),Bool.or_false,hk]
   exact PU.mpr fun z=>hg (by rw [A6 f g z];exact OY)
theorem xw {fsl:List gV} {es:List PN} (K:jK fsl es) {f:gV} {e:PN} {t:Tok} (h:e.key= .str (fs f) t):jK (fsl++[f]) (es++[e]):=by
 induction K with
 |nil=>exact .cons h .nil
 |cons a _ ih=>exact .cons a ih
set_option genCtorIdx true in
inductive IA|set (f:gV) (i:Nat)|tup (f:gV) (i:Nat)|base (s:Sg)
noncomputable def F3 (us:List V) (a:IA):Nr (gV×V):=match a with
 | .set f i=>us[i]?.map fun u=>(f,u)
 | .tup f i=>us[i]?.bind fun u=>(fG u).map fun ws=>(f,.tup ws)
 | .base s=>some (.kind,.str s)
noncomputable def qw (us:List V) (as:List IA):Nr (List (gV×V)):=List.rec (motive:=fun _=>Nr (List (gV×V))) (some []) (fun a _ ih=>(F3 us a).bind fun p=>ih.map fun ps=>p::ps) as
noncomputable def gU (sc:Px) (x:Str):Bool:=sc.names.lookup x==some .local&& !(x==("__debug__":Str))
noncomputable def pA (sc:Px) (slf:Str) (st:Stmt):Nr (Str×Expr):=(mO st).bind fun q=>(one q.1).bind fun t=>(tm t).bind fun a=>(cA a.1).bind fun z=>if z==slf&&gU sc z then some (a.2.1,q.2.1) else none
theorem qG {sc:Px} {slf:Str} {st:Stmt} {q:Str×Expr} (h:pA sc slf st=some q):gU sc slf=true∧∃zp ap pos,st= .Assign [.Attribute (.Name slf zp) q.1 ap] q.2 pos:=
 af h fun r h1 h=>af h fun t h2 h=>af h fun a h3 h=>af h fun z h4 h=>by
  refine Np fun nG=> ?_
  refine aL h fun h5 h6=> ?_
  have hz:z=slf:=NE (ac h5).1
  obtain ⟨zp,h7⟩:=aY h4
  refine nG ?_
  refine ⟨hz▸(ac h5).2,zp,a.2.2,r.2.2,?_⟩
  rw [sx h1,gK h2,lm h3,h7,hz,←Nq h6]
noncomputable def Ak (st:Stmt):Nr (Expr×Str×List Expr):=(wj st).bind o0
noncomputable def BL (es:List Expr):Nr (Str×Str):=two es fun a b=>(cA a).bind fun z=>(lX b).bind fun k=>(IJ k).map fun c=>(z,c)
noncomputable def AN (sc:Px) (slf:Str) (ps:List Str) (st:Stmt) (a:IA):Bool:=match a with
 | .set f i=>(pA sc slf st).any fun q=>q.1==fs f&&(cA q.2).any fun y=>ps[i]? ==some y&&gU sc y
 | .tup f i=>(pA sc slf st).any fun q=>q.1==fs f&&(fT q.2).any fun r=>r.1==bn .tuple_&&(oN sc r.1&&kM r.2 fun e=>(cA e).any fun y=>ps[i]? ==some y&&gU sc y)
 | .base s=>(Ak st).any fun r=>(cA r.1).any fun o=>o==("Operand":Str)&&(oN sc o&&(r.2.1==("__init__":Str)&&(BL r.2.2).any fun z=>z.1==slf&&(gU sc slf&&z.2==bF s)))
noncomputable def Bj (sc:Px) (slf:Str) (ps:List Str) (sts:List Stmt) (as:List IA):Bool:=List.rec (motive:=fun _=>List IA→Bool) List.isEmpty (fun st _ ih as=>jQ as fun a as=>AN sc slf ps st a&&ih as) sts as
structure K6 (Z:Wd) (D:Addr→Prop) (h:Heap) (dx:Addr) (fsl:List gV) (us:List V) (es:List PN) (n:Nat):Prop where
 at_:h.get? dx=some (dictOf es n)
 key:jK fsl es
 val:ak Z D h (es.map (·.val)) us
 len:es.length=fsl.length
structure ul (Z:Wd) (D:Addr→Prop) (h:Heap) (x dx:Addr) (c:iJ) (fsl:List gV) (us:List V):Prop where
 obj:h.get? x=some (Rb (Z.ca c) dx)
 dict:∃es n,K6 Z D h dx fsl us es n
structure Dz (Z:Wd) (D:Addr→Prop) (x dx:Addr) (c:iJ) (env:Env) (m:Str→Nr Nv) (h0 h:Heap) (fsl:List gV) (us:List V):Prop where
 keep:aw (fun b=>b=dx) h0 h
 base:∀b o,Z.base.get? b=some o→h.get? b=some o
 ns:h.Ns env.locals m
 inst:ul Z D h x dx c fsl us
 live:iz D h
noncomputable def un (Z:Wd) (c:iJ):Prop:=∀f,lL Z.K (Z.ca c) (fs f)=true
structure IG (k:Nat) (A:Od):Prop where
 depth:A.depth+k <recursionLimit
 calm:A.handled=none
structure vJ (Z:Wd) (D:Addr→Prop) (x dx:Addr) (c:iJ):Prop where
 cp:un Z c
 xD:D x
 dxD:D dx
 bdx:Z.base.get? dx=none
 bx:Z.base.objs.size≤x
noncomputable def Fc (Z:Wd) (fI:Addr):Prop:=∀(A:Od) (s:Nx) (x dx:Addr) (c:iJ) (fsl:List gV) (us:List V) (D:Addr→Prop) (k:Sg) (t:Tok),eU k=true→IG 5 A→vJ Z D x dx c→(∀b o,Z.base.get? b=some o→s.heap.get? b=some o)→iz D s.heap→ul Z D s.heap x dx c fsl us→ .kind∉fsl→fsl.Nodup→fsl.length <800→
  ∀R:Qx→Nx→Prop,(∀h' tk,aw (fun b=>b=dx) s.heap h'→ul Z D h' x dx c (fsl++[.kind]) (us++[.str k])→R (.ok (.ret .none)) {s with heap:=h',toks:=tk})→PB (model Z.prog Z.w) A (.call (.ref fI) ⟨[.ref x,.str (bF k) t],[]⟩) R s
structure Ha (Z:Wd) (b fI:Addr) (mc:Nv):Prop where
 nm:nsIn Z.K Og "Operand"=some (some (.ref b))
 ga:specialIn Z.K (.ref b) "__getattribute__"=some (some (.builtin "type.__getattribute__"))
 rd:readsIn Z.K b mc=true
 fd:findCls Z.K (.ref b) mc "__init__"=some (.val (.ref fI))
 kp:keepIn Z.K (.ref fI)=true
 run:Fc Z fI
noncomputable def nM (Z:Wd):Prop:=∃b fI mc,Ha Z b fI mc
section
variable {Z:Wd} {A:Od} {X:Nv→Nx→Prop} {s:Nx} {D:Addr→Prop} {x dx:Addr} {c:iJ} {env:Env} {m:Str→Nr Nv} {h0:Heap} {fsl:List gV} {us0 us:List V} {p:Ob} {loose:List Str} {mg mb:Str→Nr Nv}
theorem J2 {n m:Nat} (a:n=m) (h:m <800):n≤900:=by omega
theorem ou {f:gV} {v:Nv} {u:V} {Q:Unit→Nx→Prop} (O:Wd.Ok Z p loose mg mb) (P:vJ Z D x dx c) (dL:env.locals≠dx) (I:Dz Z D x dx c env m h0 s.heap fsl us0) (nf:f∉fsl) (hz:fsl.length <800) (r:b8 Z D s.heap v u)
  (h:∀h' tk,Dz Z D x dx c env m h0 h' (fsl++[f]) (us0++[u])→Q () {s with heap:=h',toks:=tk}):NH (model Z.prog Z.w) A (setAttr (.ref x) (fs f) v) Q X s:=by
 refine Np fun nG=> ?_
 obtain ⟨es,n,E⟩:=I.inst.dict
 refine nG ?_
 have k:=zc E.key
 refine uA (O.X.keeps I.base) I.inst.obj E.at_ (P.cp f) (k.key f nf) k.ref (J2 E.len hz) fun h' t sb hd'=> ?_
 have old:∀b o,¬D b→s.heap.get? b=some o→¬D b∧h'.get? b=some o:=fun b o d e=>⟨d,sb.extBut b o (fun z=>d (z▸P.dxD)) e⟩
 have nx:x≠dx:=fun z=>by have:=I.inst.obj;rw [z,E.at_] at this;cases this
 refine h h' _ ⟨I.keep.trans (aw.sameBut sb rfl),fun b o e=>sb.extBut b o (fun z=>by rw [z,P.bdx] at e;cases e) (I.base b o e),I.ns.sameBut sb dL,⟨sb.extBut _ _ nx I.inst.obj,_,_,hd',xw E.key rfl,?_,by rw [Nu,Nu,E.len];rfl⟩,fun d dd=> ?_⟩
 ·rw [N1]
  exact (E.val.mono old).append (.cons (r.mono old) .nil)
 ·by_cases z:d=dx
  ·subst z;exact ⟨_,hd'⟩
  ·exact let ⟨o,e⟩:=I.live d dd;⟨o,sb.extBut d o z e⟩
end
section
variable {Z:Wd} {A:Od} {X:Nv→Nx→Prop} {s:Nx} {D:Addr→Prop} {x dx:Addr} {c:iJ} {env:Env} {m:Str→Nr Nv} {h0:Heap} {fsl:List gV} {us0 us:List V} {p:Ob} {loose:List Str} {mg mb:Str→Nr Nv}
theorem f9 {M:Model} {y:Str} {yp:Pos} {v:Nv} {Q:Nv→Nx→Prop} (hk:env.scope.kind= .function) (hn:s.heap.Ns env.locals m) (hl:gU env.scope y=true) (hm:m y=some v) (hq:Q v s):NH M A (eval (.Name y yp) env) Q X s:=
 wpAny_Name (TD hk (by unfold PT;exact NE (ac hl).1) hn hm hq) (cJ (ac hl).2)
structure HK (env:Env) (m:Str→Nr Nv) (Z:Wd) (D:Addr→Prop) (x dx:Addr) (h0:Heap) (slf:Str) (ps:List Str) (us:List V):Prop where
 kind:env.scope.kind= .function
 glb:env.globals=Og
 blt:env.builtins=R7
 dL:env.locals≠dx
 slf:m slf=some (.ref x)
 args:∀(i:Nat) (y:Str),ps[i]? =some y→∀u,us[i]? =some u→∃v,m y=some v∧b8 Z D h0 v u
theorem CZ {sc:Px} {slf f:Str} {st:Stmt} {B:Expr→Bool} {P:Prop} (hc:(pA sc slf st).any (fun q=>q.1==f&&B q.2)=true) (K:∀zp ap e pos,st= .Assign [.Attribute (.Name slf zp) f ap] e pos→gU sc slf=true→B e=true→P):P:=by
 refine ax hc fun q h1 h2=> ?_
 obtain ⟨h3,zp,ap,pos,e1⟩:=qG h1
 have a:=ac h2
 exact K zp ap q.2 pos (by rw [e1,NE a.1]) h3 a.2
theorem F5 {sc:Px} {ps:List Str} {i:Nat} {e:Expr} {P:Prop} (h:(cA e).any (fun y=>ps[i]? ==some y&&gU sc y)=true) (K:∀y yp,e= .Name y yp→ps[i]? =some y→gU sc y=true→P):P:=by
 refine ax h fun y h1 h2=> ?_
 obtain ⟨yp,e1⟩:=aY h1
 exact K y yp e1 (NE (ac h2).1) (ac h2).2
theorem Jv {sc:Px} {B:Expr→Bool} {e:Expr} {P:Prop} (h:(fT e).any (fun r=>r.1==bn .tuple_&&(oN sc r.1&&kM r.2 B))=true) (K:∀np a cpos,e= .Call (.Name (bn .tuple_) np) [a] [] cpos→oN sc (bn .tuple_)=true→B a=true→P):P:=by
 refine ax h fun r h1 h2=> ?_
 obtain ⟨np,cpos,e1⟩:=cU h1
 have a:=ac h2
 have b:=ac a.2
 refine ib b.2 fun x e2 h3=> ?_
 exact K np x cpos (by rw [e1,e2,NE a.1]) (NE a.1▸b.1) h3
theorem Ja {es:List Expr} {z:Str×Str} {P:Prop} (h:BL es=some z) (K:∀zp kn kp,es=[.Name z.1 zp,.Constant (.str z.2) kn kp]→P):P:=by
 refine pB h fun a b e1 h=> ?_
 refine af h fun zn h2 h=>af h fun kc h3 h=>am h fun c h4 h=> ?_
 obtain ⟨zp,e2⟩:=aY h2
 obtain ⟨kn,kp,e3⟩:=gS h3
 rw [←h] at K
 exact K zp kn kp (by rw [e1,e2,e3,uz h4])
theorem I8 {sc:Px} {slf:Str} {ps:List Str} {st:Stmt} {k:Sg} {P:Prop} (h:AN sc slf ps st (.base k)=true) (K:∀np ap cpos pos zp kn kp,st= .Expr (.Call (.Attribute (.Name "Operand" np) "__init__" ap) [.Name slf zp,.Constant (.str (bF k)) kn kp] [] cpos) pos→(ap.endLine==cpos.line)=true→
  oN sc "Operand"=true→gU sc slf=true→P):P:=by
 refine ax h fun r h1 h2=> ?_
 refine ax h2 fun o h3 h4=> ?_
 have a:=ac h4
 have b:=ac a.2
 have d:=ac b.2
 refine ax d.2 fun z h5 h6=> ?_
 have g:=ac h6
 have l:=ac g.2
 refine af h1 fun e h7 h8=>Ja h5 fun zp kn kp e3=> ?_
 obtain ⟨pos,e1⟩:=lP h7
 obtain ⟨ap,cpos,e2,hl⟩:=iR h8
 obtain ⟨np,e4⟩:=aY h3
 exact K np ap cpos pos zp kn kp (by rw [e1,e2,e3,e4,NE a.1,NE d.1,NE g.1,NE l.2]) hl (NE a.1▸b.1) l.1
theorem Dz.grows {h h1:Heap} {fsl:List gV} {us0:List V} (I:Dz Z D x dx c env m h0 h fsl us0) (g:bM h h1):Dz Z D x dx c env m h0 h1 fsl us0:=
 let ⟨es,n,ed⟩:=I.inst.dict
 ⟨I.keep.trans (aw.of_all g),fun b o e=>g b o (I.base b o e),I.ns.keeps g,⟨g _ _ I.inst.obj,es,n,g _ _ ed.at_,ed.key,ed.val.grows g,ed.len⟩,fun d dd=>let ⟨o,e⟩:=I.live d dd;⟨o,g _ _ e⟩⟩
theorem AD {ia:IA} {slf:Str} {ps:List Str} {st:Stmt} (O:Wd.Ok Z p loose mg mb) (HB:(nM Z∧IG 5 A)∨∀k,ia≠IA.base k) (P:vJ Z D x dx c) (E:HK env m Z D x dx h0 slf ps us) (hc:AN env.scope slf ps st ia=true)
  (I:Dz Z D x dx c env m h0 s.heap fsl us0) (R:A.handled=none) {q:gV×V} (ev:F3 us ia=some q) (hok:∀k,ia= .base k→eU k=true) (nf:q.1∉fsl) (ndf:fsl.Nodup) (hz:fsl.length <800) {Q:Flow→Nx→Prop}
  (h:∀h' tk,Dz Z D x dx c env m h0 h' (fsl++[q.1]) (us0++[q.2])→Q .next {s with heap:=h',toks:=tk}):NH (model Z.prog Z.w) A (exec st env) Q X s:=by
 have gh:∀b o,¬D b→h0.get? b=some o→¬D b∧s.heap.get? b=some o:=fun b o d e=>⟨d,I.keep b o e fun z=>d (z▸P.dxD)⟩
 refine Np fun nG=> ?_
 cases ia with
 |set f i=>
  refine CZ (f:=fs f) (B:=fun e:Expr=>(cA e).any fun y=>ps[i]? ==some y&&gU env.scope y) hc fun zp ap e pos he h3 h4=>F5 h4 fun y yp e4 h5 h6=>am ev fun u e1 e2=> ?_
  obtain ⟨v,hm,rv⟩:=E.args _ _ h5 _ e1
  rw [he,e4] at nG
  rw [←e2] at h nf
  exact nG (Qh (hs:=by rfl) (f9 E.kind I.ns h6 hm (f9 E.kind I.ns h3 E.slf (ou O P E.dL I nf hz (rv.mono gh) fun h' tk I'=>h h' tk I'))))
 |tup f i=>
  refine CZ (f:=fs f) (B:=fun e:Expr=>(fT e).any fun r:Str×List Expr=>r.1==bn .tuple_&&(oN env.scope r.1&&kM r.2 fun e=>(cA e).any fun y=>ps[i]? ==some y&&gU env.scope y)) hc fun zp ap e pos he h3 h4=>Jv h4 fun np a cpos e4 g h4=>F5 h4 fun y yp e5 h5 h6=>af ev fun u e1 ev=>am ev fun ws e2 ev=> ?_
  obtain ⟨v,hm,rv⟩:=E.args _ _ h5 _ e1
  obtain ⟨o1,o2,o3⟩:=O.bf .tuple_
  rw [he,e4,e5] at nG
  rw [←ev] at h nf
  refine nG (Qh (hs:=by rfl) (Pt (O6 E.kind (by unfold PT;exact NE (ac g).1) (QQ (mg:=mg) (mb:=mb) (by rw [E.glb];exact O.T.g.keeps I.base) (VU O.X O.T.g o1) (by rw [E.blt];exact O.T.b.keeps I.base) ((O.T.builtins _ o3).trans o2) ?_) (cJ (ac g).2))))
  refine iD (Z:=Z) (pE .tuple_) rfl ?_
  rw [bt rfl]
  refine O9 (f9 E.kind I.ns h6 hm (Ps ⟨O.X.keeps I.base,?_⟩))
  have hbf:vO .tuple_ [u]=some (.tup ws):=by show (fG u).map V.tup=_;rw [e2];rfl
  refine vz (Z:=Z) (D:=D) (b:= .tuple_) I.live (fun d nd=>PU.mpr fun z=> ?_) R (.cons (.inl (rv.mono gh)) .nil) hbf fun v' h1 t1 g1 r1=> ?_
  ·exact absurd (z▸On O.sysM (NY (NL P.bx (N7 I.inst.obj)))) (PD.mpr nd)
  ·exact f9 (s:={s with heap:=h1,toks:=t1}) E.kind (I.ns.keeps g1) h3 E.slf (ou (s:={s with heap:=h1,toks:=t1}) O P E.dL (I.grows g1) nf hz r1 fun h' tk I'=>h h' tk I')
 |base k=>
  refine I8 hc fun np ap cpos pos zp kn kp he hl g h3=> ?_
  have ev:=Nq ev
  obtain ⟨⟨b',fI,mc,B⟩,R5⟩:=HB.resolve_right fun z=>z _ rfl
  rw [he] at nG
  rw [←ev] at h nf
  refine nG (Rl (hi:=by unfold interactive;rw [E.kind];rfl) (hs:=by rfl) ?_)
  refine im (Z:=Z) (k:=1) (c:=⟨env.scope,[]⟩) (cs:=[.stuck,.stuck]) rfl hl (by show 2 <20;decide) rfl ?_
  refine O6 E.kind (by unfold PT;exact NE (ac g).1) (Qn (mg:=mg) (by rw [E.glb];exact O.T.g.keeps I.base) (mg_of O.X O.T.g B.nm) fun pl=> ?_) (cJ (ac g).2)
  refine method_cls (O.X.keeps I.base) B.ga (cls_value (O.X.keeps I.base) B.rd B.fd rfl ?_)
  refine iD (Z:=Z) (.inr (.inr B.kp)) rfl ?_
  rw [bt rfl]
  refine O9 (f9 E.kind I.ns h3 E.slf ?_)
  rw [bt rfl]
  refine O9 (R9 (pos:=kp) (k:=kn) (Ps ⟨O.X.keeps I.base,P6 ?_⟩))
  refine B.run A {s with toks:=s.toks+1+1} x dx c fsl us0 D k _ (hok k rfl) R5 P I.base I.live I.inst nf ndf hz _ fun h' tk k' i'=> ?_
  refine h h' tk ⟨I.keep.trans k',fun b o e=>k' b o (I.base b o e) fun z=>(by rw [z,P.bdx] at e;cases e),I.ns.at' fun o e=>k' _ o e E.dL,i',fun d dd=> ?_⟩
  by_cases z:d=dx
  ·exact z▸let ⟨_,_,e⟩:=i'.dict;⟨_,e.at_⟩
  ·exact let ⟨o,e⟩:=I.live d dd;⟨o,k' d o e z⟩
noncomputable def yM (ias:List IA):Bool:=ias.all fun a=>match a with| .base k=>eU k|_=>true
theorem zu {ias:List IA} (h:yM ias=true) {a:IA} (m:a∈ias):∀k,a= .base k→eU k=true:=fun k e=>by have:=NO.mp h a m;rw [e] at this;exact this
theorem zN {slf:Str} {ps:List Str} (O:Wd.Ok Z p loose mg mb) (P:vJ Z D x dx c) (E:HK env m Z D x dx h0 slf ps us) (R:A.handled=none):
  ∀{sts:List Stmt} {ias:List IA} {s:Nx} {fsl:List gV} {us0:List V} {fvs:List (gV×V)},Bj env.scope slf ps sts ias=true→((nM Z∧IG 5 A)∨∀k,IA.base k∉ias)→yM ias=true→Dz Z D x dx c env m h0 s.heap fsl us0→qw us ias=some fvs→(fsl++fvs.map (·.1)).Nodup→fsl.length+fvs.length≤800→∀{Q:Flow→Nx→Prop},
   (∀h' tk,Dz Z D x dx c env m h0 h' (fsl++fvs.map (·.1)) (us0++fvs.map (·.2))→Q .next {s with heap:=h',toks:=tk})→NH (model Z.prog Z.w) A (execs sts env) Q X s:=by
 intro sts
 induction sts with
 |nil=>
  intro ias s fsl us0 fvs hc HB ho I ev nd hz Q h
  refine Np fun nG=> ?_
  cases aF hc
  cases Nq ev
  refine nG ?_
  exact Qb (h s.heap s.toks (by rw [Os,Os,NQ,NQ];exact I))
 |cons st sts ih=>
  intro ias s fsl us0 fvs hc HB ho I ev nd hz Q h
  refine Np fun nG=> ?_
  obtain ⟨a,as,rfl,hc⟩:=cV hc
  refine nG ?_
  refine af ev fun q e1 ev=>am ev fun fvs' e2 ev=> ?_
  subst ev
  rw [NJ] at nd
  have n2:=OU.mp nd
  rw [O5] at hz
  refine Ov (AD O (HB.imp id fun z k hq=>z k (by rw [hq];exact .head _)) P E (ac hc).1 I R e1 (zu ho (.head _)) (fun mf=>n2.2.2 q.1 mf q.1 (.head _) rfl) n2.1 (by omega) fun h1 t1 I1=> ?_)
  refine ih (s:={s with heap:=h1,toks:=t1}) (ac hc).2 (HB.imp id fun z k hq=>z k (.tail _ hq)) (ac ho).2 I1 e2 (by rw [NR];exact nd) (by rw [Nu,Tw];omega) fun h2 t2 I2=>h h2 t2 ?_
  rw [NR,NR] at I2
  exact I2
structure Lg (Z:Wd) (a:Addr) (np:Nat) (dfl:Bool) (ias:List IA) (fo:Obj) (fd:OL) (body:List Stmt) (slf:Str) (ps:List Str):Prop where
 at_:Z.K.lookup a=some fo
 data:fo.data= .func fd
 rest:CK Z.K fd
 bod:fd.body= .stmts body
 chk:Bj fd.scope slf ps body ias=true
 oks:yM ias=true
 len:ps.length=np
 nd:(slf::ps).Nodup
 loc:∀x∈slf::ps,fd.scope.names.lookup x=some .local
 binds:∀(s:Nx) (x:Nv) (vs:List Nv),Z.K.In s.heap→vs.length=np∨(dfl=true∧vs.length+1=np)→∃dvs:List Nv,(vs.length=np→dvs=[])∧(vs.length+1=np→∃t,dvs=[.str (bF []) t])∧
   BindsTo s fd ⟨x::vs,[]⟩ ((slf::ps).zip (x::(vs++dvs)))
noncomputable def vV (Z:Wd) (a:Addr) (np:Nat) (dfl:Bool) (ias:List IA):Prop:=∃fo fd body slf ps,Lg Z a np dfl ias fo fd body slf ps
noncomputable def oi (np:Nat) (us:List V):List V:=us++(if us.length=np then [] else [.str []])
theorem AL {d k:Nat} (h:d+k <recursionLimit):d <recursionLimit:=NL (Oj ..) h
theorem J4 {d:Nat} (h:d+10 <recursionLimit):d+1+5 <recursionLimit:=NL (N2 (by decide:6≤10) d) h
theorem rQ (O:Wd.Ok Z p loose mg mb) {a:Addr} {np:Nat} {dfl:Bool} {ias:List IA} (IO:vV Z a np dfl ias) (HB:(nM Z∧IG 10 A)∨∀k,IA.base k∉ias) {s:Nx} (bs:∀b o,Z.base.get? b=some o→s.heap.get? b=some o) (P:vJ Z D x dx c)
  (L:iz D s.heap) {fsl:List gV} {us0:List V} (I:ul Z D s.heap x dx c fsl us0) {vs:List Nv} {us:List V} (ra:ak Z D s.heap vs us) (hn:us.length=np∨(dfl=true∧us.length+1=np)) {fvs:List (gV×V)}
  (ev:qw (oi np us) ias=some fvs) (nd:(fsl++fvs.map (·.1)).Nodup) (hz:fsl.length+fvs.length≤800) (R:IG 0 A) {RR:Qx→Nx→Prop}
  (h:∀h' tk,aw (fun b=>b=dx) s.heap h'→ul Z D h' x dx c (fsl++fvs.map (·.1)) (us0++fvs.map (·.2))→RR (.ok (.ret .none)) {s with heap:=h',toks:=tk}):PB (model Z.prog Z.w) A (.call (.ref a) ⟨.ref x::vs,[]⟩) RR s:=by
 refine Np fun nG=> ?_
 obtain ⟨fo,fd,body,slf,ps,F⟩:=IO
 have KH:Z.K.In s.heap:=O.X.keeps bs
 have lenA:=ra.length
 obtain ⟨dvs,d1,d2,d3⟩:=F.binds s (.ref x) vs KH (by rw [lenA];exact hn)
 refine nG ?_
 have rl:ak Z D s.heap (vs++dvs) (oi np us)∧(oi np us).length=np:=by
  unfold oi
  rcases hn with hn|⟨_,hn⟩
  ·rw [d1 (lenA.trans hn),NP hn,NQ,NQ];exact ⟨ra,hn⟩
  ·obtain ⟨t,rfl⟩:=d2 (by rw [lenA];exact hn)
   rw [N4 (by omega),Nu]
   exact ⟨ra.append (.cons (.str _ _ rfl) .nil),hn⟩
 have rd:=rl.1
 have lenD:(slf::ps).length=(Q1 x::(vs++dvs)).length:=NC TC (F.len.trans (rl.2.symm.trans rd.length.symm))
 have hkind:∀y∈(slf::ps).zip (.ref x::(vs++dvs)),fd.scope.names.lookup y.1=some .local∨(fd.scope.names.lookup y.1=some .cell∧((cellsFrom (s.heap.objs.size+1) fd.scope.names []).lookup y.1).isSome=true):=fun y hy=>
  .inl (F.loc y.1 (RP (show (y.1,y.2)∈_ from hy)).1)
 refine nO (AL R.depth) (KH _ _ F.at_) F.data (O.T.nolimit.keeps bs) (VZ KH F.rest.code) F.bod d3 F.rest.clo hkind (fun s₁ xx=> ?_) F.rest.co F.rest.gen F.rest.kind
 refine Np fun nG=> ?_
 obtain ⟨h₁,tk,rfl,keep⟩:=xx.done
 have ndz:(((slf::ps).zip (.ref x::(vs++dvs))).map (·.1)).Nodup:=by rw [nc (N8 lenD)];exact F.nd
 have km:∀y v,(y,v)∈(slf::ps).zip (.ref x::(vs++dvs))→bindL (Om fd s.heap.objs.size a).kindOf ((slf::ps).zip (.ref x::(vs++dvs))) (fun _=>none) y=some v:=fun y v hm=>
  (lY ndz hm).1 (F.loc y (RP hm).1)
 have HB':(nM Z∧IG 5 (A.deeper (Om fd s.heap.objs.size a)))∨∀k,IA.base k∉ias:=HB.imp (fun z=>⟨z.1,J4 z.2.depth,R.calm⟩) id
 have old:∀b o,¬D b→s.heap.get? b=some o→¬D b∧h₁.get? b=some o:=fun b o d e=>⟨d,keep b o e⟩
 obtain ⟨es,n,ed⟩:=I.dict
 refine nG ?_
 have dL:(Om fd s.heap.objs.size a).locals≠dx:=fun z=>by
  have:=ed.at_
  rw [←z] at this
  exact OD _ (N7 this)
 have I0:Dz Z D x dx c (Om fd s.heap.objs.size a) (bindL (Om fd s.heap.objs.size a).kindOf ((slf::ps).zip (.ref x::(vs++dvs))) fun _=>none) h₁ h₁ fsl us0:=
  ⟨aw.refl,fun b o e=>keep b o (bs b o e),xx.toInCall.ns,⟨keep _ _ I.obj,es,n,keep _ _ ed.at_,ed.key,ed.val.mono old,ed.len⟩,fun d dd=>let ⟨o,e⟩:=L d dd;⟨o,keep _ _ e⟩⟩
 have E:HK (Om fd s.heap.objs.size a) (bindL (Om fd s.heap.objs.size a).kindOf ((slf::ps).zip (.ref x::(vs++dvs))) fun _=>none) Z D x dx h₁ slf ps (oi np us):=
  ⟨F.rest.kind,F.rest.glb,F.rest.blt,dL,km slf _ (.head _),fun i y hy u hu=>let ⟨v,hv,rv⟩:=rd.get hu;⟨v,km y v (.tail _ (oS hy hv)),rv.mono old⟩⟩
 exact zN (A:=A.deeper (Om fd s.heap.objs.size a)) O P E R.calm (s:={s with heap:=h₁,toks:=tk}) F.chk HB' F.oks I0 ev nd hz fun h2 t2 I2=>h h2 t2 ((aw.of_all keep).trans I2.keep) I2.inst
end
structure Gn (Z:Wd) (c:iJ) (a:Addr) (np:Nat) (dfl:Bool) (ias:List IA):Prop where
 plain:un Z c
 makes:makesIn Z.K (Z.ca c)=true
 init:findIn Z.K (.ref (Z.ca c)) "__init__"=some (some (.ref a))
 fn:typeIn Z.K (.ref a)=some (.type "function")
 ok:vV Z a np dfl ias
 vals:∀us w,iF c us=some w→(us.length=np∨(dfl=true∧us.length+1=np))∧∃fvs:List (gV×V),qw (oi np us) ias=some fvs∧fvs.map (·.1)=c.fields∧w= .inst c (fvs.map (·.2))
theorem tT (c:iJ):c.fields.Nodup:=by cases c<;>decide
theorem xu (c:iJ):c.fields.length≤4:=by cases c<;>decide
theorem qo {A:Od} {C:Addr} {vs:List Nv} {n:Nat} (h:aN n A):IG 10 (A.under (.builtin "type.__call__" ⟨.ref C::vs,[]⟩)):=by
 have wt:(UO "type.__call__" ⟨.ref C::vs,[]⟩).weight≤5:=by
  show _+_+_+_≤5
  have:(UO "type.__call__" ⟨.ref C::vs,[]⟩).isGuard=false:=by show guardIds.contains "type.__call__"=false;decide
  rw [this]
  show 0+1+0+0≤5
  decide
 refine ⟨?_,h.calm⟩
 have:=h.depth
 show A.depth+_+10 <_
 omega
theorem Bm {Z:Wd} {p:Ob} {loose:List Str} {mg mb:Str→Nr Nv} (O:Wd.Ok Z p loose mg mb) (HB:nM Z) (CO:∀c,∃a np dfl ias,Gn Z c a np dfl ias):wf Z:=by
 intro c us w hw A s vs CA σ D Rm G ra R hR
 refine Np fun nG=> ?_
 obtain ⟨a,np,dfl,ias,P⟩:=CO c
 obtain ⟨hn,fvs,e1,e2,rfl⟩:=P.vals us w hw
 have KH:Z.K.In s.heap:=O.X.keeps G.base
 obtain ⟨hp,g,d,t,os⟩:=s
 refine nG ?_
 dsimp only at KH ra G hR ⊢
 refine make_core (makes_of KH P.makes) (Tk KH P.init) (fun self=>bind_fn KH self P.fn) (.inl rfl) ?_
 generalize hH1:hp.push emptyDict=H1
 have hz1:H1.objs.size=hp.objs.size+1:=by rw [←hH1,Rk]
 generalize hdx:hp.objs.size=dx at hz1
 have gdx:H1.get? dx=some emptyDict:=by rw [←hH1,←hdx];exact Oa _ rfl
 have ndx:hp.get? dx=none:=by rw [←hdx];exact d9 _
 have nx:hp.get? (dx+1)=none:=by rw [←hdx];exact gq (NZ _)
 have gx:(H1.push (Rb (Z.ca c) dx)).get? (dx+1)=some (Rb (Z.ca c) dx):=by rw [←hz1];exact Oa _ rfl
 have up:∀b o,hp.get? b=some o→(H1.push (Rb (Z.ca c) dx)).get? b=some o:=fun b o e=>NV _ (hH1▸NV _ e)
 have gdx2:(H1.push (Rb (Z.ca c) dx)).get? dx=some emptyDict:=NV _ gdx
 have old:∀b o,¬D b→hp.get? b=some o→¬DI D (dx+1) dx b∧(H1.push (Rb (Z.ca c) dx)).get? b=some o:=fun b o q e=>
  ⟨fun z=>z.elim q fun z=>z.elim (fun z=>ar nx (z▸e)) fun z=>ar ndx (z▸e),up b o e⟩
 have bs:Z.base.objs.size≤dx:=by rw [←hdx];exact NY G.size
 have deep:=qo (C:=Z.ca c) (vs:=vs) Rm
 refine rQ (s:=⟨H1.push (Rb (Z.ca c) dx),g,d,t,os⟩) (x:=dx+1) (dx:=dx) (c:=c) (D:=DI D (dx+1) dx) (fsl:=[]) (us0:=[]) (us:=us) O P.ok (.inl ⟨HB,deep⟩) (fun b o e=>up b o (G.base b o e)) ⟨P.plain,.inr (.inl rfl),.inr (.inr rfl),gq bs,PO bs⟩
  (fun b q=> ?_) ⟨gx,[],0,gdx2,.nil,.nil,rfl⟩ (ra.mono old) hn e1 (by rw [Qv,e2];exact tT c) ?_ ⟨NL (N2 (Oe _) _) deep.depth,Rm.calm⟩ fun h' tk kp I=> ?_
 ·rcases q with q|q|q
  ·exact let ⟨o,e⟩:=G.live b q;⟨o,up b o e⟩
  ·rw [q];exact ⟨_,gx⟩
  ·rw [q];exact ⟨_,gdx2⟩
 ·have:=NC P1 e2
  rw [Nw] at this
  rw [this]
  exact Nt (N2 (xu c) 0) (by decide)
 ·refine ⟨rfl,?_⟩
  rw [Qv,Qv,e2] at I
  refine Np fun nG=> ?_
  obtain ⟨es,n,ed⟩:=I.dict
  refine nG ?_
  exact hR (.ref (dx+1)) h' tk (fun b o e=>kp b o (up b o e) fun z=>ar ndx (z▸e)) (.inst (G.fresh_notD nx) (G.fresh_notD ndx) I.obj ed.at_ ed.key (ed.val.mono fun b o q e=>⟨fun z=>q (.inl z),e⟩))
noncomputable def BJ (l:List Str):Bool:=List.rec (motive:=fun _=>Bool) true (fun x r ih=>r.all (fun y=> !(y==x))&&ih) l
theorem pS:∀{l:List Str},BJ l=true→l.Nodup
 |[],_=> .nil
 |_::_,h=>Pl.mpr ⟨fun m=>(by have:=cJ (NO.mp (ac h).1 _ m);rw [Ru] at this;cases this),pS (ac h).2⟩
noncomputable def GF (K:Frag) (fd:OL) (np:Nat) (dfl:Bool):Bool:=match dfl with
 |false=>A8 fd
 |true=>(td K fd).any fun v=>CX v==some (bF [])&&(np==2||np==3)
noncomputable def Jf (K:Frag) (a:Addr) (ias:List IA) (np:Nat) (dfl:Bool):Bool:=(AU K a).any fun fd=>sN K fd&&((mP fd.body).any fun body=>jQ (jG fd) fun slf ps=>Bj fd.scope slf ps body ias&&(yM ias&&(ps.length==np&&(BJ (slf::ps)&&((slf::ps).all (fun x=>fd.scope.names.lookup x==some .local)&&GF K fd np dfl)))))
theorem zP {K:Frag} {fd:OL} {np:Nat} {dfl:Bool} (h:GF K fd np dfl=true):∃ds:List Nv,ds.length≤1∧ds.length≤np∧(dfl=false→ds=[])∧(dfl=true→∃t,ds=[.str (bF []) t])∧∀s:Nx,K.In s.heap→wK s fd ds:=by
 cases dfl with
 |false=>exact ⟨[],Oe _,Oe _,fun _=>rfl,(fun z=>nomatch z),fun s _=> .inl ⟨NE h,rfl⟩⟩
 |true=>
  refine Np fun nG=> ?_
  refine ax h fun v h1 h2=> ?_
  obtain ⟨t,h7⟩:=sj (NE (ac h2).1)
  obtain ⟨T,o,n,g1,g2,g3⟩:=lR h1
  exact nG ⟨[v],NI 1,(Pe.mp (ac h2).2).elim (fun z=>by rw [NE z];exact NZ 1) fun z=>(by rw [NE z];exact Qd 1 2),(fun z=>nomatch z),fun _=>⟨t,by rw [h7]⟩,fun s KH=> .inr ⟨T,o,n,g1,KH _ _ g2,g3⟩⟩
theorem rg {Z:Wd} {a:Addr} {np:Nat} {dfl:Bool} {ias:List IA} (h:Jf Z.K a ias np dfl=true):vV Z a np dfl ias:=by
 refine Np fun nG=> ?_
 refine ax h fun fd h1 h2=> ?_
 obtain ⟨o,h3,h4⟩:=l7 h1
 have R:=lM (ac h2).1
 refine ax (ac h2).2 fun body h5 h6=> ?_
 refine hS h6 fun slf ps h7 h8=> ?_
 have a1:=ac h8
 have a2:=ac a1.2
 have a3:=ac a2.2
 have a4:=ac a3.2
 have a5:=ac a4.2
 have nd:=pS a4.1
 have hnp:ps.length=np:=NE a3.1
 obtain ⟨ds,d1,d2,d3,d4,d5⟩:=zP a5.2
 have hp:(jG fd).length=np+1:=(NC P1 h7).trans (NC TC hnp)
 refine nG ⟨o,fd,body,slf,ps,h3,h4,R,iP h5,a1.1,a2.1,hnp,nd,fun x hx=>NE (NO.mp a5.1 x hx),fun s x vs KH hl=> ?_⟩
 have go:=fun l1 l2=>nr (s:=s) (vs:=x::vs) R.ns (h7▸nd) l1 l2 d1 (hp▸PO d2) (d5 s KH)
 rw [hp] at go
 refine ⟨ds.drop (ds.length -(np+1 -(vs.length+1))),fun z=> ?_,fun z=> ?_,?_⟩
 ·rw [z,PZ];exact List.drop_length
 ·have ht:dfl=true:=hl.elim (fun w=>absurd (z.trans w.symm) (SW _)) And.left
  obtain ⟨t,e⟩:=d4 ht
  exact ⟨t,by rw [e,←z,Q5];rfl⟩
 ·rw [←h7]
  refine go ?_ ?_
  ·exact NX (hl.elim N8 fun z=>z.2▸NZ _)
  ·refine hl.elim (fun z=>z▸Oj _ _) fun z=> ?_
   obtain ⟨t,e⟩:=d4 z.1
   rw [←z.2,e];exact NI _
noncomputable def x4:iJ→List IA
 | .line=>[.tup .labels 0,.set .instruction 1]
 | .ins=>[.set .name 0,.tup .operands 1,.set .prefix_ 2]
 | .reg=>[.base [114,101,103],.set .register 0]
 | .imm=>[.base [105,109,109],.set .worth 0,.set .name 1]
 | .rel=>[.base [114,101,108],.set .worth 0,.set .name 1]
 | .register=>[.set .name 0,.set .kind 1,.set .number 2,.set .size 3]
noncomputable def Fz:iJ→Addr
 | .line=>341| .ins=>287| .reg=>178| .imm=>212| .rel=>246| .register=>562
noncomputable def u0:iJ→Nat
 | .line=>2| .ins=>3| .reg=>1| .imm=>2| .rel=>2| .register=>4
noncomputable def DT:iJ→Bool
 | .line=>false| .ins=>true| .reg=>false| .imm=>true| .rel=>true| .register=>false
noncomputable def Bv:List gV:=[.labels,.instruction,.name,.operands,.prefix_,.kind,.register,.worth,.number,.size]
theorem wB (f:gV):f∈Bv:=by cases f<;>decide
noncomputable def D8 (K:Frag):Bool:=m6.all fun c=>Bv.all (fun f=>lL K (o9 c) (fs f))&&(makesIn K (o9 c)&&(jC (findIn K (.ref (o9 c)) "__init__") (Fz c)&&(isFn K (.ref (Fz c))&&Jf K (Fz c) (x4 c) (u0 c) (DT c))))
noncomputable def A7:CFound→Nr Nv
 | .val v=>some v
 |_=>none
theorem wb {d:CFound} {v:Nv} (h:A7 d=some v):d= .val v:=by cases d<;>first|(cases h;done)|(cases Nq h;rfl)
noncomputable def xJ (K:Frag):Bool:=Jf K 136 [.set .kind 0] 1 false&&(jC (nsIn K Og "Operand") 160&&(readsIn K 160 (.type "type")&&(keepIn K (.ref 136)&&(xC (specialIn K (.ref 160) "__getattribute__") "type.__getattribute__"&&((findCls K (.ref 160) (.type "type") "__init__").any fun v=>(A7 v).any fun x=>x== .ref 136)))))
theorem E5 {prog:Ob} {w:Pz} {K:Frag} {h:Heap} {p:Ob} {loose:List Str} {mg mb:Str→Nr Nv} (g:xJ K=true) (O:(gW prog w K h).Ok p loose mg mb):nM (gW prog w K h):=by
 have a1:=ac g
 have a2:=ac a1.2
 have a3:=ac a2.2
 have a4:=ac a3.2
 have a5:=ac a4.2
 refine Np fun nG=> ?_
 refine ax a5.2 fun v h1 h2=> ?_
 refine ax h2 fun y h3 h4=> ?_
 refine nG ?_
 rw [wb h3,NE h4] at h1
 refine ⟨160,136,.type "type",NE a2.1,NE a5.1,a3.1,h1,a4.1,fun A s x dx c fsl us D k t ok R P bs L I nf ndf hz RR hR=> ?_⟩
 refine rQ (Z:=gW prog w K h) (us:=[.str k]) (fvs:=[(.kind,.str k)]) O (rg (Z:=gW prog w K h) a1.1) (.inr fun k hk=>by cases hk with|tail _ hk=>cases hk) bs P L I (.cons (.str _ _ ok) .nil) (.inl rfl) rfl (OU.mpr ⟨ndf,S0 _ _,fun a ma b mb z=> ?_⟩) hz ⟨AL R.depth,R.calm⟩ fun h' tk kp i=>hR h' tk kp i
 cases N3.mp mb
 have z:a=gV.kind:=z
 rw [z] at ma
 exact nf ma
noncomputable def M9 (c:iJ) (us:List V) (w:V):Prop:=(us.length=u0 c∨(DT c=true∧us.length+1=u0 c))∧∃fvs:List (gV×V),qw (oi (u0 c) us) (x4 c)=some fvs∧fvs.map (·.1)=c.fields∧w= .inst c (fvs.map (·.2))
theorem Go {c:iJ} {us:List V} {w:V} (h:us.length=u0 c∨(DT c=true∧us.length+1=u0 c)) (fvs:List (gV×V)) (e1:qw (oi (u0 c) us) (x4 c)=some fvs) (e2:fvs.map (·.1)=c.fields) (e3:w= .inst c (fvs.map (·.2))):M9 c us w:=⟨h,fvs,e1,e2,e3⟩
theorem DJ (c:iJ) (us:List V) (w:V) (hw:iF c us=some w):M9 c us w:=by
 cases c with
 |line=>
  obtain ⟨l,i,rfl,e⟩:=gj hw
  obtain ⟨ws,e1,rfl⟩:=map_some e
  exact Go (.inl rfl) [(.labels,.tup ws),(.instruction,i)] (by show ((fG l).map _).bind _=_;rw [e1];rfl) rfl rfl
 |ins=>
  cases us with
  |nil=>cases hw
  |cons n us=>cases us with
   |nil=>cases hw
   |cons o us=>
    refine af (show (Do (.str []) us).bind _=some w from hw) fun p e1 e=> ?_
    obtain ⟨ws,e2,rfl⟩:=map_some e
    cases us with
    |nil=>cases Nq e1;exact Go (.inr ⟨rfl,rfl⟩) [(.name,n),(.operands,.tup ws),(.prefix_,.str [])] (by show (((fG o).map _).bind _).map _=_;rw [e2];rfl) rfl rfl
    |cons q us=>
     have:=gK (show one (q::us)=some p from e1)
     cases this
     exact Go (.inl rfl) [(.name,n),(.operands,.tup ws),(.prefix_,p)] (by show (((fG o).map _).bind _).map _=_;rw [e2];rfl) rfl rfl
 |reg=>
  obtain ⟨r,e1,rfl⟩:=map_some (show (one us).map _=some w from hw)
  cases gK e1
  exact Go (.inl rfl) [(.kind,.str [114,101,103]),(.register,r)] (rfl) rfl rfl
 |imm=>
  cases us with
  |nil=>cases hw
  |cons x us=>
   obtain ⟨n,e1,rfl⟩:=map_some (show (Do (.str []) us).map _=some w from hw)
   cases us with
   |nil=>cases Nq e1;exact Go (.inr ⟨rfl,rfl⟩) [(.kind,.str [105,109,109]),(.worth,x),(.name,.str [])] (rfl) rfl rfl
   |cons q us=>
    cases gK (show one (q::us)=some n from e1)
    exact Go (.inl rfl) [(.kind,.str [105,109,109]),(.worth,x),(.name,n)] (rfl) rfl rfl
 |rel=>
  obtain ⟨x,n,rfl,e⟩:=gj hw
  cases Nq e
  exact Go (.inl rfl) [(.kind,.str [114,101,108]),(.worth,x),(.name,n)] (rfl) rfl rfl
 |register=>
  cases us with
  |nil=>cases hw
  |cons a us=>cases us with
   |nil=>cases hw
   |cons b us=>
    obtain ⟨u,z,rfl,e⟩:=gj (show two us _=some w from hw)
    cases Nq e
    exact Go (.inl rfl) [(.name,a),(.kind,b),(.number,u),(.size,z)] (rfl) rfl rfl
theorem HY {prog:Ob} {w:Pz} {K:Frag} {h:Heap} (g:D8 K=true) (c:iJ):∃a np dfl ias,Gn (gW prog w K h) c a np dfl ias:=
 have a1:=ac (NO.mp g c (iu c))
 have a2:=ac a1.2
 have a3:=ac a2.2
 have a4:=ac a3.2
 ⟨Fz c,u0 c,DT c,x4 c,fun f=>NO.mp a1.1 f (wB f),a2.1,NE a3.1,NE a4.1,rg (Z:=gW prog w K h) a4.2,DJ c⟩
theorem Kr {prog:Ob} {w:Pz} {K:Frag} {h:Heap} {p:Ob} {loose:List Str} {mg mb:Str→Nr Nv} (g:(D8 K&&xJ K)=true) (O:(gW prog w K h).Ok p loose mg mb):wf (gW prog w K h):=Bm O (E5 (ac g).2 O) (HY (ac g).1)
end
section
open PySem PySem.W
section
variable {prog:Ob} {w:Pz} {A:Od} {h:Heap} {g:Qe GenState} {d:Drawn} {t:Nat} {os:TZ}
variable {nm q:Str} {C N:Addr} {bs bm bmB:List Nv} {hdct:Bool} {sn:List Str} {sub:List Nv} {ab:Bool} {col:Nr Bool} {dd:Nr Addr} {k0 k1 k2 k3 k5:Nr Nv} {B newId initId:Rc}
noncomputable def qL (bmB bm:List Nv):Prop:=∀X b,bmB.contains (.type X)=b→bm.contains (.type X)=b
theorem qL.own (a:Addr):qL bmB (.ref a::bmB):=fun X b e=>by rw [UD,e];rfl
theorem qL.all (T:qL bmB bm) (X:Rc) {b:Bool} (e:bmB.contains (.type X)=b):(Q1 C::bm).contains (.type X)=b:=qL.own C X b (T X b e)
theorem Hj {M:Model} {A:Od} {E:Nv→Nx→Prop} {α:Type} {c:Prop} [SI c] {X Y:Sem α} {Q:α→Nx→Prop} {s:Nx} (hc:c) (h:NH M A X Q E s):NH M A (if c then X else Y) Q E s:=by rw [NP hc];exact h
theorem tC {M:Model} {A:Od} {E:Nv→Nx→Prop} {α:Type} {c:Prop} [SI c] {X Y:Sem α} {Q:α→Nx→Prop} {s:Nx} (hc:¬c) (h:NH M A Y Q E s):NH M A (if c then X else Y) Q E s:=by rw [N4 hc];exact h
theorem Ad {M:Model} {E:Nv→Nx→Prop} (F:Tl B newId initId bmB) (T:qL bmB bm) {rest:List Nv} {Q:Unit→Nx→Prop} (hC:h.get? C=some (excClassObj nm q C N bs bm hdct sn sub ab col dd k0 k1 k2 k3 k5 newId))
  (hq:Q () ⟨h,g,d,t,os⟩):NH M A (checkBuiltinCall newId ⟨.ref C::rest,[]⟩) Q E ⟨h,g,d,t,os⟩:=by
 have hB:=T.all (C:=C) B F.hasB
 have star:=F.noStar
 unfold checkBuiltinCall
 extract_lets sig jp
 rw [F.newKind,F.newSplit]
 refine Hj rfl ?_
 show NH M A (isType (.ref C)>>=_) _ _ _
 refine Ny ?_
 repeat (first|refine Pu hC ?_ |wp_step)
 extract_lets
 refine QM hC ?_
 rw [hB]
 show NH M A (if (!true)=true then _ else _) _ _ _
 apply tC
 ·exact Bool.false_ne_true
 show NH M A (Bind.staticBase (.ref C)>>=_) _ _ _
 refine Ny (wpAny_staticBase_exc hC ?_)
 show NH M A (Bind.madeBy _>>=_) _ _ _
 refine Ny (Vl hC ?_)
 show NH M A (if (Manifest.canonical newId !=Manifest.canonical newId)=true then _ else _) _ _ _
 apply tC
 ·rw [UT];exact Bool.false_ne_true
 show NH M A (match Manifest.signature? newId with|some sig=>Bind.checkArgs newId sig {pos:=Q1 C::rest}|x=>pure ()) _ _ _
 rw [F.newRow]
 repeat wp_step
 exact hq
noncomputable def BP (C:Addr) (h:Heap):Obj:={cls:= .ref C,data:= .fields #[.ref h.objs.size,.none,.none,.none,.bool false,.none]}
noncomputable def wo (h:Heap) (C:Addr) (rest:List Nv):Heap:=(h.push {cls:= .type "tuple",data:= .seq rest.toArray}).push (BP C h)
theorem Fm (F:Tl B newId initId bmB) (T:qL bmB bm) {R:Qx→Nx→Prop} {rest:List Nv} (hC:h.get? C=some (excClassObj nm q C N bs bm hdct sn sub ab col dd k0 k1 k2 k3 k5 newId))
  (hq:R (.ok (.ret (.ref (h.objs.size+1)))) ⟨wo h C rest,g,d,t,os⟩) (hz:rest.length≤PV):PB (model prog w) A (.builtin newId ⟨.ref C::rest,[]⟩) R ⟨h,g,d,t,os⟩:=by
 have ends:=F.ends
 have hB:=T.all (C:=C) B F.hasB
 have hA:=T.all (C:=C) "AttributeError" F.noAttr
 have hN:=T.all (C:=C) "NameError" F.noName
 refine codeAny_builtinAt F.entry ?_
 unfold Builtin.«BaseException.__new__»
 refine wpAt_bind ?_
 show wpAt _ _ _ (stack>>=_) _ _ _
 refine wpAt_bind (wpAt_stack fun p below=>wpAt_of_wpAny ?_)
 wp_walk
 refine wpAt_of_wpAny ?_
 rw [F.owner]
 repeat (first|with_reducible refine wpAny_madeHere_exc F.canon hC ?_ |with_reducible refine Pu hC ?_ |(with_reducible refine QM hC ?_;first|rw [hB]|rw [hA]|rw [hN])|wp_step)
 show R _ _
 rw [Rk]
 exact hq
end
end
section
open PySem PySem.W
set_option tactic.hygienic false
section
variable {prog:Ob} {w:Pz} {A:Od} {E:Nv→Nx→Prop} {h:Heap} {g:Qe GenState} {d:Drawn} {t:Nat} {os:TZ} {K:Frag}
variable {nm q:Str} {C N:Addr} {bs bm bmB:List Nv} {hdct:Bool} {sn:List Str} {sub:List Nv} {ab:Bool} {col:Nr Bool} {dd:Nr Addr} {k0 k1 k2 k3 k5:Nr Nv} {B newId initId:Rc} {fI:Addr} {rest:List Nv}
theorem nR {b:Addr} {o:Obj} (e:h.get? b=some o):(wo h C rest).get? b=some o:=NV _ (NV _ e)
theorem xX:(wo h C rest).get? (h.objs.size+1)=some (BP C h):=UY (by rw [Rk]) rfl
theorem AG (F:Tl B newId initId bmB) (T:qL bmB bm) {Q:PySem.Fin→Nx→Prop} (hC:h.get? C=some (excClassObj nm q C N bs bm hdct sn sub ab col dd k0 k1 k2 k3 k5 newId)) (X:K.In h)
  (hi:findIn K (.ref C) "__init__"=some (some (.ref fI))) (hf:typeIn K (.ref fI)=some (.type "function")) (hz:rest.length≤PV)
  (hq:NH (model prog w) A (call (.ref fI) (.ref (h.objs.size+1)::rest)) (fun r s'=>r= .none∧Q (.done (.ret (.ref (h.objs.size+1)))) s') E ⟨wo h C rest,g,d,t,os⟩):
  NH (model prog w) A (Builtin.«type.__call__» ⟨.ref C::rest,[]⟩) Q E ⟨h,g,d,t,os⟩:=by
 repeat (first|with_reducible refine Pu hC ?_ |with_reducible refine Vl hC ?_ |wp_step)
 refine codeAny_call_builtin_code (R1 _ F.quiet) (Ad F T hC ?_)
 refine Fm F T hC ?_ hz
 show NH _ _ _ _ _ _
 have hC₁:=nR (C:=C) (rest:=rest) hC
 have hat:(wo h C rest).get? (h.objs.size+1)=some {cls:= .ref C,data:= .fields #[.ref h.objs.size,.none,.none,.none,.bool false,.none]}:=xX
 have X₁:K.In (wo h C rest):=X.keeps fun b o e=>nR e
 have hcC:(Q1 C::bm).contains (.ref C)=true:=by simp
 unfold isInstance
 repeat (first|with_reducible refine Pu hat ?_ |(with_reducible refine QM hC₁ ?_;rw [hcC])|wp_step)
 show NH _ _ (R0 (.ref C) _) _ _ _
 refine (Tk X₁ hi).here ?_
 refine Ou (Ny ?_)
 refine (bind_fn X₁ _ hf).here ?_
 refine Ny (Oc hq (fun r s' hr=> ?_) fun _ _ x=>x)
 obtain ⟨rfl,hQ⟩:=hr
 wp_walk
 exact hQ
theorem yU (F:Tl B newId initId bmB) (T:qL bmB bm) {Q:Nv→Nx→Prop} (hC:h.get? C=some (excClassObj nm q C N bs bm hdct sn sub ab col dd k0 k1 k2 k3 k5 newId)) (X:K.In h)
  (hi:findIn K (.ref C) "__init__"=some (some (.ref fI))) (hf:typeIn K (.ref fI)=some (.type "function")) (hz:rest.length≤PV)
  (hq:NH (model prog w) (A.under (.builtin "type.__call__" ⟨.ref C::rest,[]⟩)) (call (.ref fI) (.ref (h.objs.size+1)::rest)) (fun r s'=>r= .none∧Q (.ref (h.objs.size+1)) s') E ⟨wo h C rest,g,d,t,os⟩):
  NH (model prog w) A (call (.ref C) rest) Q E ⟨h,g,d,t,os⟩:=by
 have f1:=tc_lookup
 have f2:=tc_bind (.ref C)
 have hT:(⟨h,g,d,t,os⟩:Nx).TypeIs (.ref C) "type":=⟨_,hC,rfl⟩
 refine P6 (VB ?_)
 show NH _ _ (callAny (.ref C) _) _ _ _
 repeat (any_goals (first|assumption|with_reducible refine Pu hC ?_ |wp_step))
 refine ⟨rfl,?_⟩
 exact codeAny_call_builtin_at (R1 _ (by decide+kernel)) entry_typeCall (wpAny_check_type_call_sub hC (AG F T hC X hi hf hz hq))
end
end
section
open PySem PySem.W PySem.Builtin.ObjectAttr PySem.Builtin
set_option tactic.hygienic false
noncomputable def qd (C A':Addr):List Nv:=[.ref C,.ref A',.type "Exception",.type "BaseException",.type "object"]
structure rz (g h:Heap) (x C t0:Addr) (ns:List Str):Prop where
 keep:∀b o,g.get? b=some o→h.get? b=some o
 nx:g.get? x=none
 obj:∃dd,h.get? x=some {cls:= .ref C,dict:=dd,data:= .fields #[.ref t0,.none,.none,.none,.bool false,.none]}∧(dd=none∨∃dx m,dd=some dx∧dx≠x∧g.get? dx=none∧h.Ns1 dx m∧Within m ns)
structure qt (K:Frag) (C A':Addr) (cd:P4):Prop where
 obj:∃c0 d0 sl,K.lookup C=some {cls:=c0,dict:=d0,data:= .cls cd,slots:=sl}
 mro:cd.mro=qd C A'
 dict:cd.hasDict=true
 set:findIn K (.ref C) "__setattr__"=some (some (.builtin "object.__setattr__"))
section
variable {prog:Ob} {w:Pz} {A:Od} {E:Nv→Nx→Prop} {s:Nx} {K:Frag} {C A' x t0:Addr} {cd:P4} {g:Heap} {ns:List Str} {name:Str} {v:Nv}
theorem qt.at_ (Y:qt K C A' cd):clsIn K C=some cd:=let ⟨_,_,_,e⟩:=Y.obj;by unfold clsIn;rw [e]
theorem Fg {ox:Obj} {od:Nr Obj} {tk:Tok} {R:Qx→Nx→Prop} (X:K.In s.heap) (I:InstAt s.heap x ox C od) (Y:qt K C A' cd) (ht:takerIn K C name=some none)
  (h:∀b,NH (model prog w) A.in1 (storeInOwnDict (.ref x) (.ref C) (.str name tk) name v b)
   (fun fin s'=>match fin with| .done f=>R (.ok f) s'| .again c'=>c'.quiet=true∧PB (model prog w) A c' R s') (fun e s'=>R (.error e) s') s):
  PB (model prog w) A (.call (.builtin "object.__setattr__") ⟨[.ref x,.str name tk,v],[]⟩) R s:=by
 have SF:=PySem.F.store_Exception
 have sub:Looks (model prog w) s.heap (isInstance (.ref x) (.type "object")) true:=I.type.andThen (looks_mroIn X (by unfold mroIn;rw [Y.at_,S6,Y.mro];rfl))
 refine TT SF.slot.plain SF.entry (@check_slot (model prog w) _ _ s "object.__setattr__" "object" "__setattr__" (.ref x) [.str name tk,v] [] _ SF.kind SF.split sub (SF.args (.ref x) (.str name tk) v) ?_)
 refine Np fun nG=> ?_
 obtain ⟨attr,ha,hr⟩:=Py.mp ht
 refine nG ?_
 have hm:Looks (model prog w) s.heap (mroOf (.ref C)) cd.mro:=(Vu X Y.at_).andThen .now
 have L3:Looks (model prog w) s.heap (storeTaker? attr) none:=by
  cases attr with
  |none=>cases hr;exact .now
  |some a=>
   obtain ⟨b,hb,e⟩:=Ra.mp hr
   refine (looks_takesIn X hb).andThen ?_
   cases b
   ·exact .now
   ·cases e
 rw [osa_eq,refuse_eq]
 refine Ny (Ny (I.type.here (Ny (hm.here ?_))))
 rw [Y.mro,qd,V1,V1,SF.passes]
 refine NM (Ny (I.type.here (Ny ((Tk X ha).here (Ny (L3.here ?_))))))
 exact h _
end
section
variable {prog:Ob} {w:Pz} {A:Od} {E:Nv→Nx→Prop} {s:Nx} {K:Frag} {C A' x t0:Addr} {cd:P4} {g:Heap} {ns:List Str} {name:Str} {v:Nv} {b:Bool} {tk:Tok}
theorem pN {dx:Addr} {m:Str→Nr Nv} {Q:PySem.Fin→Nx→Prop} (hn:s.heap.Ns1 dx m) (W:Within m ns) (hz:ns.length+1≤100)
  (hq:∀h' tk',h'.Ns1 dx (fun y=>if y=name then some v else m y)→Pn dx s.heap h'→Q (.done (.ret .none)) {s with heap:=h',toks:=tk'}):NH (model prog w) A (storeInDict dx (.str name tk) name v) Q E s:=by
 unfold storeInDict newKeyGuard
 refine Ny (NM (Ny (wpAny_nsSet1 hn fun h' hn' hs=> ?_)))
 refine Np fun nG=> ?_
 obtain ⟨oD,esD,epD,hoD,hdD,hcD⟩:=hn'.count (Vv name v W)
 refine nG ?_
 refine Ny (Vj hoD (by rw [hdD];exact Vk (Nt hcD (by rw [O5,TS];omega))) ?_)
 exact NM (hq h' _ hn' hs)
theorem zT {Q:PySem.Fin→Nx→Prop} (X:K.In s.heap) (S:rz g s.heap x C t0 ns) (Y:qt K C A' cd) (hz:ns.length+1≤100)
  (hq:∀h' tk',rz g h' x C t0 (name::ns)→Q (.done (.ret .none)) {s with heap:=h',toks:=tk'}):NH (model prog w) A (storeInOwnDict (.ref x) (.ref C) (.str name tk) name v b) Q E s:=by
 obtain ⟨dd,hx,hd⟩:=S.obj
 refine Ny (NM (Ny (Ny (TR hx (Ny (Looks.here (Vu X Y.at_) ?_))))))
 rw [Y.dict]
 rcases hd with rfl|⟨dx,m,rfl,ne,gd,hn,W⟩
 ·have hx₁:=NV {cls:= .type "dict",data:= .dict #[]} hx
  have hxs:x≠s.heap.objs.size:=Re (N7 hx)
  refine Ny (wpAny_alloc' ?_)
  refine Ny (wpAny_update' hx₁ ?_)
  refine NM ?_
  have hgd:((s.heap.push {cls:= .type "dict",data:= .dict #[]}).update x fun o=>{cls:=o.cls,dict:=some s.heap.objs.size,data:=o.data,slots:=o.slots}).get? s.heap.objs.size=some {cls:= .type "dict",data:= .dict #[]}:=(QN _ _ _ _ hxs.symm).trans (UY rfl rfl)
  refine pN (m:=fun _=>none) (ns:=[]) (Heap.Ns1.of_empty ⟨_,#[],_,hgd,rfl,fun e he=>absurd he (by simp),fun _=>rfl⟩) Within.nil (by decide) fun h' tk' hn' hs=>hq h' tk' ⟨fun b o e=> ?_,S.nx,_,(hs.2 x hxs).trans (Qy _ hx₁ rfl),.inr ⟨s.heap.objs.size,_,rfl,hxs.symm,?_,hn',?_⟩⟩
  ·have l:=S.keep b o e
   exact (hs.2 b (Re (N7 l))).trans ((QN _ _ _ _ fun z=>by subst z;rw [S.nx] at e;cases e).trans (NV _ l))
  ·cases q:g.get? s.heap.objs.size with
   |none=>rfl
   |some o=>exact absurd (N7 (S.keep _ _ q)) (OD _)
  ·exact Vv name v fun _ h=>absurd rfl h
 ·refine NM (a:=some dx) ?_
  refine pN hn W hz fun h' tk' hn' hs=>hq h' tk' ⟨fun b o e=>(hs.2 b fun z=>by subst z;rw [gd] at e;cases e).trans (S.keep b o e),S.nx,_,(hs.2 x ne.symm).trans hx,.inr ⟨dx,_,rfl,ne,gd,hn',Vv name v W⟩⟩
end
end
section
open PySem PySem.W
set_option tactic.hygienic false
section
variable {prog:Ob} {w:Pz} {A:Od} {E:Nv→Nx→Prop} {s:Nx} {K:Frag} {C A' x t0:Addr} {cd:P4} {g:Heap} {ns:List Str} {name:Str} {v:Nv}
theorem rz.inst {h:Heap} (S:rz g h x C t0 ns):∃ox od,InstAt h x ox C od:=by
 obtain ⟨dd,hx,rfl|⟨dx,m,rfl,_,_,⟨o,_,_,e,_⟩,_⟩⟩:=S.obj
 ·exact ⟨_,none,hx,rfl,rfl,trivial⟩
 ·exact ⟨_,some o,hx,rfl,rfl,e⟩
theorem yQ {Q:Unit→Nx→Prop} (X:K.In s.heap) (S:rz g s.heap x C t0 ns) (Y:qt K C A' cd) (ht:takerIn K C name=some none) (hz:ns.length+1≤100)
  (hQ:∀h' tk,rz g h' x C t0 (name::ns)→Q () {s with heap:=h',toks:=tk}):NH (model prog w) A (setAttr (.ref x) name v) Q E s:=by
 refine Np fun nG=> ?_
 obtain ⟨ox,od,I⟩:=S.inst
 refine nG ?_
 exact set_plain X I Y.set (Fg (s:={s with toks:=s.toks+1}) X I Y ht fun b=>zT (s:={s with toks:=s.toks+1}) X S Y hz fun h' tk' S'=>hQ h' tk' S')
end
section
variable {prog:Ob} {w:Pz} {A:Od} {E:Nv→Nx→Prop} {s:Nx} {K:Frag}
theorem Dq {pl:Sem Bool} {Q:Nv×List Nv→Nx→Prop} (X:K.In s.heap)
  (h:Q (.builtin "Exception.__init__",[]) {s with toks:=s.toks+1}):NH (model prog w) A (getMethod (.type "Exception") (NK "__init__") pl) Q E s:=by
 have hstub:opaqueClassAbove (.type "Exception")=pure none:=by unfold opaqueClassAbove;dsimp only;rw [show Manifest.isStub "Exception"=false by decide+kernel];rfl
 have ht:typeOf (.type "Exception")=pure (.type "type"):=by first|rfl|kernel_rfl
 have L0:Looks (model prog w) s.heap (typeOf (.type "Exception")) (.type "type"):=Looks.of_pure ht
 have hg:findIn K (.type "type") "__getattribute__"=some (some (.builtin "type.__getattribute__")):=type_tga
 unfold getMethod specialOf
 refine Ny (Ny (L0.here ((Tk X hg).here ?_)))
 dsimp only
 rw [NP canon_tga]
 refine Ny (Oc (Q:=fun v=>Q (v,[])) (E:=E) ?_ (fun _ _ z=>NM z) fun _ _ z=>z)
 have LO:Looks (model prog w) s.heap (opaqueClassAbove (.type "Exception")) none:=Looks.of_pure hstub
 refine cls_open X LO L0 hg (looks_hook X (r:=none) (by rfl)) (by show subIn K _ _=_;rfl) (show findCls K (.type "Exception") (.type "type") "__init__"=some (.val (.builtin "Exception.__init__")) by rfl) ?_
 exact NM (by show NH _ _ (handedOut _) _ _ _;rw [handedOut_of (by rfl)];exact NM h)
theorem xd {M:Model} {C A' x t0:Addr} {cd:P4} {g:Heap} {ns:List Str} {rest:List Nv} {Q:Unit→Nx→Prop} (X:K.In s.heap) (S:rz g s.heap x C t0 ns) (Y:qt K C A' cd) (hq:Q () s):
  NH M A (checkBuiltinCall "Exception.__init__" ⟨.ref x::rest,[]⟩) Q E s:=by
 have F:=QI
 obtain ⟨ox,od,I⟩:=S.inst
 have sub:Looks M s.heap (isInstance (.ref x) (.type "Exception")) true:=I.type.andThen (looks_mroIn X (by unfold mroIn;rw [Y.at_,S6,Y.mro];rfl))
 have hx:=I.at_
 have hc:=I.cls
 have short:=F.noStar
 obtain ⟨c0,d0,sl,lC⟩:=Y.obj
 have hC:=X _ _ lC
 unfold checkBuiltinCall
 extract_lets sig jp
 rw [F.initKind,F.initSplit]
 show NH M A (isInstance (.ref x) (.type "Exception")>>=_) _ _ _
 refine Ny (sub.here ?_)
 extract_lets
 show NH M A (if (!true)=true then _ else _) _ _ _
 apply tC
 ·exact Bool.false_ne_true
 show NH M A (match Manifest.signature? "Exception.__init__" with|some sig=>Bind.checkArgs "Exception.__init__" sig {pos:=Q1 x::rest}|x=>pure ()) _ _ _
 rw [F.initRow]
 repeat (first|(with_reducible refine Pu hx ?_;rw [hc])|with_reducible refine Pu hC ?_ |wp_step)
 refine wpAny_onRaise ?_
 rw [show∀(a b:Rc) (n:Nat),Bind.check ⟨.positional,"*","Exception",.self,[⟨"args",.varPos,false⟩]⟩ a b n (S7 (fun x=>x.fst) ({pos:=Q1 x::rest}:Args).kw)=pure () from fun a b n=>check_star_args _ _ _ _ _ _]
 exact NM hq
theorem Cm {C A' x t0:Addr} {cd:P4} {g:Heap} {a:Nv} {R:Qx→Nx→Prop} (X:K.In s.heap) (S:rz g s.heap x C t0 []) (Y:qt K C A' cd)
  (hR:∀h' tk t1,rz g h' x C t1 []→R (.ok (.ret .none)) {s with heap:=h',toks:=tk}):PB (model prog w) A (.call (.builtin "Exception.__init__") ⟨[.ref x,a],[]⟩) R s:=by
 have F:=QI
 refine TT F.init.plain F.initEntry (xd X S Y ?_)
 obtain ⟨dd,hx,hd⟩:=S.obj
 unfold Builtin.«BaseException.__init__»
 dsimp only
 rw [N4 (by simp)]
 unfold newTuple Vw
 have hx₁:=NV {cls:= .type "tuple",data:= .seq #[a]} hx
 refine Ny (UU (Ny (Ny (wpAny_field hx₁ rfl (x:= .ref t0) rfl (Ny (wpAny_setField hx₁ rfl (by show 0 <6;decide) ?_))))) (by show 1≤PV;rw [TS];decide))
 refine wpAny_letGo (NM (hR _ _ s.heap.objs.size ⟨fun b o e=> ?_,S.nx,dd,Qy _ hx₁ rfl,hd.imp id fun ⟨dx,m,e,ne,gd,hn,W⟩=>⟨dx,m,e,ne,gd,hn.at fun o q=> ?_,W⟩⟩))
 ·exact (QN _ _ _ _ fun z=>by subst z;rw [S.nx] at e;cases e).trans (NV _ (S.keep b o e))
 ·exact (QN _ _ _ _ ne).trans (NV _ q)
end
end
section
open PySem PySem.W PyProof.Rows
set_option tactic.hygienic false
theorem rz.base {g g0 h:Heap} {x C t0:Addr} {ns:List Str} (S:rz g h x C t0 ns) (k:∀b o,b≠x→g0.get? b=some o→g.get? b=some o) (n:g0.get? x=none):rz g0 h x C t0 ns:=by
 have ne:∀b o,g0.get? b=some o→b≠x:=fun b o e z=>by subst z;rw [n] at e;cases e
 obtain ⟨dd,e,d⟩:=S.obj
 refine ⟨fun b o e=>S.keep b o (k b o (ne b o e) e),n,dd,e,d.imp id fun ⟨dx,m,e,nx,gd,r⟩=>⟨dx,m,e,nx,?_,r⟩⟩
 cases q:g0.get? dx with
 |none=>rfl
 |some o=>rw [k dx o nx q] at gd;cases gd
noncomputable def xY:Str:="self"
noncomputable def tE:Str:="what"
noncomputable def xk:Str:="at"
noncomputable def GP:Str:="Exception"
noncomputable def Bs (sc:Px) (st:Stmt) (f:Str):Bool:=(pA sc xY st).any fun q=>q.1==f&&(gU sc f&&cA q.2==some f)
noncomputable def Gf (st:Stmt):Bool:=(Ak st).any fun r=>cA r.1==some GP&&(r.2.1==("__init__":Str)&&(two r.2.2 fun a b=>(cA a).bind fun x=>(cA b).map fun y=>(x,y))==some (xY,tE))
noncomputable def JW (sts:List Stmt) (f:Stmt→Stmt→Stmt→Bool):Bool:=jQ sts fun a l=>At l (f a)
noncomputable def Ir (K:Frag) (a:Addr):Bool:=(AU K a).any fun fd=>sN K fd&&(jG fd==[xY,tE,xk]&&((td K fd).isSome&&([xY,tE,xk].all (fun x=>fd.scope.names.lookup x==some .local)&&(oN fd.scope GP&&
 (mP fd.body).any fun body=>JW body fun s1 s2 s3=>Gf s1&&(gU fd.scope xY&&gU fd.scope tE)&&(Bs fd.scope s2 tE&&Bs fd.scope s3 xk)))))
section
variable {prog:Ob} {w:Pz} {A:Od} {E:Nv→Nx→Prop} {s:Nx} {K:Frag} {C A' x t0:Addr} {cd:P4} {g:Heap} {ns:List Str} {v:Nv} {env:Env} {m:Str→Nr Nv}
theorem F7 {f:Str} {st:Stmt} {Q:Flow→Nx→Prop} (hc:Bs env.scope st f=true) (hk:env.scope.kind= .function) (gN:g.Ns env.locals m) (m1:m xY=some (.ref x)) (m2:m f=some v) (X:K.In g) (S:rz g s.heap x C t0 ns) (Y:qt K C A' cd) (ht:takerIn K C f=some none) (hz:ns.length+1≤100)
  (h:∀h' tk,rz g h' x C t0 (f::ns)→Q .next {s with heap:=h',toks:=tk}):NH (model prog w) A (exec st env) Q E s:=by
 refine Np fun nG=> ?_
 refine ax hc fun r h1 h2=> ?_
 obtain ⟨h3,zp,ap,pos,rfl⟩:=qG h1
 have h4:=ac h2
 have h5:=ac h4.2
 obtain ⟨yp,h7⟩:=aY (NE h5.2)
 refine nG ?_
 rw [h7,NE h4.1]
 exact Qh (hs:=by rfl) (f9 hk (gN.keeps S.keep) h5.1 m2 (f9 hk (gN.keeps S.keep) h3 m1 (yQ (X.keeps S.keep) S Y ht hz h)))
end
section
variable {Z:Wd} {p:Ob} {loose:List Str} {mg mb:Str→Nr Nv} {A:Od} {E:Nv→Nx→Prop} {s:Nx} {C A' x t0:Addr} {cd:P4} {g:Heap} {v:Nv} {env:Env} {m:Str→Nr Nv}
theorem Jd (O:Wd.Ok Z p loose mg mb) {st:Stmt} {Q:Flow→Nx→Prop} (hc:Gf st=true) (hl:(gU env.scope xY&&gU env.scope tE)=true) (hx:oN env.scope GP=true) (hn:nsIn Z.K Og GP=some none) (hk:env.scope.kind= .function) (glb:env.globals=Og) (blt:env.builtins=R7)
  (bs:∀b o,Z.base.get? b=some o→g.get? b=some o) (gN:g.Ns env.locals m) (m1:m xY=some (.ref x)) (m2:m tE=some v) (S:rz g s.heap x C t0 []) (Y:qt Z.K C A' cd)
  (h:∀h' tk t1,rz g h' x C t1 []→Q .next {s with heap:=h',toks:=tk}):NH (model Z.prog Z.w) A (exec st env) Q E s:=by
 refine Np fun nG=> ?_
 refine ax hc fun r h1 h2=> ?_
 have h3:=ac h2
 have h4:=ac h3.2
 refine af h1 fun e h12 h13=> ?_
 obtain ⟨pos,rfl⟩:=lP h12
 obtain ⟨ap,cpos,rfl,hl'⟩:=iR h13
 obtain ⟨np,h14⟩:=aY (NE h3.1)
 refine pB (NE h4.2) fun a b h15 h16=> ?_
 refine af h16 fun zn h17 h18=> ?_
 refine am h18 fun wn h19 h20=> ?_
 cases h20
 obtain ⟨zp,h21⟩:=aY h17
 obtain ⟨wp,h22⟩:=aY h19
 refine nG ?_
 have bs':∀b o,Z.base.get? b=some o→s.heap.get? b=some o:=fun b o e=>S.keep b o (bs b o e)
 rw [h14,h15,h21,h22,NE h4.1]
 refine Rl (hi:=by unfold interactive;rw [hk];rfl) (hs:=by rfl) ?_
 refine im (Z:=Z) (k:=1) (c:=⟨env.scope,[]⟩) (cs:=[.stuck,.stuck]) rfl hl' (by show 2 <20;decide) rfl ?_
 refine O6 hk (by unfold PT;exact NE (ac hx).1) (QQ (mg:=mg) (mb:=mb) (by rw [glb];exact O.T.g.keeps bs') (VU O.X O.T.g hn) (by rw [blt];exact O.T.b.keeps bs') ((O.T.builtins _ (by decide)).trans (show bootBuiltins GP=some (.type "Exception") by first|rfl|kernel_rfl)) ?_) (cJ (ac hx).2)
 intro pl
 refine Dq (O.X.keeps bs') ?_
 refine iD (Z:=Z) (f:= .builtin "Exception.__init__") (.inl ⟨_,rfl⟩) rfl ?_
 rw [bt rfl]
 refine O9 (f9 hk (gN.keeps S.keep) (ac hl).1 m1 ?_)
 rw [bt rfl]
 refine O9 (f9 hk (gN.keeps S.keep) (ac hl).2 m2 (Ps ⟨O.X.keeps bs',P6 ?_⟩))
 refine Cm (s:={s with toks:=_}) (O.X.keeps bs') S Y fun h' tk t1 S'=> ?_
 exact h h' tk t1 S'
end
theorem y8 {sts:List Stmt} {f:Stmt→Stmt→Stmt→Bool} (h:JW sts f=true):∃a b c,sts=[a,b,c]∧f a b c=true:=by
 refine hS h fun a l e1 h=> ?_
 refine Np fun nG=> ?_
 obtain ⟨b,c,e2,h⟩:=mr h
 refine nG ?_
 exact ⟨a,b,c,by rw [e1,e2],h⟩
section
variable {Z:Wd} {p:Ob} {loose:List Str} {mg mb:Str→Nr Nv} {A:Od} {s:Nx} {C A' x t0:Addr} {cd:P4} {g:Heap} {v:Nv} {a:Addr}
theorem Hh (O:Wd.Ok Z p loose mg mb) {RR:Qx→Nx→Prop} (hE:Ir Z.K a=true) (hn:nsIn Z.K Og GP=some none) (Y:qt Z.K C A' cd) (k1:takerIn Z.K C tE=some none) (k2:takerIn Z.K C xk=some none) (hd:A.depth <recursionLimit)
  (bs:∀b o,Z.base.get? b=some o→g.get? b=some o) (kp:∀b o,g.get? b=some o→s.heap.get? b=some o) (nx:g.get? x=none) (hx:s.heap.get? x=some {cls:= .ref C,data:= .fields #[.ref t0,.none,.none,.none,.bool false,.none]}) (h:∀h' tk t1,rz g h' x C t1 [xk,tE]→RR (.ok (.ret .none)) {s with heap:=h',toks:=tk}):PB (model Z.prog Z.w) A (.call (.ref a) ⟨[.ref x,v],[]⟩) RR s:=by
 have bs':∀b o,Z.base.get? b=some o→s.heap.get? b=some o:=fun b o e=>kp b o (bs b o e)
 have KH:Z.K.In s.heap:=O.X.keeps bs'
 refine ax hE fun fd h1 h2=> ?_
 refine Np fun nG=> ?_
 obtain ⟨o,h3,h4⟩:=l7 h1
 refine nG ?_
 have R:=lM (ac h2).1
 have a1:=ac (ac h2).2
 have a2:=ac a1.2
 have a3:=ac a2.2
 have a4:=ac a3.2
 refine ax a4.2 fun body h5 h6=> ?_
 refine Np fun nG=> ?_
 obtain ⟨s1,s2,s3,rfl,h7⟩:=y8 h6
 have c1:=ac h7
 obtain ⟨d,hd'⟩:=Oq.mp a2.1
 obtain ⟨T,oT,nT,d1,d2,d3⟩:=lR hd'
 refine nG ?_
 have loc:∀y∈[xY,tE,xk],fd.scope.names.lookup y=some .local:=fun y my=>NE (NO.mp a3.1 y my)
 have nd:[xY,tE,xk].Nodup:=by decide
 have b:=nr (s:=s) (vs:=[.ref x,v]) (ds:=[d]) R.ns (NE a1.1▸nd) (by rw [NE a1.1];exact NZ 2) (by rw [NE a1.1];exact NI 3) (NI 1) (by rw [NE a1.1];exact Qd 1 2) (.inr ⟨T,oT,nT,d1,KH _ _ d2,d3⟩)
 rw [NE a1.1] at b
 refine nO hd (KH _ _ h3) h4 (O.T.nolimit.keeps bs') (VZ KH R.code) (iP h5) b R.clo (fun y hy=> .inl (loc y.1 ?_)) (fun s₁ xx=> ?_) R.co R.gen R.kind
 ·rcases NW.mp hy with rfl|hy
  ·exact .head _
  rcases NW.mp hy with rfl|hy
  ·exact .tail _ (.head _)
  ·exact .tail _ (.tail _ (N3.mp hy▸ .head _))
 refine Np fun nG=> ?_
 obtain ⟨h₁,tk,rfl,keep⟩:=xx.done
 refine nG ?_
 have lx:(Om fd s.heap.objs.size a).locals≠x:=fun z=>OD _ (z▸N7 hx)
 have up:∀b o,b≠x→h₁.get? b=some o→(h₁.hide x).get? b=some o:=fun b o n e=>(UZ h₁ n).trans e
 have gN:=xx.toInCall.ns.at' (h':=h₁.hide x) fun o e=>up _ o lx e
 have S1:rz (h₁.hide x) h₁ x C t0 []:=⟨fun b o e=>Heap.of_hide e,V2 h₁ x,none,keep _ _ hx,.inl rfl⟩
 have bx:∀b o,Z.base.get? b=some o→(h₁.hide x).get? b=some o:=fun b o e=>up b o (fun z=>by have:=bs _ _ e;rw [z,nx] at this;cases this) (keep b o (bs' b o e))
 have X1:Z.K.In (h₁.hide x):=O.X.keeps bx
 have bm:∀y w,(y,w)∈[(xY,.ref x),(tE,v),(xk,d)]→y∈[xY,tE,xk]→bindL (Om fd s.heap.objs.size a).kindOf [(xY,.ref x),(tE,v),(xk,d)] (fun _=>none) y=some w:=fun y w q l=>(lY (by exact nd) q).1 (loc _ l)
 have ms:=bm xY (.ref x) (.head _) (.head _)
 have mw:=bm tE v (.tail _ (.head _)) (.tail _ (.head _))
 have ma:=bm xk d (.tail _ (.tail _ (.head _))) (.tail _ (.tail _ (.head _)))
 have c2:=ac c1.2
 have c0:=ac c1.1
 refine Ov (Jd (s:={s with heap:=h₁,toks:=tk}) O c0.1 c0.2 a4.1 hn R.kind R.glb R.blt bx gN ms mw S1 Y fun h2 t2 u2 S2=> ?_)
 refine Ov (F7 (s:={s with heap:=h2,toks:=t2}) c2.1 R.kind gN ms mw X1 S2 Y k1 (by decide) fun h3 t3 S3=> ?_)
 refine Ov (F7 (s:={s with heap:=h3,toks:=t3}) c2.2 R.kind gN ms ma X1 S3 Y k2 (by decide) fun h4 t4 S4=> ?_)
 exact Qb (h h4 t4 u2 (S4.base (fun b o n e=>up b o n (keep b o (kp b o e))) nx))
end
noncomputable def yh:Rc:="Exception.__new__"
noncomputable def MY (l:List (Nr Nv)):Bool:=jQ l fun _ l=>jQ l fun _ l=>jQ l fun _ l=>jQ l fun _ l=>jQ l fun k l=>k==some (.builtin yh)&&jQ l fun _ l=>l.isEmpty
theorem E0 {l:List (Nr Nv)} (h:MY l=true):∃a b c d e,l=[a,b,c,d,some (.builtin yh),e]:=by
 refine Np fun nG=> ?_
 refine hS h fun a l1 e1 h1=> ?_
 refine hS h1 fun b l2 e2 h2=> ?_
 refine hS h2 fun c l3 e3 h3=> ?_
 refine hS h3 fun d l4 e4 h4=> ?_
 refine hS h4 fun k l5 e5 h5=> ?_
 have h6:=ac h5
 refine hS h6.2 fun e l6 e6 h7=> ?_
 exact nG ⟨a,b,c,d,e,by rw [e1,e2,e3,e4,e5,e6,aF h7,NE h6.1]⟩
noncomputable def IV (K:Frag) (C A':Addr):Bool:=(K.lookup C).any fun o=>o.cls== .type "type"&&(x8 o.data).any fun cd=>cd.mro==qd C A'&&(!cd.hasDel&&(cd.hasDict&&MY o.slots.toList))
theorem CD {K:Frag} {C A':Addr} (q:IV K C A'=true):∃nm qn N bs sn sub ab col dd k0 k1 k2 k3 k5,K.lookup C=some (excClassObj nm qn C N bs (.ref A'::[.type "Exception",.type "BaseException",.type "object"]) true sn sub ab col dd k0 k1 k2 k3 k5 yh):=by
 refine Np fun nG=> ?_
 obtain ⟨⟨c,dd,d,⟨sl⟩⟩,ho,q⟩:=bR q
 have q:=ac q
 obtain ⟨⟨nm,bs,mro,ns,qn,hd,sn,sub,ab,col,del⟩,h1,h2⟩:=bR q.2
 have q1:=ac h2
 have q2:=ac q1.2
 have q3:=ac q2.2
 obtain ⟨k0,k1,k2,k3,k5,e⟩:=E0 q3.2
 have e0:c= .type "type":=NE q.1
 have e1:mro=qd C A':=NE q1.1
 have e2:del=false:=cJ q2.1
 have e3:hd=true:=q3.1
 have e4:d=_:=rC h1
 have e5:sl=_:=e
 rw [e4,e0,e1,e2,e3,e5] at ho
 exact nG ⟨nm,qn,ns,bs,sn,sub,ab,col,dd,k0,k1,k2,k3,k5,ho⟩
section
variable {prog:Ob} {w:Pz} {A:Od} {E:Nv→Nx→Prop} {env:Env}
variable {nm q:Str} {C N:Addr} {bs bm:List Nv} {hdct:Bool} {sn:List Str} {sub:List Nv} {ab:Bool} {col:Nr Bool} {dd:Nr Addr} {k0 k1 k2 k3 k5:Nr Nv} {newId:Rc}
theorem xB {s:Nx} {y:Sem Nv} {Q:Flow→Nx→Prop} (hbase:bm.contains (.type "BaseException")=true) (hh:A.handled=none)
  (h:NH (model prog w) A y (fun v s₁=>∃e t dx,v= .ref e∧s₁.heap.get? C=some (excClassObj nm q C N bs bm hdct sn sub ab col dd k0 k1 k2 k3 k5 newId)∧
   s₁.heap.get? e=some {cls:= .ref C,dict:=dx,data:= .fields #[.ref t,.none,.none,.none,.bool false,.none]}∧E (.ref e) s₁) E s):
  NH (model prog w) A (raiseStmt env (some y) none) Q E s:=by
 have hcB:(Q1 C::bm).contains (.type "BaseException")=true:=by rw [UD,hbase,Bool.or_true]
 unfold raiseStmt
 refine Ny (Oc h (fun v s₁ h₁=> ?_) fun _ _ x=>x)
 refine Np fun nG=> ?_
 obtain ⟨e,t,dx,rfl,hC,he,hE⟩:=h₁
 obtain ⟨hp,g,d,tk,os⟩:=s₁
 refine nG ?_
 repeat (first|with_reducible refine Pu he ?_ |with_reducible refine Pu hC ?_ |(with_reducible refine QM hC ?_;rw [hcB])|wp_step)
 exact wpAny_raiseNew_none hh hE
end
structure Gi (K:Frag):Prop where
 cls:IV K 59 46=true
 at_:∃cd,qt K 59 46 cd
 nm:nsIn K Og ub=some (some (.ref 59))
 kp:keepIn K (.ref 59)=true
 ini:findIn K (.ref 59) "__init__"=some (some (.ref 36))
 fn:typeIn K (.ref 36)=some (.type "function")
 chk:Ir K 36=true
 exc:nsIn K Og GP=some none
 t1:takerIn K 59 tE=some none
 t2:takerIn K 59 xk=some none
section
variable {Z:Wd} {p:Ob} {loose:List Str} {mg mb:Str→Nr Nv} {A:Od} {E:Nv→Nx→Prop} {s:Nx} {env:Env} {n:Nat}
theorem Iz (O:Wd.Ok Z p loose mg mb) (G:Gi Z.K) (R:aN n A) (bs:∀b o,Z.base.get? b=some o→s.heap.get? b=some o) {v:Nv} {Q:Nv→Nx→Prop}
  (h:∀h' tk e t1,rz s.heap h' e 59 t1 [xk,tE]→Q (.ref e) {s with heap:=h',toks:=tk}):NH (model Z.prog Z.w) A (call (.ref 59) [v]) Q E s:=by
 have X:=O.X.keeps bs
 refine Np fun nG=> ?_
 obtain ⟨nm,qn,N,b,sn,sub,ab,col,dd,k0,k1,k2,k3,k5,l⟩:=CD G.cls
 obtain ⟨cd,Y⟩:=G.at_
 obtain ⟨hp,g,d,t,os⟩:=s
 refine nG ?_
 refine yU (B:="Exception") (initId:="Exception.__init__") QI (qL.own 46) (X _ _ l) X G.ini G.fn (by show 1≤PV;rw [TS];decide) (P6 ?_)
 refine Hh (g:=hp) (t0:=hp.objs.size) O G.chk G.exc Y G.t1 G.t2 (AL (qo R).depth) bs (fun b o e=>nR e) ?_ xX fun h' tk t1 S=>⟨rfl,h h' tk _ t1 S⟩
 ·cases q:hp.get? (hp.objs.size+1) with
  |none=>rfl
  |some o=>exact absurd (N7 q) (PD.mpr (NZ _))
theorem Fi (O:Wd.Ok Z p loose mg mb) (G:Gi Z.K) (R:aN n A) (hk:env.scope.kind= .function) (glb:env.globals=Og) (hx:oN env.scope ub=true) (bs:∀b o,Z.base.get? b=some o→s.heap.get? b=some o) {np cpos pos kp:Pos} {kk:Nat} {msg:Str} {Q:Flow→Nx→Prop}
  (h:∀h' tk e t1,rz s.heap h' e 59 t1 [xk,tE]→E (.ref e) {s with heap:=h',toks:=tk}):NH (model Z.prog Z.w) A (exec (.Raise (some (.Call (.Name ub np) [.Constant (.str msg) kk kp] [] cpos)) none pos) env) Q E s:=by
 refine Np fun nG=> ?_
 obtain ⟨nm,qn,N,b,sn,sub,ab,col,dd,k0,k1,k2,k3,k5,l⟩:=CD G.cls
 refine nG ?_
 rw [arm_exec_Raise]
 refine Ny (OR (xB (C:=59) (nm:=nm) (q:=qn) (N:=N) (bs:=b) (bm:= .ref 46::[.type "Exception",.type "BaseException",.type "object"]) (hdct:=true) (sn:=sn) (sub:=sub) (ab:=ab) (col:=col) (dd:=dd) (k0:=k0) (k1:=k1) (k2:=k2) (k3:=k3) (k5:=k5) (newId:=yh) (by rfl) R.calm ?_))
 refine Ny (Oc (Pt (O6 hk (by unfold PT;exact NE (ac hx).1) (Qn (mg:=mg) (by rw [glb];exact O.T.g.keeps bs) (mg_of O.X O.T.g G.nm) ?_) (cJ (ac hx).2))) (fun v s₃ h₃=>Ny (OR (NM h₃))) fun _ _ x=>x)
 refine iD (Z:=Z) (f:= .ref 59) (.inr (.inr G.kp)) rfl ?_
 rw [bt rfl]
 refine O9 (R9 (pos:=kp) (k:=kk) (Ps ⟨O.X.keeps bs,Iz (s:={s with toks:=s.toks+1}) O G R bs fun h' tk e t1 S=> ?_⟩))
 obtain ⟨dx,he,_⟩:=S.obj
 exact ⟨e,t1,dx,rfl,S.keep _ _ (O.X.keeps bs _ _ l),he,h h' tk e t1 S⟩
end
noncomputable def Ip (K:Frag):Bool:=IV K 59 46&&((((K.lookup 59).bind fun o=>x8 o.data).any fun cd=>cd.mro==qd 59 46&&cd.hasDict)&&(xC (findIn K (.ref 59) "__setattr__") "object.__setattr__"&&(jC (nsIn K Og ub) 59&&(keepIn K (.ref 59)&&(jC (findIn K (.ref 59) "__init__") 36&&
 (typeIn K (.ref 36)==some (.type "function")&&(Ir K 36&&(fY (nsIn K Og GP)&&(fY (takerIn K 59 tE)&&fY (takerIn K 59 xk))))))))))
theorem z6 {K:Frag} {C:Addr} {cd:P4} (h:((K.lookup C).bind fun o=>x8 o.data)=some cd):∃c0 d0 sl,K.lookup C=some {cls:=c0,dict:=d0,data:= .cls cd,slots:=sl}:=by
 obtain ⟨⟨c0,d0,_,sl⟩,e,h⟩:=Py.mp h
 exact ⟨c0,d0,sl,rC h▸e⟩
theorem HZ {K:Frag} (g:Ip K=true):Gi K:=by
 have a1:=ac g
 have a2:=ac a1.2
 have a3:=ac a2.2
 have a4:=ac a3.2
 have a5:=ac a4.2
 have a6:=ac a5.2
 have a7:=ac a6.2
 have a8:=ac a7.2
 have a9:=ac a8.2
 have b:=ac a9.2
 refine ax a2.1 fun cd h1 h2=> ?_
 have h3:=ac h2
 exact ⟨a1.1,⟨cd,z6 h1,NE h3.1,h3.2,NE a3.1⟩,NE a4.1,a5.1,NE a6.1,NE a7.1,a8.1,NE a9.1,NE b.1,NE b.2⟩
section
variable {Z:Wd} {n:Nat} {E:Ev} {p:Ob} {loose:List Str} {mg mb:Str→Nr Nv}
theorem vW {sc:Px} {st:Stmt} (h:yH sc st=true):oN sc ub=true∧∃np msg kk kp cpos pos,st= .Raise (some (.Call (.Name ub np) [.Constant (.str msg) kk kp] [] cpos)) none pos:=by
 refine Np fun nG=> ?_
 refine ax h fun q h1 h2=> ?_
 obtain ⟨pos,e0⟩:=vB h1
 have h4:=ac h2
 refine ax h4.2 fun e e1 h6=> ?_
 refine ax h6 fun r h7 h8=> ?_
 obtain ⟨np,cpos,e2⟩:=cU h7
 have h10:=ac h8
 have h11:=ac h10.2
 refine ib h11.2 fun a e3 h13=> ?_
 refine ax h13 fun kc h14 h15=> ?_
 obtain ⟨kk,kp,e4⟩:=gS h14
 obtain ⟨msg,e5⟩:=Oq.mp h15
 exact nG ⟨h11.1,np,msg,kk,kp,cpos,pos,by rw [e0,e1,OI.mp h4.1,e2,e3,e4,uz e5,NE h10.1]⟩
section
variable {d k m:Nat} {c:Ctx} {st:Stmt} {env:Env} {A:Od} {s:Nx} {ρ:Loc} {σ:ag} {CA:List Addr} {D:Addr→Prop} {r:fc×Loc×ag}
theorem Kt (SB:gX Z n E) (SS:jf Z n E) (SX:wu Z n E) {t:CE} {a b:List CS} (hc:cy Z.fname m c (k+1) st (.ite t a b)=true) (hx:Ai c.sc (d+1) st (.ite t a b)=true) (EO:az env c) (S:St Z env c.vars ρ CA σ D s.heap) (R:aN n A) (ev:dU Z.P E (.ite t a b) ρ σ=some r) (ho:r.1= .exc):MF Z A env CA (exec st env) s:=by
 refine Np fun nG=> ?_
 refine G4 hc fun y z w pos h1 e b1 b2 b3=> ?_
 refine ax hx fun q' h3 h6=> ?_
 rw [←Nq (h1.symm.trans h3)] at h6
 have h6:=ac h6
 refine nG (e▸fun Q X P h=>af ev fun q e1 ev=>wpAny_If (SB m c _ t b1 env A s ρ σ CA D q.1 q.2 EO S R (jq e1) _ _ fun h1 t1 k1 c1=> ?_))
 have a1:cr Z (Ws env CA) env c.vars CA D s.heap (.next,ρ,q.2) .next h1 CA D:= .of S k1 c1 rfl
 have go:=fun {sts css} hc hx e2=>sO (d:=d) (k:=k) (m:=m) (sts:=sts) (css:=css) SS SX EO R hc hx (s:={s with heap:=h1,toks:=t1}) a1.st e2 ho Q X P fun h2 t2 e z=>h h2 t2 e (z.seq a1)
 cases hb:q.1 with
 |true=>rw [hb] at ev;exact go b2 h6.1 ev
 |false=>rw [hb] at ev;exact go b3 h6.2 ev
end
theorem zC (O:Wd.Ok Z p loose mg mb) (G:Gi Z.K) (SE:bK Z n E) (SB:gX Z n E) (SS:jf Z n E) (SX:wu Z n E):wu Z (n+1) (step Z.P E):=by
 intro d k m c st cs hc hx env A s ρ σ CA D r EO S R ev ho
 refine Np fun nG=> ?_
 cases d with
 |zero=>cases hx
 |succ d=>
 cases k with
 |zero=>cases hc
 |succ k=>
 have R':aN n A:=R.less (NZ _)
 cases cs with
 |for_ t it body=>
  refine GS hc fun ct ci cb p h1 e b1 b2=> ?_
  refine ax hx fun q' h3 hx=> ?_
  rw [←Nq (h1.symm.trans h3)] at hx
  exact nG (e▸fun Q X P h=>ye (P:=Z.P) O SE SS b1 b2 EO S R' ev ⟨fun z=>(by rw [ho] at z;cases z),fun _=>⟨SX,⟨d,hx⟩,P,h⟩⟩)
 |ite t a b=>exact nG (Kt SB SS SX hc hx EO S R' ev ho)
 |raise_=>
  obtain ⟨gl,np,msg,kk,kp,cpos,pos,e⟩:=vW hx
  refine nG (e▸fun Q X P h=>Fi O G R (EO.sc▸EO.kind) EO.glb (EO.sc▸gl) S.base fun h' tk e t1 z=>h h' tk e ?_)
  exact ⟨aw.of_all z.keep,let ⟨m,q⟩:=S.ns;⟨m,q.keeps z.keep⟩,z.nx,let ⟨dx,q,_⟩:=z.obj;⟨dx,t1,q⟩⟩
 |assign i e=>
  unfold step dU at ev
  dsimp only at ev
  cases hq:e.comp? with
  |none=>
   rw [hq] at ev
   exact af ev fun q e1 ev=>by cases Nq ev;cases ho
  |some q=>
   rw [hq] at ev
   exact af ev fun rr e1 ev=>by obtain ⟨hz,ev⟩:=bU ev;cases Nq ev;cases ho
 |_=>cases hx
end
section
variable {Z:Wd} {n:Nat} {p:Ob} {loose:List Str} {mg mb:Str→Nr Nv}
theorem Bo (O:Wd.Ok Z p loose mg mb) (G:Gi Z.K) (S:∀n,LS Z n (run Z.P n)):∀n,wu Z n (run Z.P n):=fun n=>by
 induction n with
 |zero=>intro _ _ _ _ _ _ _ _ _ _ _ _ _ _ _ _ _ _ _ ev;cases ev
 |succ n ih=>exact zC O G (S n).e (S n).b (S n).s ih
end
section
variable {Z:Wd} {n:Nat} {E:Ev} {p:Ob} {loose:List Str} {mg mb:Str→Nr Nv} {A:Od} {s:Nx} {B:Heap} {outer:List Env}
structure jz (A:Od) (B:Heap) (outer:List Env) (h:Heap):Prop where
 fr:A.frames=some outer
 st:B.StaysIn h
 fs:h.FunFrames B outer
theorem Lz (O:Wd.Ok Z p loose mg mb) (SS:jf Z n E) (SX:wu Z n E) {a:Addr} {fn:Fn} {fo:Obj} {fd:OL} {body:List Stmt} {ps:List Str} {c:Ctx} {k m d:Nat} (F:F9 Z a fn fo fd body ps c k m) (hx:bG (Ai c.sc d) body fn.body=true) {args:List aA} {σ:ag} {r:fc×Loc×ag} (hn:args.length≤fn.np) (hn2:fn.np≤args.length+fn.dflts.length)
  (e1:aH E fn.body (gA fn args) σ=some r) (ho:r.1= .exc) {vs:List Nv} {D:Addr→Prop} (R:aN (n+1) A) (G:Gg Z [] σ D s.heap) (rs:bS Z [] D s.heap vs args) (C:jz A B outer s.heap) {RR:Qx→Nx→Prop}
  (hR:∀h' tk e t,U0 B outer e (.ref 59) (.ref t) h'→s.heap.UpToSlots h'→RR (.error (.ref e)) {s with heap:=h',toks:=tk}):PB (model Z.prog Z.w) A (.call (.ref a) ⟨vs,[]⟩) RR s:=
 jl O F hn hn2 R G rs fun h₁ tk x=>sO SS SX x.eo R.into F.chk hx (s:={s with heap:=h₁,toks:=tk}) x.st e1 ho _ _ PassesOwn.leaving fun h2 t2 e z=>by
  refine Np fun nG=> ?_
  obtain ⟨dx,t,he⟩:=z.obj
  obtain ⟨mm,hm⟩:=z.ns
  refine nG ?_
  have kp:∀b o,s.heap.get? b=some o→h2.get? b=some o:=fun b o q=>z.keep b o (x.keep b o q) fun w=>w.elim (fun w=>nomatch w) fun w=>absurd (N7 q) (PD.mpr (x.new b (Dn w)))
  have nB:∀b,s.heap.get? b=none→B.get? b=none:=fun b q=>by
   cases q':B.get? b with
   |none=>rfl
   |some o=>have:=C.st b o q';rw [q] at this;cases this
  have ne:s.heap.get? e=none:=by
   cases q:s.heap.get? e with
   |none=>rfl
   |some o=>have:=x.keep _ _ q;rw [z.new] at this;cases this
  have hL:s.heap.get? (Om fd s.heap.objs.size a).locals=none:=d9 s.heap
  have fo:=C.fs.of_keeps fun b o q _=>⟨o,kp b o q,rfl⟩
  have fs:h2.FunFrames B (Om fd s.heap.objs.size a::outer):=T8 (by show fd.scope.kind≠_;rw [F.kind];exact fun z=>nomatch z) rfl hm (nB _ hL) fo
  refine wpAny_leaving_firstW (RE C.fr) fs rfl he (fun b o q=>kp b o (C.st b o q)) (nB _ ne) rfl rfl rfl fun h' hl=> ?_
  refine Np fun nG=> ?_
  obtain ⟨q1,q2,q3,q4⟩:=hl
  refine nG ?_
  exact hR h' t2 e t ⟨q1,nB _ ne,q2.2.2,q3⟩ ((Qq kp).trans q4)
end
section
variable {Z:Wd} {n:Nat} {E:Ev} {p:Ob} {loose:List Str} {mg mb:Str→Nr Nv} {A:Od} {s:Nx} {c:Ctx} {env:Env} {ρ:Loc} {σ σ1:ag} {CA:List Addr} {D:Addr→Prop}
theorem yb (O:Wd.Ok Z p loose mg mb) (SE:bK Z n E) {m i:Nat} {v:Expr} {cs:List CE} (hv:au Z.fname m c v (.callF i cs)=true) (EO:az env c) (S:St Z env c.vars ρ CA σ D s.heap) (R:aN n A) {Us:List aA} (e1:kO E cs ρ σ=some (Us,σ1)) {Q:Nv→Nx→Prop} {X:Nv→Nx→Prop}
  (h:∀vs h1 t1,aw (We CA) s.heap h1→aE Z CA σ1 D h1→bS Z CA D h1 vs (Us.map aA.bind)→NH (model Z.prog Z.w) A (call (.ref (Z.fa i)) vs) Q X {s with heap:=h1,toks:=t1}):NH (model Z.prog Z.w) A (eval v env) Q X s:=by
 cases m with
 |zero=>cases hv
 |succ m=>
  refine Np fun nG=> ?_
  obtain ⟨⟨f,args⟩,h3,h4⟩:=bR hv
  obtain ⟨np,cpos,rfl⟩:=cU h3
  obtain ⟨o1,o2⟩:=O.fn _ _ (NE (ac (ac h4).2).1)
  refine nG ?_
  exact Pt (jZ O EO S.base (ac h4).1 o1 (iD (.inr (.inr o2)) (ee (ac (ac h4).2).2 _ _).1 (jk SE EO R (ac (ac h4).2).2 S e1 fun vs h1 t1 k1 c1 r1=>⟨O.X.keeps (S.toGd.step k1 c1).base,h vs h1 t1 k1 c1 r1⟩)))
theorem ro (O:Wd.Ok Z p loose mg mb) (SE:bK Z n E) {m i:Nat} {v:Expr} {cs:List CE} {pos:Pos} (h2:eR v=true) (hv:au Z.fname m c v (.callF i cs)=true) (EO:az env c) (S:St Z env c.vars ρ CA σ D s.heap) (R:aN n A) {Us:List aA} (e1:kO E cs ρ σ=some (Us,σ1)) {Q:Flow→Nx→Prop} {X:Nv→Nx→Prop}
  (h:∀vs h1 t1,aw (We CA) s.heap h1→aE Z CA σ1 D h1→bS Z CA D h1 vs (Us.map aA.bind)→NH (model Z.prog Z.w) A (call (.ref (Z.fa i)) vs) (fun _ s'=>Q .next s') X {s with heap:=h1,toks:=t1}):NH (model Z.prog Z.w) A (exec (.Expr v pos) env) Q X s:=
 Rl (hi:=pM EO) (hs:=ez h2) (yb O SE hv EO S R e1 h)
end
section
variable {Z:Wd} {n:Nat} {E:Ev} {p:Ob} {loose:List Str} {mg mb:Str→Nr Nv} {A:Od} {s:Nx} {B:Heap} {outer:List Env}
noncomputable def Bg (Z:Wd) (n a:Nat) (args:List aA):Prop:=∀(A:Od) (B:Heap) (outer:List Env) (s:Nx) (D:Addr→Prop) (vs:List Nv),aN n A→Gg Z [] [] D s.heap→bS Z [] D s.heap vs args→jz A B outer s.heap→∀RR:Qx→Nx→Prop,
 (∀h' tk e t,U0 B outer e (.ref 59) (.ref t) h'→s.heap.UpToSlots h'→RR (.error (.ref e)) {s with heap:=h',toks:=tk})→PB (model Z.prog Z.w) A (.call (.ref a) ⟨vs,[]⟩) RR s
theorem jz.push {fd:OL} {a:Addr} {c:Ctx} {ρ:Loc} {σ:ag} {CA:List Addr} {D:Addr→Prop} {h:Heap} (C:jz A B outer s.heap) (hk:fd.scope.kind= .function) (x:MZ Z (Om fd s.heap.objs.size a) c ρ CA σ D s.heap h):jz (A.deeper (Om fd s.heap.objs.size a)) B (Om fd s.heap.objs.size a::outer) h:=by
 obtain ⟨mm,hm⟩:=x.st.ns
 have nn:B.get? s.heap.objs.size=none:=by
  cases q':B.get? s.heap.objs.size with
  |none=>rfl
  |some o=>exact absurd (N7 (C.st _ o q')) (OD _)
 refine ⟨RE C.fr,fun b o q=>x.keep b o (C.st b o q),T8 (by show fd.scope.kind≠_;rw [hk];exact fun z=>nomatch z) rfl hm nn (C.fs.of_keeps fun b o q _=>⟨o,x.keep b o q,rfl⟩)⟩
end
section
variable {Z:Wd} {n:Nat} {E:Ev} {p:Ob} {loose:List Str} {mg mb:Str→Nr Nv}
theorem Mo (O:Wd.Ok Z p loose mg mb) (SE:bK Z n E) {a i:Nat} {fn:Fn} {fo:Obj} {fd:OL} {body:List Stmt} {ps:List Str} {c:Ctx} {k m:Nat} (F:F9 Z a fn fo fd body ps c k m) {cs:List CE} {css:List CS} (hb:fn.body= .expr (.callF i cs)::css) {args us:List aA} (hn:args.length≤fn.np) (hn2:fn.np≤args.length+fn.dflts.length)
  (e1:kO E cs (gA fn args) []=some (us,[])) (H:Bg Z n (Z.fa i) (us.map aA.bind)):Bg Z (n+1) a args:=fun A B outer s D vs R G rs C RR hR=>
 jl O F hn hn2 R G rs fun h₁ tk x=>by
  have ck:=F.chk
  rw [hb] at ck
  cases body with
  |nil=>cases ck
  |cons st sts=>
  have ck:(cy Z.fname m c k st (.expr (.callF i cs))&&bG (cy Z.fname m c k) sts css)=true:=ck
  cases k with
  |zero=>cases (ac ck).1
  |succ k=>
  refine Np fun nG=>xi (ac ck).1 fun v pos he h1 h2=>nG ?_
  rw [he]
  have C1:=C.push F.kind x
  refine Ov (ro (s:={s with heap:=h₁,toks:=tk}) O SE h1 h2 x.eo x.st R.into e1 fun vs' h2 t2 k2 c2 r2=>P6 ?_)
  have kp:∀b o,h₁.get? b=some o→h2.get? b=some o:=fun b o q=>k2 b o q fun w=>nomatch w
  have C2:jz (A.deeper (Om fd s.heap.objs.size a)) B (Om fd s.heap.objs.size a::outer) h2:=⟨C1.fr,fun b o q=>kp b o (C1.st b o q),C1.fs.of_keeps fun b o q _=>⟨o,kp b o q,rfl⟩⟩
  refine H _ B _ {s with heap:=h2,toks:=t2} _ vs' R.into (x.st.toGd.step k2 c2).gg r2 C2 _ fun h' t' e t fl up=> ?_
  exact wpAny_leaves_onW C1.fr rfl fl fun h'' fl' up'=>hR h'' t' e t fl' ((Qq fun b o q=>kp b o (x.keep b o q)).trans (up.trans up'))
end
structure LB (Z:Wd) (m k:Nat) (c:Ctx) (st:Stmt) (cs:CS) (st1:Stmt) (np p1 p2 p3 rp:Pos) (kk:Nat):Prop where
 eq:st= .Try [st1] [.ExceptHandler (some (.Name ub np)) none [.Return (some (.Constant (.bool true) kk p1)) rp] p2] [] [] p3
 chk:cy Z.fname m c k st1 cs=true
 gl:eX c ub=true
theorem uq {k:Ue} {b:Bool} (h:ta k=some (.bool b)):k= .bool b:=by
 cases k with
 |bool=>exact NC Const.bool (V.bool.inj (Nq h))
 |str=>obtain ⟨_,h⟩:=bU h;exact V.noConfusion (Nq h)
 |_=>first|exact V.noConfusion (Nq h)|cases h
theorem FY {f:Stmt→CS→Bool} {l:List Stmt} {cs:CS} (h:bG f l [cs]=true):∃st,l=[st]∧f st cs=true:=by
 cases l with
 |nil=>cases h
 |cons st l=>
  have h:=ac (show (f st cs&&bG f l [])=true from h)
  cases l with
  |nil=>exact ⟨st,rfl,h.1⟩
  |cons a b=>cases h.2
theorem Cn {Z:Wd} {m k:Nat} {c:Ctx} {st:Stmt} {b:Bool} (h:cy Z.fname m c k st (.ret (.cst (.bool b)))=true):∃kk p rp,st= .Return (some (.Constant (.bool b) kk p)) rp:=by
 refine Np fun nG=> ?_
 cases k with
 |zero=>cases h
 |succ k=>
 refine B5 h fun v rp e1 h10=> ?_
 cases m with
 |zero=>cases h10
 |succ m=>
 refine ax h10 fun kc h11 h12=> ?_
 obtain ⟨kk,p1,e3⟩:=gS h11
 exact nG ⟨kk,p1,rp,by rw [e1,e3,uq (ND h12)]⟩
theorem Iw {Z:Wd} {m k:Nat} {c:Ctx} {hd:ExceptHandler} (h:(I3 hd).any (fun r=>r.1==ub&&(eX c ub&&bG (cy Z.fname m c k) r.2 [.ret (.cst (.bool true))]))=true):eX c ub=true∧∃np p1 p2 rp kk,hd= .ExceptHandler (some (.Name ub np)) none [.Return (some (.Constant (.bool true) kk p1)) rp] p2:=by
 refine Np fun nG=> ?_
 refine ax h fun r h1 h2=> ?_
 obtain ⟨np,p2,e1⟩:=Av h1
 have a1:=ac h2
 have a2:=ac a1.2
 obtain ⟨st,e2,h3⟩:=FY a2.2
 obtain ⟨kk,p1,rp,e3⟩:=Cn h3
 exact nG ⟨a2.1,np,p1,p2,rp,kk,by rw [e1,e2,e3,NE a1.1]⟩
theorem yJ {Z:Wd} {m k:Nat} {c:Ctx} {st:Stmt} {cs:CS} (h:cy Z.fname m c k st (.try_ [cs] [.ret (.cst (.bool true))])=true):∃k' st1 np p1 p2 p3 rp kk,LB Z m k' c st cs st1 np p1 p2 p3 rp kk:=by
 refine Np fun nG=> ?_
 cases k with
 |zero=>cases h
 |succ k=>
 refine ax h fun q h1 h2=> ?_
 obtain ⟨p3,e0⟩:=z4 h1
 have a1:=ac h2
 have a2:=ac a1.2
 have a3:=ac a2.2
 obtain ⟨st1,e1,h3⟩:=FY a3.1
 refine ib a3.2 fun hd e2 h4=> ?_
 obtain ⟨gl,np,p1,p2,rp,kk,e3⟩:=Iw h4
 exact nG ⟨k,st1,np,p1,p2,p3,rp,kk,by rw [e0,e1,e2,e3,aF a1.1,aF a2.1],h3,gl⟩
noncomputable def yn (Z:Wd) (n a:Nat) (args:List aA) (b:Bool):Prop:=∀(A:Od) (B:Heap) (outer:List Env) (s:Nx) (D:Addr→Prop) (vs:List Nv),aN n A→Gg Z [] [] D s.heap→bS Z [] D s.heap vs args→jz A B outer s.heap→Z.base.StaysIn B→∀RR:Qx→Nx→Prop,
 (∀h' tk,B.StaysIn h'→s.heap.UpToSlots h'→RR (.ok (.ret (.bool b))) {s with heap:=h',toks:=tk})→PB (model Z.prog Z.w) A (.call (.ref a) ⟨vs,[]⟩) RR s
section
variable {Z:Wd} {n:Nat} {E:Ev} {p:Ob} {loose:List Str} {mg mb:Str→Nr Nv}
theorem H3 (O:Wd.Ok Z p loose mg mb) (G:Gi Z.K) {A:Od} {env:Env} {outer:List Env} {B:Heap} {s:Nx} {e t:Addr} {np p1 p2 rp:Pos} {kk:Nat} (fr:A.frames=some (env::outer)) (hB:Z.base.StaysIn B) (hk:env.scope.kind= .function) (glb:env.globals=Og) (hf:env.frame=some env.locals)
  (hx:oN env.scope ub=true) (fl:U0 B (env::outer) e (.ref 59) (.ref t) s.heap) {Q:Flow→Nx→Prop} {X:Nv→Nx→Prop} (hQ:∀h' tk,B.StaysIn h'→s.heap.UpToSlots h'→Q (.ret (.bool true)) {s with heap:=h',toks:=tk}):
  NH (model Z.prog Z.w) A (noteFrame (.ref e) env) (fun _ s₂=>NH (model Z.prog Z.w) A (setFlight (.ref e) none) (fun _ s₃=>NH (model Z.prog Z.w) A (handleBy (.ref e) env [.ExceptHandler (some (.Name ub np)) none [.Return (some (.Constant (.bool true) kk p1)) rp] p2]) Q X s₃) X s₂) X s:=by
 refine Np fun nG=> ?_
 obtain ⟨nm,qn,N,b,sn,sub,ab,col,dd,k0,k1,k2,k3,k5,l⟩:=CD G.cls
 refine nG ?_
 refine wpAny_looks_onW fr hf fl fun h4 hd4 u4=>wpAny_landsW hd4 fun h5 fl5 u5=> ?_
 have bs5:Z.base.StaysIn h5:=fun b o q=>fl5.1 b o (hB b o q)
 refine Np fun nG=> ?_
 obtain ⟨oe,he,hc⟩:=fl5.there
 refine nG ?_
 refine wpAny_handleBy_cons (codeAny_handlers_test (O6 hk (by unfold PT;exact NE (ac hx).1) (Qn (mg:=mg) (by rw [glb];exact O.T.g.keeps bs5) (mg_of O.X O.T.g G.nm) ?_) (cJ (ac hx).2))) (by intro q;cases q)
 refine wpAny_excMatches_sub_self (O.X.keeps bs5 _ _ l) he hc (by rfl) (codeAny_handlers_suite (lands_againW fl5 fun h6 fl6 u6=>Ov (Sq (T6 ?_))))
 exact hQ h6 _ fl6.1 (u4.trans (u5.trans u6))
theorem DG (O:Wd.Ok Z p loose mg mb) (G:Gi Z.K) (SE:bK Z n E) {a i:Nat} {fn:Fn} {fo:Obj} {fd:OL} {body:List Stmt} {ps:List Str} {c:Ctx} {k m:Nat} (F:F9 Z a fn fo fd body ps c k m) {cs:List CE} {css:List CS} (hb:fn.body= .try_ [.expr (.callF i cs)] [.ret (.cst (.bool true))]::css) {args us:List aA} (hn:args.length≤fn.np) (hn2:fn.np≤args.length+fn.dflts.length)
  (e1:kO E cs (gA fn args) []=some (us,[])) (H:Bg Z n (Z.fa i) (us.map aA.bind)):yn Z (n+1) a args true:=fun A B outer s D vs R Gs rs C hB RR hR=>
 jl O F hn hn2 R Gs rs fun h₁ tk x=>by
  have ck:=F.chk
  rw [hb] at ck
  cases body with
  |nil=>cases ck
  |cons st sts=>
  have ck:(cy Z.fname m c k st (.try_ [.expr (.callF i cs)] [.ret (.cst (.bool true))])&&bG (cy Z.fname m c k) sts css)=true:=ck
  refine Np fun nG=> ?_
  obtain ⟨k',st1,np,p1,p2,p3,rp,kk,e0,c1,gl⟩:=yJ (ac ck).1
  cases k' with
  |zero=>cases c1
  |succ k'=>
  refine xi c1 fun v pos he h1 h2=>nG ?_
  rw [e0,he]
  have C1:=C.push F.kind x
  refine Ov (Vm (Ov (ro (s:={s with heap:=h₁,toks:=tk}) O SE h1 h2 x.eo x.st R.into e1 fun vs' h2 t2 k2 c2 r2=>P6 ?_)))
  have kp:∀b o,h₁.get? b=some o→h2.get? b=some o:=fun b o q=>k2 b o q fun w=>nomatch w
  have C2:jz (A.deeper (Om fd s.heap.objs.size a)) B (Om fd s.heap.objs.size a::outer) h2:=⟨C1.fr,fun b o q=>kp b o (C1.st b o q),C1.fs.of_keeps fun b o q _=>⟨o,kp b o q,rfl⟩⟩
  refine H _ B _ {s with heap:=h2,toks:=t2} _ vs' R.into (x.st.toGd.step k2 c2).gg r2 C2 _ fun h' t' e t fl up=> ?_
  exact H3 O G (s:={s with heap:=h',toks:=t'}) C1.fr hB (x.eo.sc▸x.eo.kind) x.eo.glb rfl (x.eo.sc▸gl) fl fun h6 t6 st up2=>hR h6 t6 st ((Qq fun b o q=>kp b o (x.keep b o q)).trans (up.trans up2))
theorem EP (O:Wd.Ok Z p loose mg mb) (SS:jf Z n E) {a i:Nat} {fn:Fn} {fo:Obj} {fd:OL} {body:List Stmt} {ps:List Str} {c:Ctx} {k m:Nat} (F:F9 Z a fn fo fd body ps c k m) {cs:List CE} (hb:fn.body=[.try_ [.expr (.callF i cs)] [.ret (.cst (.bool true))],.ret (.cst (.bool false))]) {args:List aA} (hn:args.length≤fn.np) (hn2:fn.np≤args.length+fn.dflts.length)
  (e1:E.s (.expr (.callF i cs)) (gA fn args) []=some (.next,gA fn args,[])) (e2:E.s (.ret (.cst (.bool false))) (gA fn args) []=some (.ret (.v (.bool false)),gA fn args,[])):yn Z (n+1) a args false:=fun A B outer s D vs R Gs rs C hB RR hR=>
 jl O F hn hn2 R Gs rs fun h₁ tk x=>by
  have ck:=F.chk
  rw [hb] at ck
  cases body with
  |nil=>cases ck
  |cons st sts=>
  have ck:(cy Z.fname m c k st (.try_ [.expr (.callF i cs)] [.ret (.cst (.bool true))])&&bG (cy Z.fname m c k) sts [.ret (.cst (.bool false))])=true:=ck
  refine Np fun nG=> ?_
  obtain ⟨k',st1,np,p1,p2,p3,rp,kk,e0,c1,gl⟩:=yJ (ac ck).1
  obtain ⟨st2,e1',c2⟩:=FY (ac ck).2
  refine nG ?_
  rw [e0,e1']
  refine Ov (Vm (Ov (SS _ _ _ _ _ c1 _ _ {s with heap:=h₁,toks:=tk} _ _ _ _ _ x.eo x.st R.into e1 rfl _ _ fun f h2 t2 CA2 D2 a2=> ?_)))
  have hf:f= .next:=a2.flow
  subst hf
  refine Qb (Qb ?_)
  refine Ov (SS _ _ _ _ _ c2 _ _ {s with heap:=h2,toks:=t2} _ _ _ _ _ x.eo a2.st R.into e2 rfl _ _ fun f h3 t3 CA3 D3 a3=> ?_)
  obtain ⟨v,rfl,r3⟩:∃v,f= .ret v∧_:=a3.flow
  cases (show v= .bool false from b8.says r3)
  have k3:=(a2.seq a3).keep
  have kp:∀b o,s.heap.get? b=some o→h3.get? b=some o:=fun b o q=>k3 b o (x.keep b o q) fun w=>w.elim (fun w=>nomatch w) fun w=>absurd (N7 q) (PD.mpr (x.new b (Dn w)))
  exact hR h3 t3 (fun b o q=>kp b o (C.st b o q)) (Qq kp)
end
noncomputable def DR (K:Frag):Bool:=(AU K (uL 11)).any fun fd=>(mP fd.body).any fun body=>bG (Ai fd.scope 40) body aU.body
theorem DQ {prog:Ob} {w:Pz} {K:Frag} {h:Heap} {fn:Fn} {fo:Obj} {fd:OL} {body:List Stmt} {ps:List Str} {c:Ctx} {k m:Nat} (g:DR K=true) (F:F9 (gW prog w K h) ((gW prog w K h).fa 11) fn fo fd body ps c k m):bG (Ai c.sc 40) body aU.body=true:=by
 refine ax g fun fd' h1 h2=> ?_
 obtain ⟨o,h3,h4⟩:=l7 h1
 refine ax h2 fun body' h5 h6=> ?_
 have e1:o=fo:=Nq (h3.symm.trans F.at_)
 subst e1
 have e2:fd'=fd:=by
  have:=h4.symm.trans F.data
  cases this;rfl
 subst e2
 have e3:body'=body:=by
  have:=(iP h5).symm.trans F.bod
  cases this;rfl
 subst e3
 rw [F.sc];exact h6
section
variable {Z:Wd} {n:Nat} {E:Ev} {p:Ob} {loose:List Str} {mg mb:Str→Nr Nv} {A:Od} {s:Nx} {c:Ctx} {env:Env} {vars:eE} {ρ:Loc} {σ σ1:ag} {CA:List Addr} {D:Addr→Prop} {h h':Heap}
theorem St.slots (S:St Z env vars ρ CA σ D h) (kp:∀b o,b≠env.locals→h.get? b=some o→h'.get? b=some o) (nk:∀m,h.Ns env.locals m→h'.Ns env.locals m):St Z env vars ρ CA σ D h':=by
 obtain ⟨m0,n0⟩:=S.ns
 have nl:∀y c,env.cells.lookup y=some c→c≠env.locals:=fun y c l q=>let ⟨_,_,ic⟩:=S.pc y c l;Ns.notCell n0 (q▸ic)
 exact ⟨S.toGd.set1 S.nsD S.nsCA kp (let ⟨o,_,_,z,_⟩:=nk _ n0;⟨o,z⟩),⟨m0,nk _ n0⟩,S.nsD,S.nsCA,fun x q l=>let ⟨d,v,i⟩:=S.pc x q l;⟨d,v,IsCell.keep i fun o e=>kp q o (nl x q l) e⟩,S.pinj,S.pcel,
  fun x i m U e=>let ⟨v,sl,r⟩:=S.vars x i m U e;⟨v,sl.imp (fun z=>let ⟨a,mm,n,w⟩:=z;⟨a,mm,nk _ n,w⟩) fun z=>let ⟨a,q,l,ic⟩:=z;⟨a,q,l,IsCell.keep ic fun o e=>kp q o (nl x q l) e⟩,r.mono fun b o d e=>⟨d,kp b o (fun z=>d (z▸S.nsD)) e⟩⟩⟩
theorem AW (O:Wd.Ok Z p loose mg mb) (SE:bK Z n E) {m k i:Nat} {st:Stmt} {cs:List CE} {rb:CE} (hc:cy Z.fname m c k st (.ret (.cmp (.callF i cs) .eq rb))=true) (EO:az env c) (S:St Z env c.vars ρ CA σ D s.heap) (R:aN n A) (fr:A.frames=some [env]) (hf:env.frame=some env.locals) {u:V} {b:Bool}
  (e1:kO E cs ρ σ=some ([.v u],σ)) (H:yn Z n (Z.fa i) [.v u] b) (e2:E.e rb ρ σ=some (.v (.bool b),σ)) {Q:Flow→Nx→Prop} {X:Nv→Nx→Prop}
  (hQ:∀h' tk,(∀b o,Z.base.get? b=some o→h'.get? b=some o)→Q (.ret (.bool true)) {s with heap:=h',toks:=tk}):NH (model Z.prog Z.w) A (exec st env) Q X s:=by
 cases k with
 |zero=>cases hc
 |succ k=>
 refine Np fun nG=>B5 hc fun v rp e0 h3=> ?_
 cases m with
 |zero=>cases h3
 |succ m=>
 refine Gk h3 fun l r pos e3 a2 a3 a4=>nG ?_
 rw [e0,e3]
 refine Sq ?_
 show NH _ _ (do let v←eval l env;compareChain pos v [eD .eq] (markedEach [eD .eq] [r] [eval r env])) _ _ _
 rw [v3 _ _ a3]
 refine Ny (yb O SE a2 EO S R e1 fun vs h1 t1 k1 c1 r1=>P6 ?_)
 have S1:=S.step k1 c1
 obtain ⟨m0,n0⟩:=S1.ns
 obtain ⟨oL,es,ep,gL,dL,_⟩:=n0
 have rs:bS Z [] D h1 vs [.v u]:=by
  cases r1 with|cons x y=>cases y;exact .cons (U:= .v u) x .nil
 have hk:env.scope.kind= .function:=EO.sc▸EO.kind
 have C:jz A (h1.hide env.locals) [env] h1:=⟨fr,fun b o q=>Heap.of_hide q,(fun z=>nomatch hk.symm.trans z),⟨env.locals,oL,hf,V2 _ _,gL,fun vs q=>by rw [dL] at q;cases q⟩,trivial⟩
 refine H A _ _ {s with heap:=h1,toks:=t1} D vs R ⟨S1.base,S1.dabove,.inl S1.low,S1.live,rfl,.nil,fun k a u e _=>(by cases e),fun a m=>(by cases m)⟩ rs C (fun b o q=>(UZ _ fun z=>by rw [z,S1.toGd.dbase _ S1.nsD] at q;cases q).trans (S1.base b o q)) _ fun h' tk st up=> ?_
 have S2:St Z env c.vars ρ CA σ D h':=S1.slots (fun b o z q=>st b o ((UZ _ z).trans q)) fun m q=>up.ns q
 refine Ny (Ou (SE _ c r rb a4 env A {s with heap:=h',toks:=tk} ρ σ CA D _ _ EO S2 R e2 _ _ fun w h2 t2 k2 c2 r2=>Ny (OR (Qm ?_))))
 cases (show w= .bool b from b8.says r2)
 refine kE (Z:=Z) (D:=D) (s:={s with heap:=h2,toks:=t2}) (o:= .eq) (x:= .bool b) (y:= .bool b) (r:=true) (.inl (.bool b)) (.inl (.bool b)) (by cases b<;>rfl) (oR R) fun tk=>hQ h2 tk (S2.step k2 c2).base
end
section
variable {Z:Wd} {n:Nat} {E:Ev} {c:Ctx} {env:Env} {A:Od}
theorem DW (SS:jf Z n E) {k m:Nat} {cl:CS} (EO:az env c) (R:aN n A):∀{sts:List Stmt} {css:List CS},bG (cy Z.fname m c k) sts (css++[cl])=true→∀{s:Nx} {ρ ρ':Loc} {σ σ':ag} {CA:List Addr} {D:Addr→Prop},St Z env c.vars ρ CA σ D s.heap→aH E css ρ σ=some (.next,ρ',σ')→
  ∀{Q:Flow→Nx→Prop} {X:Nv→Nx→Prop},(∀st,cy Z.fname m c k st cl=true→∀h' tk CA' D',St Z env c.vars ρ' CA' σ' D' h'→NH (model Z.prog Z.w) A (execs [st] env) Q X {s with heap:=h',toks:=tk})→NH (model Z.prog Z.w) A (execs sts env) Q X s:=by
 intro sts css
 induction css generalizing sts with
 |nil=>
  intro hc s ρ ρ' σ σ' CA D S ev Q X h
  refine Np fun nG=> ?_
  obtain ⟨st,rfl,h1⟩:=FY hc
  cases Nq ev
  refine nG ?_
  exact h st h1 s.heap s.toks CA D S
 |cons cs css ih=>
  intro hc s ρ ρ' σ σ' CA D S ev Q X h
  cases sts with
  |nil=>cases hc
  |cons st sts=>
  have hc:=ac (show (cy Z.fname m c k st cs&&bG (cy Z.fname m c k) sts (css++[cl]))=true from hc)
  refine af ev fun r1 e1 ev=> ?_
  refine Np fun nG=> ?_
  obtain ⟨o1,ρ1,σ1⟩:=r1
  refine nG ?_
  cases o1 with
  |next=>
   refine Ov (SS k m c st cs hc.1 env A s ρ σ CA D _ EO S R e1 rfl _ _ fun f h1 t1 CA1 D1 a1=> ?_)
   have hf:f= .next:=a1.flow
   subst hf
   exact ih hc.2 (s:={s with heap:=h1,toks:=t1}) a1.st ev h
  |_=>cases Nq ev
end
section
variable {n:Nat} {K:Frag} {prog p:Ob} {w:Pz} {h:Heap} {loose:List Str} {mg mb:Str→Nr Nv}
theorem E9 (O:(gW prog w K h).Ok p loose mg mb) (G:Gi K) (gc:DR K=true) (gk:Lm K=true) (S:∀n,LS (gW prog w K h) n (run qU n)) {u:V} {b:Bool} (hx:b=true→∃r,aH (Internal.run qU n) aU.body (gA aU [.v u]) []=some r∧r.1= .exc)
  (ho:b=false→(Internal.run qU (n+2)).s (.expr (.callF 32 [.var 0])) (gA dO [.v u]) []=some (.next,gA dO [.v u],[])):yn (gW prog w K h) (n+3) ((gW prog w K h).fa 43) [.v u] b:=by
 refine Np fun nG=> ?_
 obtain ⟨fo,fd,body,ps,c,k,m,F⟩:=ki (prog:=prog) (w:=w) (h:=h) gk 43 dO rfl
 obtain ⟨fo1,fd1,body1,ps1,c1,k1,m1,F1⟩:=ki (prog:=prog) (w:=w) (h:=h) gk 32 iL rfl
 obtain ⟨fo2,fd2,body2,ps2,c2,k2,m2,F2⟩:=ki (prog:=prog) (w:=w) (h:=h) gk 11 aU rfl
 refine nG ?_
 cases b with
 |true=>
  refine Np fun nG=> ?_
  obtain ⟨r,e,ho⟩:=hx rfl
  refine nG ?_
  refine DG O G (S (n+2)).e F rfl (NI 1) (NI 1) (i:=32) (us:=[.v u]) rfl (Mo O (S (n+1)).e F1 rfl (NZ 1) (NI 2) (i:=11) (us:=[.v u]) rfl fun A B outer s D vs R Gs rs C RR hR=> ?_)
  exact Lz (args:=[.v u]) O (S n).s (Bo O G S n) F2 (DQ gc F2) (NI 1) (NI 1) e ho R Gs rs C hR
 |false=>exact EP O (S (n+2)).s F rfl (NI 1) (NI 1) (ho rfl) rfl
end
noncomputable abbrev yf:=Un
noncomputable abbrev Ls:=UE
noncomputable abbrev EX:=Uo Up
noncomputable def Mj (p:Ob) (w:Pz) (n₀:Nat) (ann:Nr Nv) (n:Nat):Qj→Thread→Nr Qj:=
 @Nat.rec (fun _=>Qj→Thread→Nr Qj) (fun _ _=>none) (fun _ ih s t=> @Bool.rec (fun _=>Nr Qj) (@Bool.rec (fun _=>Nr Qj) none (@Option.rec (Qj×Thread) (fun _=>Nr Qj) none (fun r=>ih r.1 r.2) (yf EX p w s t)) (Ls n₀ ann t)) (some s) (through t)) n
theorem HV {p:Ob} {w:Pz} {n₀:Nat} {ann:Nr Nv}:∀{n:Nat} {s s':Qj} {t:Thread},Mj p w n₀ ann n s t=some s'→topRun treeTable p w n₀ ann n s.abs t=some s'.abs:=by
 intro n
 induction n with
 |zero=>intro s s' t h;cases h
 |succ n ih=>
  intro s s' t h
  change @Bool.rec (fun _=>Nr Qj) (@Bool.rec (fun _=>Nr Qj) none (@Option.rec (Qj×Thread) (fun _=>Nr Qj) none (fun r=>Mj p w n₀ ann n r.1 r.2) (yf EX p w s t)) (Ls n₀ ann t)) (some s) (through t)=some s' at h
  have e1:yf EX p w s t=stepT (denote treeTable) p w s t:=by
   unfold yf EX
   rw [←Uq,←Ur,←Ut]
  have e2:Ls n₀ ann t=stepOk n₀ ann t:=by
   unfold Ls
   rw [←UF]
  rw [e1,e2] at h
  unfold topRun
  cases ht:through t with
  |true=>rw [ht] at h;cases Nq h;rfl
  |false=>
   rw [ht] at h
   cases hk:stepOk n₀ ann t with
   |false=>rw [hk] at h;cases h
   |true=>
    rw [hk] at h
    cases hs:stepT (denote treeTable) p w s t with
    |none=>rw [hs] at h;cases h
    |some r=>
     obtain ⟨s₂,t₂⟩:=r
     rw [hs] at h
     show (match PySem.step (denote treeTable) p w s.abs t with| .go s' t'=>topRun treeTable p w n₀ ann n s' t'| .halt _ _=>none)=_
     rw [stepT_spec hs]
     exact ih h
noncomputable def BI (r:BT×Nat) (o:Obj):BT×Nat:=(r.1.ins r.2 o,r.2+1)
noncomputable def mE (l:List Obj):BT×Nat:=l.foldl BI (.nil,0)
theorem AQ {t:BT} {o:Obj}:∀{n:Nat},(∀i,i <n→(t.get i).isSome=true)→((t.ins n o).get n).isSome=true:=by
 induction t with
 |nil=>
  intro n h
  cases n with
  |zero=>rfl
  |succ n=>exact absurd (h 0 (Nat.zero_lt_succ _)) (by intro z;cases z)
 |node v l r ihl ihr=>
  intro n h
  rw [BT.ins_node]
  by_cases h0:n=0
  ·rw [NP h0,Sr,NP h0];rfl
  ·rw [N4 h0]
   by_cases h1:n%2=1
   ·rw [NP h1,Sr,N4 h0,NP h1]
    refine ihl fun i hi=> ?_
    have:=h (2*i+1) (by omega)
    rw [Sr,N4 (by omega),NP (by omega),show (2*i+1)/2=i by omega] at this
    exact this
   ·rw [N4 h1,Sr,N4 h0,N4 h1]
    refine ihr fun i hi=> ?_
    have:=h (2*i+2) (by omega)
    rw [Sr,N4 (by omega),N4 (by omega),show (2*i+2)/2 -1=i by omega] at this
    exact this
structure wG (r:BT×Nat) (l:List Obj):Prop where
 n:r.2=l.length
 at_:∀i,i <l.length→r.1.get i=l[i]?
theorem w0:∀(l k:List Obj) (r:BT×Nat),wG r k→wG (l.foldl BI r) (k++l):=by
 intro l
 induction l with
 |nil=>intro k r h;rw [NQ];exact h
 |cons o l ih=>
  intro k r h
  rw [show k++o::l=(k++[o])++l by rw [NR];rfl]
  refine ih (k++[o]) (BI r o) ⟨by show r.2+1=_;rw [h.n,Nu];rfl,fun i hi=> ?_⟩
  show (r.1.ins r.2 o).get i=_
  rw [BT.get_ins o r.1 r.2 (AQ fun j hj=>by rw [h.at_ j (h.n▸hj),NB (h.n▸hj)];rfl)]
  rw [Nu] at hi
  by_cases e:i=r.2
  ·subst e;rw [NP rfl,h.n];exact RX.symm
  ·have hl:i <k.length:=by have:=h.n;simp at hi;omega
   rw [N4 e,h.at_ i hl,OE hl]
theorem CU (l:List Obj) (life:Life):absHeap (mE l).1 (mE l).2 life=⟨l.toArray,life⟩:=by
 have h:wG (mE l) l:=w0 l [] (.nil,0) ⟨rfl,fun i hi=>absurd hi (PS _)⟩
 unfold absHeap BT.list
 congr 2
 refine List.ext_getElem (by rw [Nw,PP,h.n]) fun i h1 h2=> ?_
 rw [List.getElem_map,Se,h.at_ i h2,NB h2]
 rfl
noncomputable def Cj (w:Pz) (os:TZ):Qj:=⟨(mE (boot_heap w.params).objs.toList).1,(mE (boot_heap w.params).objs.toList).2,(boot_heap w.params).life,Array.mk [],boot_drawn,boot_toks,os⟩
theorem zy (w:Pz) (os:TZ):(Cj w os).abs=⟨boot_heap w.params,Array.mk [],boot_drawn,boot_toks,os⟩:=by
 unfold Cj SharedT.abs
 rw [CU]
noncomputable abbrev pw:Ob:=VD
noncomputable def qv:Ob:=view pw [72]
noncomputable def kL (w:Pz) (os:TZ):Nr Qj:=Mj pw w 11 (some (.ref 6)) 6000 (Cj w os) (topStub pw)
noncomputable def tl (h:Heap) (as:List Nat):Frag:=as.filterMap fun a=>(h.get? a).map fun o=>(a,o)
noncomputable def HX:List Nat:=[2,3,29,35,36,45,46,58,59,93,94,100,101,107,108,114,115,121,122,135,136,149,150,159,160,177,178,184,185,194,195,205,211,212,218,219,225,226,228,229,239,245,246,252,253,259,260,269,270,280,286,287,291,292,322,323,340,341,347,348,350,351,359,360,366,367,373,374,380,381,387,388,394,395,401,402,408,409,415,416,420,421,427,428,434,435,441,442,446,447,453,454,460,461,465,466,470,471,475,476,482,483,489,490,496,497,503,504,510,511,517,518,524,525,531,532,538,539,540,541,547,548,561,562,599,600,610,611,617,618,624,625,631,632,638,639,645,646,652,653,659,660,664,665,671,672,676,677]
noncomputable def k6 (h:Heap):Frag:=tl h HX
end
section
open PySem PySem.W PyProof.Rows
theorem H9:∀w:Pz,((boot_heap w.params).isNs Og&&(Array.mk []:Qe GenState).size==0,(boot_heap w.params).objs.size,(boot_heap w.params).nsMap Og "__annotations__")=(true,11,some (.ref 6)):=by intro w;kernel_rfl
theorem Hf:∀w:Pz,(fun os=>(kL w os).map fun s=>laidKept (boot_heap w.params) s.abs.heap&&gensDone s.abs)=fun _=>some true:=by intro w;kernel_rfl
theorem xK:∀w:Pz,(fun os=>(kL w os).map fun s=>namesBound pw s.abs.heap)=fun _=>some true:=by intro w;kernel_rfl
theorem Ii:∀w:Pz,(fun os=>(kL w os).map fun s=>staticsOk (importedModules pw.main.body) (boot_heap w.params) s.abs.heap)=fun _=>some true:=by intro w;kernel_rfl
theorem II:∀w:Pz,(fun os=>(kL w os).map fun s=>UG qv pw.boundNames (importedModules pw.main.body) (fun _=>true) true s.abs)=fun _=>some (openGood qv pw.boundNames):=by intro w;kernel_rfl
theorem KB:∀w:Pz,(fun os=>(kL w os).map fun s=>((k6 s.abs.heap).lookup 677).isSome&&J8 (k6 s.abs.heap))=fun _=>some true:=by intro w;kernel_rfl
theorem Ix:∀w:Pz,(fun os=>(kL w os).map fun s=>GV (k6 s.abs.heap))=fun _=>some true:=by intro w;kernel_rfl
theorem I7:∀w:Pz,(fun os=>(kL w os).map fun s=>Cp (k6 s.abs.heap))=fun _=>some true:=by intro w;kernel_rfl
theorem Kb:∀w:Pz,(fun os=>(kL w os).map fun s=>JO (k6 s.abs.heap))=fun _=>some true:=by intro w;kernel_rfl
theorem KR:∀w:Pz,(fun os=>(kL w os).map fun s=>Ip (k6 s.abs.heap)&&DR (k6 s.abs.heap))=fun _=>some true:=by intro w;kernel_rfl
theorem Li:∀w:Pz,(fun os=>(kL w os).map fun s=>D8 (k6 s.abs.heap)&&xJ (k6 s.abs.heap))=fun _=>some true:=by intro w;kernel_rfl
end
section
open PySem PySem.W PyProof.Rows
set_option tactic.hygienic false
theorem z0 {h:Heap}:∀{as:List Nat},(tl h as).In h:=by
 intro as
 induction as with
 |nil=>intro b o e;cases e
 |cons a as ih=>
  intro b o e
  unfold tl at e
  rw [QL] at e
  cases hq:h.get? a with
  |none=>rw [hq] at e;exact ih b o e
  |some o'=>
   rw [hq] at e
   change List.lookup b ((a,o')::tl h as)=some o at e
   rw [Pb] at e
   cases hb:b==a with
   |true=>rw [hb] at e;cases Nq e;rw [NE hb];exact hq
   |false=>rw [hb] at e;exact ih b o e
noncomputable def Md (K:Frag):Bool:=(Lm K&&(D8 K&&xJ K))&&(Ip K&&DR K)
noncomputable def Xt (s:Nx):Bool:=Md (k6 s.heap)
noncomputable def XP (_:Str→Nr Nv) (h:Heap):Prop:=∃K:Frag,K.In h∧Md K=true
theorem B9 (mg:Str→Nr Nv) (h h':Heap) (x:XP mg h) (k:∀b o,h.get? b=some o→h'.get? b=some o):XP mg h':=let ⟨K,i,g⟩:=x;⟨K,i.keeps k,g⟩
theorem EC {q:Ob} {loose mods:List Str} {s:Nx} {X:Nx→Bool} (h:X s=true):openSeen q loose mods X true s=openSeen q loose mods (fun _=>true) true s:=by
 unfold openSeen
 rw [h]
theorem CW {p q:Ob} {loose:List Str} {X:Nx→Bool} {H₀:Params→Heap} {gs₀:Qe GenState} {d₀:Drawn} {k₀ m₀:Nat} {ann:Nr Nv} {N:Nat}
  (open_:∀w:Pz,(fencedOpening treeTable p w N).map (fun s=>(s.heap,s.gens,s.drawn,s.toks))=some (H₀ w.params,gs₀,d₀,k₀))
  (size:∀w:Pz,((H₀ w.params).isNs Og&&gs₀.size==0,(H₀ w.params).objs.size,(H₀ w.params).nsMap Og "__annotations__")=(true,m₀,ann))
  (run:∀(w:Pz) (os:TZ),∃s,topRun treeTable p w m₀ ann N ⟨H₀ w.params,gs₀,d₀,k₀,os⟩ (topStub p)=some s∧(staticsOk (importedModules p.main.body) (H₀ w.params) s.heap&&namesBound p s.heap&&gensDone s&&laidKept (H₀ w.params) s.heap)=true∧
   openSeen q loose (importedModules p.main.body) X true s=openGood q loose):LeftO p q loose X (fun _=>()) (fun _=>()) N:=fun w=>by
 refine Np fun nG=> ?_
 obtain ⟨⟨h,gs,d,k,os⟩,e,e'⟩:=Ra.mp (open_ w)
 obtain ⟨rfl,rfl,rfl,rfl⟩:h=H₀ w.params∧gs=gs₀∧d=d₀∧k=k₀:=by simpa using e'
 obtain ⟨z1,z2,z3⟩:_∧_∧_:=by simpa only [Prod.mk.injEq] using size w
 obtain ⟨s,r,l1,l2⟩:=run w os
 refine nG ?_
 have t:topFrom treeTable p w N ⟨H₀ w.params,gs,d,k,os⟩=some s:=by
  unfold topFrom
  dsimp only
  rw [z1,z2,z3,r]
  show (match staticsOk (importedModules p.main.body) (H₀ w.params) s.heap&&namesBound p s.heap&&gensDone s&&laidKept (H₀ w.params) s.heap with|true=>_|false=>_)=_
  rw [l1]
 unfold openEnds
 rw [e]
 show (topFrom treeTable p w N _).map _=_
 rw [t]
 exact NC some (Prod.ext l2 rfl)
theorem iW {α:Type} {w:Pz} {os:TZ} {f:Qj→α} {v:α} {s:Qj} (he:kL w os=some s) (h:(fun os=>(kL w os).map f)=fun _=>some v):f s=v:=by
 have e:(kL w os).map f=some v:=congrFun h os
 rw [he] at e
 exact Nq e
end
section
open PySem PySem.W PyProof.Rows
theorem Ck:LeftO pw qv pw.boundNames Xt (fun _=>()) (fun _=>()) 6000:=by
 refine CW (boot_open (by rfl) (by decide) (fun s=>by rfl)) H9 fun w os=> ?_
 have h0:∃s,kL w os=some s:=by
  have h:(kL w os).map _=some true:=congrFun (xK w) os
  cases he:kL w os with
  |none=>rw [he] at h;cases h
  |some s=>exact ⟨s,rfl⟩
 obtain ⟨s,he⟩:=h0
 have k:=iW he (Hf w)
 have n:=iW he (xK w)
 have st:=iW he (Ii w)
 have sn:=iW he (II w)
 have f1:=iW he (KB w)
 have f2:=iW he (Ix w)
 have f3:=iW he (I7 w)
 have f4:=iW he (Kb w)
 have f5:=iW he (Li w)
 have f6:=iW he (KR w)
 have r:=HV he
 rw [zy] at r
 have xt:Xt s.abs=true:=by
  have a:=ac f1
  show ((((_&&(_&&(_&&(_&&_))))&&_)&&_):Bool)=true
  rw [a.1,a.2,f2,f3,f4]
  exact Nz.mpr ⟨f5,f6⟩
 refine ⟨s.abs,r,?_,?_⟩
 ·have a:=ac k
  show (((staticsOk _ _ _&&namesBound _ _)&&gensDone _)&&laidKept _ _)=true
  rw [st,n,a.1,a.2];rfl
 ·rw [EC xt,UH]
  exact sn
theorem C8:(defOf qv (NK "law")).isSome=true:=by kernel_rfl
noncomputable def qe:DefRec×List (Str×Expr):=(defOf qv (NK "law")).get C8
theorem Ky:defOf qv (NK "law")=some (qe.1,qe.2):=(Option.some_get C8).symm
theorem IQ:qe.1.name=NK "law":=by kernel_rfl
theorem Ka:pw.theDef (NK "law")=some (qe.1.params,qe.1.body,qe.1.scope):=by kernel_rfl
theorem JL:kwWritten? qe.1.params.kwonlyargs qe.1.params.kw_defaults=some qe.2:=by kernel_rfl
abbrev row:=PySem.Challenge.rw_qd0111_01.row
theorem IR:(chainsOk qv&&opensWell row.prog&&(frees row.toRowW&&row.within.isEmpty))=true:=by kernel_rfl
theorem BV:row.wellSaid=true:=by decide+kernel
theorem Dr:PySem.Challenge.rw_qd0111_01.wellSaid=true:=by decide+kernel
theorem Dw:row.toRowW.promised:=by w_witness2
theorem LU (Ht:WalkO qv pw.boundNames XP (fun _ _=>True) row.toRowW qe.1 qe.2 fun f vs=>V3 f vs):PySem.Challenge.rw_qd0111_01.Holds:=
 ⟨Dr,holds_open (r:=row) (q:=qv) (loose:=pw.boundNames) (Xt:=Xt) (XP:=XP) (Yf:=fun _=>()) (Ya:=fun _=>()) (YP:=fun _ _=>True) (N:=6000) Ck (fun _ _ _=>trivial) (fun _ _ _ _ _=>trivial) (fun s h=>⟨_,z0,h⟩) B9 Ky Ka JL
  (fun s _=>recFacts_of (by rfl)) (by rfl) BV IR ⟨rfl,rfl,rfl,rfl,rfl,by decide+kernel⟩ Dw Ht⟩
end
section
structure wq (n:Nat) (ns:List Int) (ρ:Loc) (σ:ag) (u:V) (b:Bool):Prop where
 run:aH (run aj (n+3)) vQ (gA v6 [.v (.lst (ns.map .int))]) []=some (.next,ρ,σ)
 odd:kO (Internal.run aj (n+3)) [.var 15] ρ σ=some ([.v u],σ)
 rhs:(Internal.run aj (n+3)).e tS ρ σ=some (.v (.bool b),σ)
 exc:b=true→∃r,aH (Internal.run aj n) aU.body (gA aU [.v u]) []=some r∧r.1= .exc
 ok:b=false→(Internal.run aj (n+2)).s (.expr (.callF 32 [.var 0])) (gA dO [.v u]) []=some (.next,gA dO [.v u],[])
end
section
open PySem
set_option tactic.hygienic false
set_option genCtorIdx true in
inductive Nm|jmp|call|jrcxz|loop|loope|loopne|je|jne|jae|jb
noncomputable def Nm.s:Nm→Sg
 | .jmp=>[106,109,112]| .call=>[99,97,108,108]| .jrcxz=>[106,114,99,120,122]| .loop=>[108,111,111,112]| .loope=>[108,111,111,112,101]| .loopne=>[108,111,111,112,110,101]
 | .je=>[106,101]| .jne=>[106,110,101]| .jae=>[106,97,101]| .jb=>[106,98]
set_option genCtorIdx true in
inductive cq
 |jump (n:Nm) (t:Sg)
 |ret
 |mov (w:Bool) (i:Int) (y:Sg)
structure ah where
 labs:List Sg
 ins:Nr cq
noncomputable def v4 (w:Bool):V:=match w with
 |true=> .inst .register [.str [114,97,120],.str [103,112,114],.int 0,.int 64]
 |false=> .inst .register [.str [101,97,120],.str [103,112,114],.int 0,.int 32]
noncomputable def aP:cq→V
 | .jump n t=> .inst .ins [.str n.s,.tup [.inst .rel [.str [114,101,108],.int 0,.str t]],.str []]
 | .ret=> .inst .ins [.str [114,101,116],.tup [],.str []]
 | .mov q i y=> .inst .ins [.str [109,111,118],.tup [.inst .reg [.str [114,101,103],v4 q],.inst .imm [.str [105,109,109],.int i,.str y]],.str []]
noncomputable def aS:Nr cq→V
 |none=> .none
 |some i=>aP i
noncomputable def ay (l:ah):V:= .inst .line [.tup (l.labs.map .str),aS l.ins]
noncomputable def cq.tgt:cq→Sg
 | .jump _ t=>t
 |_=>[]
noncomputable def bg:Nr cq→Sg
 |some i=>i.tgt
 |none=>[]
abbrev oo (k f:Nat) (args:List V) (u:V):Prop:=∀n,(run aj (n+k)).c f (args.map aA.v) []=some (.ok (.v u),[])
theorem iB (o:Nr cq):oo 12 5 [aS o] (.str (bg o)):=fun n=>by
 cases o with
 |none=>kernel_rfl
 |some i=>cases i<;>kernel_rfl
set_option genCtorIdx true in
inductive Cc|e|ne|ae|b
noncomputable def Cc.s:Cc→Sg
 | .e=>[101]| .ne=>[110,101]| .ae=>[97,101]| .b=>[98]
noncomputable def Nm.cc:Nm→Nr Cc
 | .je=>some .e| .jne=>some .ne| .jae=>some .ae| .jb=>some .b|_=>none
noncomputable def ku:Nr Cc→Sg
 |none=>[]
 |some c=>c.s
noncomputable def eG:Nr cq→Nr Cc
 |some (.jump n _)=>n.cc
 |_=>none
theorem qj (o:Nr cq):oo 20 6 [aS o] (.str (ku (eG o))):=fun n=>by
 cases o with
 |none=>kernel_rfl
 |some i=>cases i with
  |jump m t=>cases m<;>kernel_rfl
  |ret=>kernel_rfl
  |mov=>kernel_rfl
noncomputable def Cc.opp:Cc→Cc
 | .e=> .ne| .ne=> .e| .ae=> .b| .b=> .ae
theorem GJ (c:Cc):oo 30 2 [.str c.s] (.str c.opp.s):=fun n=>by cases c<;>kernel_rfl
noncomputable def jN (a b:Nr Cc):Int:=match a,b with
 |some a,some b=>if a.s=b.s then 1 else if a.s=b.opp.s then 0 else -1
 |_,_=> -1
theorem Gh (a b:Nr Cc):oo 45 14 [.str (ku a),.str (ku b)] (.int (jN a b)):=fun n=>by
 cases a with
 |none=>cases b with
  |none=>kernel_rfl
  |some b=>cases b<;>kernel_rfl
 |some a=>cases b with
  |none=>cases a<;>kernel_rfl
  |some b=>cases a<;>cases b<;>kernel_rfl
noncomputable def oE (o:Nr cq):Bool:=match o with
 |some (.jump .jmp t)=> !decide (t=[])
 |_=>false
theorem x6 (o:Nr cq):oo 25 7 [aS o] (.bool (oE o)):=fun n=>by
 cases o with
 |none=>kernel_rfl
 |some i=>cases i with
  |jump m t=>cases t<;>cases m<;>kernel_rfl
  |ret=>kernel_rfl
  |mov=>kernel_rfl
noncomputable def fU (i:cq):Bool:=match i with
 | .jump m _=>match m with| .jmp=>false|_=>true
 | .ret=>false
 | .mov _ _ _=>true
theorem tz (i:cq):oo 30 9 [aP i] (.bool (fU i)):=fun n=>by
 cases i with
 |jump m t=>cases m<;>kernel_rfl
 |ret=>kernel_rfl
 |mov=>kernel_rfl
theorem bV {n f:Nat} {fn:Fn} {args:List aA} {ρ:Loc} {σ σ2:ag} {W:aA} {r:Ah×ag} (ht:aj.tab f=some fn) (hn:(decide (args.length≤fn.np)&&decide (fn.np≤args.length+fn.dflts.length))=true)
  (hb:aH (run aj n) fn.body (gA fn args) σ=some (.ret W,ρ,σ2)) (hr:back σ.length W σ2=some r):(run aj (n+1)).c f args σ=some r:=by
 show (aj.tab f).bind _=_
 rw [ht]
 show (if _ then _ else _)=_
 rw [NP hn,hb]
 exact hr
theorem dW {n:Nat} {e:CE} {cs:List CS} {ρ:Loc} {σ σ2:ag} {U:aA} (h:(run aj n).e e ρ σ=some (U,σ2)):aH (run aj (n+1)) (.ret e::cs) ρ σ=some (.ret U,ρ,σ2):=by
 show (((run aj n).e e ρ σ).bind _).bind _=_
 rw [h];rfl
theorem jE {α:Type} {f:V→ag→Nr (List V×ag)} {enc:α→V} {g:α→List V} {σ:ag} {xs:List α} (h:∀x∈xs,f (enc x) σ=some (g x,σ)):jv f (xs.map enc) σ=some (xs.flatMap g,σ):=by
 induction xs with
 |nil=>rfl
 |cons x xs ih=>
  show (f (enc x) σ).bind _=_
  rw [h x (.head _)]
  show (jv f (xs.map enc) σ).bind _=_
  rw [ih fun y m=>h y (.tail _ m)];rfl
theorem eV {n:Nat} (h:n≤16777216):cX n=true:=NF h
theorem g9 {n:Nat} {α:Type} {elt:CE} {t:kT} {it:It} {ifs:List CE} {gs:List CG} {ρ:Loc} {σ:ag} {xs:List α} {enc:α→V} {g:α→List V} (hi:dN (run aj n) it ρ σ=some (xs.map enc,σ))
  (ht:∀x∈xs,ji (run aj n) t ifs (dZ (run aj n) elt gs) (qS (GQ t++DB gs) ρ) (enc x) σ=some (g x,σ)) (hz:(xs.flatMap g).length≤16777216):(run aj (n+1)).e (.comp elt (.mk t it ifs::gs)) ρ σ=some (.own (.lst (xs.flatMap g)),σ):=by
 show (dZ (run aj n) elt (.mk t it ifs::gs) ρ σ).bind _=_
 have:dZ (run aj n) elt (.mk t it ifs::gs) ρ σ=some (xs.flatMap g,σ):=by
  show (dN (run aj n) it ρ σ).bind _=_
  rw [hi]
  exact jE ht
 rw [this]
 show (if _ then _ else _)=_
 rw [NP (eV hz)]
noncomputable def oz:cq→V
 | .jump n t=> .tup [.str n.s,.str [],.tup [.tup [.str [114,101,108],.int 0,.str t]]]
 | .ret=> .tup [.str [114,101,116],.str [],.tup []]
 | .mov w i y=> .tup [.str [109,111,118],.str [],.tup [.tup [.str [114,101,103],.str (match w with|true=>[114,97,120]|false=>[101,97,120])],.tup [.str [105,109,109],.int i,.str y]]]
noncomputable def jY:Nr cq→V
 |none=> .tup []
 |some i=>oz i
noncomputable def bT (l:ah):V:= .tup [.tup (l.labs.map .str),jY l.ins]
abbrev mH (k f:Nat) (args:List V) (u:V):Prop:=∀n,(run aj (n+k)).c f (args.map aA.v) []=some (.ok (.own u),[])
noncomputable def lst (L:List ah):V:= .lst (L.map ay)
theorem gi {α β:Type} {f:α→β}:∀{xs:List α},xs.flatMap (fun x=>[f x])=xs.map f
 |[]=>rfl
 |x::xs=>NC (f x:: ·) (gi (xs:=xs))
theorem wY {L:List ah} (hz:L.length≤16777216):mH 40 33 [lst L] (.lst (L.map bT)):=fun n=>by
 have h:=g9 (n:=n+37) (elt:= .callM (.var 1) .told) (t:= .one 1) (it:= .seq (.var 0)) (ifs:=[]) (gs:=[]) (ρ:=[some (.v (lst L)),none]) (σ:=[]) (xs:=L) (enc:=ay) (g:=fun l=>[bT l]) (by kernel_rfl)
  (fun l _=>by
   obtain ⟨labs,o⟩:=l
   cases o with
   |none=>kernel_rfl
   |some i=>cases i with
    |jump m t=>kernel_rfl
    |ret=>kernel_rfl
    |mov w i y=>cases w<;>kernel_rfl) (by rw [gi,Nw];exact hz)
 rw [gi] at h
 exact bV (n:=n+39) (fn:=k8) rfl rfl (dW h) rfl
theorem av {n:Nat} {c:CS} {cs:List CS} {ρ ρ':Loc} {σ σ':ag} {r:fc×Loc×ag} (h:(run aj n).s c ρ σ=some (.next,ρ',σ')) (k:aH (run aj n) cs ρ' σ'=some r):aH (run aj n) (c::cs) ρ σ=some r:=by
 show ((run aj n).s c ρ σ).bind _=_
 rw [h];exact k
theorem ke {n:Nat} {e a:CE} {ρ:Loc} {σ σ1 σ2:ag} {k:Nat} {us ws:List V} {u:V} (h1:(run aj n).e e ρ σ=some (.cell k,σ1)) (h2:σ1[k]? =some (.lst ws)) (h3:eO (run aj n) a ρ σ1=some (u,σ2)) (h4:σ2[k]? =some (.lst us)) (hz:us.length+1≤16777216):
  (run aj (n+2)).s (.expr (.callS .append e [a])) ρ σ=some (.next,ρ,σ2.set k (.lst (us++[u]))):=by
 have:ky (run aj n) e [a] ρ σ=some (.v .none,σ2.set k (.lst (us++[u]))):=by
  show ((run aj n).e e ρ σ).bind _=_
  rw [h1]
  show ((σ1[k]?).bind V.lst?).bind _=_
  rw [h2]
  show (eO (run aj n) a ρ σ1).bind _=_
  rw [h3]
  show ((σ2[k]?).bind V.lst?).bind _=_
  rw [h4]
  show (if _ then _ else _)=_
  rw [NP (eV hz)]
 show (ky (run aj n) e [a] ρ σ).bind _=_
 rw [this];rfl
theorem Ek {α:Type} {body:V→Loc→ag→tB} {enc:α→V} {P:List α→Loc→ag→Prop} (h:∀x xs ρ σ,P (x::xs) ρ σ→∃ρ' σ',body (enc x) ρ σ=some (.next,ρ',σ')∧P xs ρ' σ'):∀{xs:List α} {ρ:Loc} {σ:ag},P xs ρ σ→∃ρ' σ',fm body (xs.map enc) ρ σ=some (.next,ρ',σ')∧P [] ρ' σ':=by
 intro xs
 induction xs with
 |nil=>exact fun p=>⟨_,_,rfl,p⟩
 |cons x xs ih=>
  intro ρ σ p
  refine Np fun nG=> ?_
  obtain ⟨ρ1,σ1,e,p1⟩:=h x xs ρ σ p
  obtain ⟨ρ2,σ2,e2,p2⟩:=ih p1
  refine nG ?_
  refine ⟨ρ2,σ2,?_,p2⟩
  show (body (enc x) ρ σ).bind _=_
  rw [e];exact e2
theorem f8 {n:Nat} {t:kT} {it:It} {body:List CS} {ρ ρ':Loc} {σ σ1 σ':ag} {us:List V} {o:fc} (hi:dN (run aj n) it ρ σ=some (us,σ1)) (h:fm (fun x ρ σ=>(gT t x ρ).bind fun ρ=>aH (run aj n) body ρ σ) us ρ σ1=some (o,ρ',σ')):(run aj (n+1)).s (.for_ t it body) ρ σ=some (o,ρ',σ'):=by
 show (dN (run aj n) it ρ σ).bind _=_
 rw [hi];exact h
noncomputable def Hu:cq→List Sg
 | .mov _ _ y=>match y with
  |[]=>[]
  |c::y=>[c::y]
 | .jump _ _=>[]
 | .ret=>[]
noncomputable def B0 (o:Nr cq):List Sg:=match o with
 |some i=>Hu i
 |none=>[]
noncomputable def named (L:List ah):List Sg:=L.dropLast.flatMap fun l=>B0 l.ins
theorem vG {us:List V}:i9 (.lst us) none (some (.int (-1)))=some (.lst us.dropLast):=by
 show (((.int (-1):V).int?.map fun (i:Int)=>if 0≤i then min i.toNat us.length else (i+(us.length:Int)).toNat).map fun b=>V.lst ((us.take b).drop 0))=_
 have:((-1:Int)+(us.length:Int)).toNat=us.length -1:=by omega
 show some (V.lst ((us.take (if (0:Int)≤-1 then _ else _)).drop 0))=_
 rw [N4 (by decide),this,Rh,Rq]
theorem x7 {n:Nat} {L:List ah} {ρ:Loc} {σ:ag} {i:Nat} (h:ρ[i]? =some (some (.v (lst L)))):dN (run aj (n+3)) (.seq (.slc (.var i) none (some (.neg 1)))) ρ σ=some (L.dropLast.map ay,σ):=by
 have hv:(run aj (n+1)).e (.var i) ρ σ=some (.v (lst L),σ):=by
  show (ρ[i]?.join.map _)=_
  rw [h];rfl
 have:(run aj (n+3)).e (.slc (.var i) none (some (.neg 1))) ρ σ=some (.v (.lst (L.dropLast.map ay)),σ):=by
  show (eO (run aj (n+2)) (.var i) ρ σ).bind _=_
  have h1:eO (run aj (n+2)) (.var i) ρ σ=some (lst L,σ):=by
   show ((ρ[i]?.join.map _).bind _)=_
   rw [h];rfl
  rw [h1]
  show (i9 (lst L) none (some (V.int (-1)))).map (fun v=>(aA.v v,σ))=_
  rw [lst,vG,Ss];rfl
 show (eO (run aj (n+3)) _ ρ σ).bind _=_
 have h2:eO (run aj (n+3)) (.slc (.var i) none (some (.neg 1))) ρ σ=some (.lst (L.dropLast.map ay),σ):=by
  show ((run aj (n+3)).e _ ρ σ).bind _=_
  rw [this];rfl
 rw [h2];rfl
theorem FB {n:Nat} {c:CE} {a b:List CS} {ρ:Loc} {σ:ag} {r:fc×Loc×ag} (h:cv (run aj n) c ρ σ=some (true,σ)) (k:aH (run aj n) a ρ σ=some r):(run aj (n+1)).s (.ite c a b) ρ σ=some r:=by
 show (cv (run aj n) c ρ σ).bind _=_
 rw [h];exact k
theorem bk {n:Nat} {c:CS} {ρ ρ':Loc} {σ σ':ag} (h:(run aj n).s c ρ σ=some (.next,ρ',σ')):aH (run aj n) [c] ρ σ=some (.next,ρ',σ'):=av h rfl
theorem DN {body:V→Loc→ag→tB} {a b:V} {ρ ρ1:Loc} {σ σ1:ag} {r:fc×Loc×ag} (h1:body a ρ σ=some (.next,ρ1,σ1)) (h2:fm body [b] ρ1 σ1=some r):fm body [a,b] ρ σ=some r:=by
 show (body a ρ σ).bind _=_
 rw [h1];exact h2
theorem Ep {body:V→Loc→ag→tB} {b:V} {ρ ρ1:Loc} {σ σ1:ag} (h1:body b ρ σ=some (.next,ρ1,σ1)):fm body [b] ρ σ=some (.next,ρ1,σ1):=by
 show (body b ρ σ).bind _=_
 rw [h1];rfl
structure xH (L:List ah) (rest:List ah) (ρ:Loc) (σ:ag) (acc:List Sg) (x y:Nr aA):Prop where
 loc:ρ=[some (.v (lst L)),some (.cell 0),x,y]
 sto:σ=[.lst (acc.map .str)]
 eq:acc++rest.flatMap (fun l=>B0 l.ins)=named L
 some_:∀l∈rest,∃i,l.ins=some i
noncomputable def xf:List CS:=[.for_ (.one 3) (.seq (.attr (.attr (.var 2) .instruction) .operands))
   [.ite (.and [(.cmp (.attr (.var 3) .kind) .ne (.cst (.str [114,101,108]))),(.cmp (.callM (.var 3) .symbol) .ne (.cst (.str [])))])
    [.expr (.callS .append (.var 1) [(.callM (.var 3) .symbol)])]
    []]]
theorem vT {n:Nat} {L:List ah} (hz:(named L).length≤16777216) (l:ah) (rest:List ah) (ρ:Loc) (σ:ag) (p:∃acc x y,xH L (l::rest) ρ σ acc x y):
  ∃ρ' σ',((gT (.one 2) (ay l) ρ).bind fun ρ=>aH (run aj (n+30)) xf ρ σ)=some (.next,ρ',σ')∧∃acc x y,xH L rest ρ' σ' acc x y:=by
 obtain ⟨acc,x,z,rfl,rfl,e,sm⟩:=p
 obtain ⟨i,hi⟩:=sm l (.head _)
 obtain ⟨labs,o⟩:=l
 cases hi
 have sm':∀l∈rest,∃i,l.ins=some i:=fun l m=>sm l (.tail _ m)
 have e0:Hu i=[]→acc++rest.flatMap (fun l=>B0 l.ins)=named L:=fun h=>by rw [←e];show _=acc++(Hu i++_);rw [h];rfl
 cases i with
 |jump m t=>exact ⟨[some (.v (lst L)),some (.cell 0),some (.v (ay ⟨labs,some (.jump m t)⟩)),some (.v (.inst .rel [.str [114,101,108],.int 0,.str t]))],[.lst (acc.map .str)],by kernel_rfl,acc,_,_,rfl,rfl,e0 rfl,sm'⟩
 |ret=>exact ⟨[some (.v (lst L)),some (.cell 0),some (.v (ay ⟨labs,some (.ret)⟩)),z],[.lst (acc.map .str)],by kernel_rfl,acc,_,_,rfl,rfl,e0 rfl,sm'⟩
 |mov w i y=>
  cases y with
  |nil=>exact ⟨[some (.v (lst L)),some (.cell 0),some (.v (ay ⟨labs,some (.mov w i [])⟩)),some (.v (.inst .imm [.str [105,109,109],.int i,.str []]))],[.lst (acc.map .str)],by kernel_rfl,acc,_,_,rfl,rfl,e0 rfl,sm'⟩
  |cons c y=>
   have hl:(acc.map V.str).length+1≤16777216:=by
    have:acc.length+1≤(named L).length:=by
     rw [←e,Nu]
     show _≤acc.length+([c::y]++_).length
     rw [Nu]
     exact N2 (Oj 1 _) _
    rw [Nw]
    exact Nt this hz
   have ev:∃x' y',aH (run aj (n+30)) xf [some (.v (lst L)),some (.cell 0),some (.v (ay ⟨labs,some (.mov w i (c::y))⟩)),z] [.lst (acc.map .str)]=some (.next,[some (.v (lst L)),some (.cell 0),x',y'],[.lst (acc.map .str++[.str (c::y)])]):=
    ⟨some (.v (ay ⟨labs,some (.mov w i (c::y))⟩)),some (.v (.inst .imm [.str [105,109,109],.int i,.str (c::y)])),bk (n:=n+30) (f8 (n:=n+29) (us:=[.inst .reg [.str [114,101,103],v4 w],.inst .imm [.str [105,109,109],.int i,.str (c::y)]]) (σ1:=[.lst (acc.map .str)]) rfl
     (DN (ρ1:=[some (.v (lst L)),some (.cell 0),some (.v (ay ⟨labs,some (.mov w i (c::y))⟩)),some (.v (.inst .reg [.str [114,101,103],v4 w]))]) (σ1:=[.lst (acc.map .str)]) rfl
      (Ep (bk (n:=n+29) (ρ:=[some (.v (lst L)),some (.cell 0),some (.v (ay ⟨labs,some (.mov w i (c::y))⟩)),some (.v (.inst .imm [.str [105,109,109],.int i,.str (c::y)]))]) (σ:=[.lst (acc.map .str)]) (FB (n:=n+28) rfl (bk (ke (n:=n+26) (σ1:=[.lst (acc.map .str)]) (σ2:=[.lst (acc.map .str)]) (k:=0) (u:= .str (c::y)) rfl rfl rfl rfl hl)))))))⟩
   obtain ⟨x',y',ev⟩:=ev
   exact ⟨_,_,ev,acc++[c::y],_,_,rfl,by rw [N1];rfl,by rw [NR];exact e,sm'⟩
theorem tp {L:List ah} (hw:∀l∈L.dropLast,∃i,l.ins=some i) (hz:(named L).length≤16777216):mH 40 19 [lst L] (.lst ((named L).map .str)):=fun n=>by
 refine Np fun nG=> ?_
 obtain ⟨ρ',σ',e,acc,x,y,rfl,rfl,e2,_⟩:=Ek (body:=fun x ρ σ=>(gT (.one 2) x ρ).bind fun ρ=>aH (run aj (n+38)) xf ρ σ) (enc:=ay) (P:=fun rest ρ σ=>∃acc x y,xH L rest ρ σ acc x y) (fun l rest ρ σ p=>vT (n:=n+8) hz l rest ρ σ p) (xs:=L.dropLast) (ρ:=[some (.v (lst L)),some (.cell 0),none,none]) (σ:=[.lst []]) ⟨[],none,none,rfl,rfl,rfl,hw⟩
 have e3:acc=named L:=by rw [←e2];exact (NQ _).symm
 subst e3
 refine nG ?_
 exact bV (n:=n+39) (fn:=ir) (ρ:=[some (.v (lst L)),some (.cell 0),x,y]) (σ2:=[.lst ((named L).map .str)]) (W:= .cell 0) rfl rfl
  (av (n:=n+39) (ρ':=[some (.v (lst L)),some (.cell 0),none,none]) (σ':=[.lst []]) (by kernel_rfl) (av (n:=n+39) (f8 (n:=n+38) (x7 (n:=n+35) rfl) e) (dW (n:=n+38) (by kernel_rfl)))) rfl
theorem BX {n:Nat} {l r:CE} {ρ:Loc} {σ σ1 σ2:ag} {U W:aA} {a b:List V} (h1:(run aj n).e l ρ σ=some (U,σ1)) (k1:U.toV=some (.lst a)) (h2:(run aj n).e r ρ σ1=some (W,σ2)) (k2:W.toV=some (.lst b)) (hz:a.length+b.length≤16777216):
  (run aj (n+1)).e (.bin .add l r) ρ σ=some (.v (.lst (a++b)),σ2):=by
 have:jw (run aj n) [l,r] ρ σ=some ([.lst a,.lst b],σ2):=by
  show (((run aj n).e l ρ σ).bind _).bind _=_
  rw [h1]
  show ((((run aj n).e r ρ σ1).bind _).bind _).bind _=_
  rw [h2]
  show (toVs [U,W]).bind _=_
  show ((U.toV).bind _).bind _=_
  rw [k1]
  show (((W.toV).bind _).bind _).bind _=_
  rw [k2];rfl
 show (jw (run aj n) [l,r] ρ σ).bind _=_
 rw [this]
 show (if _ then _ else _:Nr V).map _=_
 rw [NP (eV hz)];rfl
theorem aB {n f:Nat} {args:List CE} {us:List V} {ρ:Loc} {σ:ag} {U:aA} {Us:List aA} (ha:kO (run aj n) args ρ σ=some (Us,σ)) (hu:Us.map aA.bind=us.map aA.v) (hc:(run aj n).c f (us.map aA.v) []=some (.ok U,[])) (hU:U.plain?=some U):
  (run aj (n+1)).e (.callF f args) ρ σ=some (U,σ):=by
 have cells:∀us:List V,eM (us.map aA.v)=[]:=fun us=>by induction us with|nil=>rfl|cons u us ih=>exact ih
 have ren:∀us:List V,renum 0 (us.map aA.v)=us.map aA.v:=fun us=>by induction us with|nil=>rfl|cons u us ih=>exact NC (aA.v u:: ·) ih
 show (kO (run aj n) args ρ σ).bind _=_
 rw [ha]
 show (cS (run aj n) f (Us.map aA.bind) σ).bind _=_
 rw [hu]
 have:cS (run aj n) f (us.map aA.v) σ=some (.ok U,σ):=by
  unfold cS
  rw [cells us,NP Rj]
  show ((run aj n).c f (renum 0 (us.map aA.v)) []).map _=_
  rw [ren us,hc];rfl
 rw [this]
 show U.plain?.map _=_
 rw [hU];rfl
theorem pV:∀xs:List Sg,V.dats (xs.map .str)=true
 |[]=>rfl
 |_::xs=>pV xs
theorem qB:∀xs:List Sg,V.deps (xs.map .str)=0
 |[]=>rfl
 |_::xs=>by show max 0 (V.deps (xs.map .str))=0;rw [qB xs];rfl
theorem pW (x:Sg) (xs:List Sg):gY (.str x) (xs.map .str)=true:=by
 show (V.dats _&&(_&&decide (V.deps _≤60)))=true
 rw [pV,qB];rfl
theorem yo (x:Sg) (xs:List Sg):decide (V.str x∈xs.map V.str)=decide (x∈xs):=by
 refine O4.mpr ⟨fun m=> ?_,fun m=>O1 m⟩
 obtain ⟨y,h1,h2⟩:=Op.mp m
 cases h2;exact h1
theorem Kc {n:Nat} {a b:CE} {ρ:Loc} {σ:ag} {x:Sg} {xs:List Sg} {W:aA} (h1:(run aj n).e a ρ σ=some (.v (.str x),σ)) (h2:(run aj n).e b ρ σ=some (W,σ)) (hW:W.deref σ=some (.lst (xs.map .str))):
  (run aj (n+1)).e (.cmp a .in_ b) ρ σ=some (.v (.bool (decide (x∈xs))),σ):=by
 have:rL (run aj n) [a,b] ρ σ=some ([.str x,.lst (xs.map .str)],σ):=by
  show (((run aj n).e a ρ σ).bind _).bind _=_
  rw [h1]
  show ((((run aj n).e b ρ σ).bind _).bind _).bind _=_
  rw [h2]
  show (((W.deref σ).bind _).bind _).bind _=_
  rw [hW];rfl
 show (rL (run aj n) [a,b] ρ σ).bind _=_
 rw [this]
 show ((if gY (.str x) (xs.map .str) then some (decide (V.str x∈xs.map V.str)) else none).map _:Nr (aA×ag))=_
 rw [NP (pW x xs),yo];rfl
noncomputable def used (L:List ah):List Sg:=named L++L.map fun l=>bg l.ins
noncomputable def mA (us:List Sg) (l:ah):ah:=⟨l.labs.filter fun x=>decide (x∈us),l.ins⟩
noncomputable def kept (L:List ah):List ah:=L.map (mA (used L))
theorem kj {p:Sg→Bool}:∀labs:List Sg,(labs.flatMap fun x=>if p x then [V.str x] else [])=(labs.filter p).map V.str
 |[]=>rfl
 |x::labs=>by
  rw [Pv,kj labs,Vn]
  cases p x<;>rfl
structure Sz (L:List ah):Prop where
 len:L.length≤1000
 labs:∀l∈L,l.labs.length≤1000
 nm:(named L).length≤1000
theorem iq:∀L:List ah,(L.flatMap fun l=>[V.str (bg l.ins)])=(L.map fun l=>bg l.ins).map V.str
 |[]=>rfl
 |l::L=>NC (V.str (bg l.ins):: ·) (iq L)
theorem IU {n:Nat} {L:List ah} (hw:∀l∈L.dropLast,∃i,l.ins=some i) (S:Sz L):(run aj (n+58)).e (.bin .add (.bin .add (.callB .list_ [(.var 1)]) (.callF 19 [(.var 0)])) (.comp (.callF 5 [(.attr (.var 3) .instruction)]) [(.mk (.one 3) (.seq (.var 0)) [])]))
  [some (.v (lst L)),some (.v (.tup [])),none,none,none,none] []=some (.v (.lst ((used L).map .str)),[]):=by
 have h1:(run aj (n+56)).e (.callF 19 [(.var 0)]) [some (.v (lst L)),some (.v (.tup [])),none,none,none,none] []=some (.own (.lst ((named L).map .str)),[]):=
  aB (n:=n+55) (us:=[lst L]) (Us:=[.v (lst L)]) (by kernel_rfl) rfl (tp hw (Nt S.nm (by decide)) (n+15)) rfl
 have h2:=g9 (n:=n+56) (elt:= .callF 5 [(.attr (.var 3) .instruction)]) (t:= .one 3) (it:= .seq (.var 0)) (ifs:=[]) (gs:=[]) (ρ:=[some (.v (lst L)),some (.v (.tup [])),none,none,none,none]) (σ:=[]) (xs:=L) (enc:=ay) (g:=fun l=>[V.str (bg l.ins)]) (by kernel_rfl)
  (fun l _=>by
   obtain ⟨labs,o⟩:=l
   cases o with
   |none=>kernel_rfl
   |some i=>cases i<;>kernel_rfl) (by rw [iq,Nw,Nw];exact Nt S.len (by decide))
 rw [iq] at h2
 have h3:=BX (n:=n+56) (a:=[]) (show (run aj (n+56)).e (.callB .list_ [(.var 1)]) [some (.v (lst L)),some (.v (.tup [])),none,none,none,none] []=some (.v (.lst []),[]) by kernel_rfl) rfl h1 rfl (by rw [Nw];exact Nt (N2 S.nm 0) (by decide))
 have h4:=BX (n:=n+57) h3 rfl h2 rfl (by rw [Nu,Nw,Nw,Nw];exact Nt (Of (N2 S.nm 0) S.len) (by decide))
 rw [h4,used,N1];rfl
noncomputable def yE:CE:= .comp (.var 5) [(.mk (.one 5) (.seq (.attr (.var 4) .labels)) [(.cmp (.var 5) .in_ (.var 2))])]
theorem E1 {n:Nat} {l:ah} {us:List Sg} {a b c:Nr aA} (hl:l.labs.length≤1000):(run aj (n+56)).e yE [a,b,some (.v (.lst (us.map .str))),c,some (.v (ay l)),none] []=some (.own (.lst ((mA us l).labs.map .str)),[]):=by
 have h:=g9 (n:=n+55) (elt:= .var 5) (t:= .one 5) (it:= .seq (.attr (.var 4) .labels)) (ifs:=[(.cmp (.var 5) .in_ (.var 2))]) (gs:=[]) (ρ:=[a,b,some (.v (.lst (us.map .str))),c,some (.v (ay l)),none]) (σ:=[]) (xs:=l.labs) (enc:=V.str)
  (g:=fun x=>if decide (x∈us) then [V.str x] else []) (by kernel_rfl)
  (fun x _=>by
   have q:=Kc (n:=n+54) (a:= .var 5) (b:= .var 2) (ρ:=[a,b,some (.v (.lst (us.map .str))),c,some (.v (ay l)),some (.v (.str x))]) (σ:=[]) (x:=x) (xs:=us) (W:= .v (.lst (us.map .str))) (by kernel_rfl) (by kernel_rfl) rfl
   show ((((run aj (n+55)).e (.cmp (.var 5) .in_ (.var 2)) [a,b,some (.v (.lst (us.map .str))),c,some (.v (ay l)),some (.v (.str x))] []).bind _).bind _).bind _=_
   rw [q]
   cases decide (x∈us)<;>rfl) (by rw [kj,Nw];exact Nt (Tx _ _) (Nt hl (by decide)))
 rw [kj] at h
 exact h
theorem qV {n:Nat} {c:iJ} {args:List CE} {ρ:Loc} {σ σ':ag} {us:List V} {w:V} (h:jw (run aj n) args ρ σ=some (us,σ')) (k:iF c us=some w):(run aj (n+1)).e (.mk c args) ρ σ=some (.v w,σ'):=by
 show (jw (run aj n) args ρ σ).bind _=_
 rw [h]
 show (iF c us).map _=_
 rw [k];rfl
theorem aK {n:Nat} {a b:CE} {ρ:Loc} {σ σ1 σ2:ag} {U W:aA} {u w:V} (h1:(run aj n).e a ρ σ=some (U,σ1)) (k1:U.toV=some u) (h2:(run aj n).e b ρ σ1=some (W,σ2)) (k2:W.toV=some w):jw (run aj n) [a,b] ρ σ=some ([u,w],σ2):=by
 show (((run aj n).e a ρ σ).bind _).bind _=_
 rw [h1]
 show ((((run aj n).e b ρ σ1).bind _).bind _).bind _=_
 rw [h2]
 show ((U.toV).bind _).bind _=_
 rw [k1]
 show (((W.toV).bind _).bind _).bind _=_
 rw [k2];rfl
theorem IW {L:List ah} (hw:∀l∈L.dropLast,∃i,l.ins=some i) (S:Sz L):mH 60 20 [lst L,.tup []] (.lst ((kept L).map ay)):=fun n=>by
 have key:∀l∈L,ji (run aj (n+57)) (.one 4) [] (dZ (run aj (n+57)) (.mk .line [yE,(.attr (.var 4) .instruction)]) []) (qS (GQ (.one 4)++DB []) [some (.v (lst L)),some (.v (.tup [])),some (.v (.lst ((used L).map .str))),none,none,none]) (ay l) []=some ([ay (mA (used L) l)],[]):=fun l m=>by
  have h:=qV (n:=n+56) (c:= .line) (aK (E1 (n:=n) (us:=used L) (a:=some (.v (lst L))) (b:=some (.v (.tup []))) (c:=none) (S.labs l m)) rfl (show (run aj (n+56)).e (.attr (.var 4) .instruction) _ []=some (.v (aS l.ins),[]) by kernel_rfl) rfl) (w:=ay (mA (used L) l)) rfl
  show (((run aj (n+57)).e (.mk .line [yE,(.attr (.var 4) .instruction)]) [some (.v (lst L)),some (.v (.tup [])),some (.v (.lst ((used L).map .str))),none,some (.v (ay l)),none] []).bind _).map _=_
  rw [h];rfl
 have h:=g9 (n:=n+57) (elt:= .mk .line [yE,(.attr (.var 4) .instruction)]) (t:= .one 4) (it:= .seq (.var 0)) (ifs:=[]) (gs:=[]) (ρ:=[some (.v (lst L)),some (.v (.tup [])),some (.v (.lst ((used L).map .str))),none,none,none]) (σ:=[]) (xs:=L) (enc:=ay) (g:=fun l=>[ay (mA (used L) l)]) (by kernel_rfl) key
  (by rw [gi,Nw];exact Nt S.len (by decide))
 rw [gi] at h
 have hk:(kept L).map ay=L.map fun l=>ay (mA (used L) l):=OP
 rw [hk]
 refine bV (n:=n+59) (fn:=j7) (ρ:=[some (.v (lst L)),some (.v (.tup [])),some (.v (.lst ((used L).map .str))),none,none,none]) rfl rfl (av (n:=n+59) (ρ':=[some (.v (lst L)),some (.v (.tup [])),some (.v (.lst ((used L).map .str))),none,none,none]) (σ':=[]) ?_ (dW (n:=n+58) h)) rfl
 show ((((run aj (n+58)).e (.bin .add (.bin .add (.callB .list_ [(.var 1)]) (.callF 19 [(.var 0)])) (.comp (.callF 5 [(.attr (.var 3) .instruction)]) [(.mk (.one 3) (.seq (.var 0)) [])])) [some (.v (lst L)),some (.v (.tup [])),none,none,none,none] []).bind _).bind _)=_
 rw [IU hw S];rfl
noncomputable def qf (p:ah×Nat):V:= .tup [.int (p.2:Int),ay p.1]
theorem mQ:∀(L:List ah) (k:Nat),jh k (L.map ay)=(L.zipIdx k).map qf
 |[],_=>rfl
 |l::L,k=>NC (qf (l,k):: ·) (mQ L (k+1))
noncomputable def aq (L:List ah):List Sg:=L.flatMap (·.labs)
noncomputable def cE (k:Nat) (L:List ah):List Nat:=List.rec (motive:=fun _=>Nat→List Nat) (fun _=>[]) (fun l _ ih k=>l.labs.map (fun _=>k)++ih (k+1)) L k
noncomputable def ai (k:Nat):V:= .int (k:Int)
noncomputable def an (L:List ah):V:= .dct (aq L) ((cE 0 L).map ai)
theorem pY:∀{ks:List Sg} {vs:List V} {x:Sg} {y:V},x∉ks→ks.length=vs.length→eB ks vs x y=(ks++[x],vs++[y])
 |[],[],_,_,_,_=>rfl
 |[],_::_,_,_,_,h=>nomatch h
 |_::_,[],_,_,_,h=>nomatch h
 |k::ks,v::vs,x,y,hx,hl=>by
  have ne:k≠x:=fun e=>hx (by rw [e];exact .head _)
  show (if k=x then (k::ks,y::vs) else (k::(eB ks vs x y).1,v::(eB ks vs x y).2))=_
  rw [N4 ne,pY (fun m=>hx (.tail _ m)) (PX hl)]
  rfl
theorem gB {n:Nat} {c:CE} {ρ:Loc} {σ:ag} {b:Bool} (h:(run aj n).e c ρ σ=some (.v (.bool b),σ)):cv (run aj n) c ρ σ=some (b,σ):=by
 show ((run aj n).e c ρ σ).bind _=_
 rw [h];rfl
theorem cC {n:Nat} {c:CE} {ρ:Loc} {σ σ':ag} {U:aA} {u:V} (h:(run aj n).e c ρ σ=some (U,σ')) (k:U.toV=some u):eO (run aj n) c ρ σ=some (u,σ'):=by
 show ((run aj n).e c ρ σ).bind _=_
 rw [h]
 show (U.toV).bind _=_
 rw [k];rfl
theorem IP {n:Nat} {x i e:CE} {ρ:Loc} {σ:ag} {c:Nat} {ks:List Sg} {vs:List V} {k:Sg} {u:V} (h1:eO (run aj n) e ρ σ=some (u,σ)) (h2:(run aj n).e x ρ σ=some (.cell c,σ)) (h3:eO (run aj n) i ρ σ=some (.str k,σ)) (h4:σ[c]? =some (.dct ks vs)) (hz:ks.length≤16777216):
  (run aj (n+1)).s (.setIdx x i e) ρ σ=some (.next,ρ,σ.set c (.dct (eB ks vs k u).1 (eB ks vs k u).2)):=by
 show (eO (run aj n) e ρ σ).bind _=_
 rw [h1]
 show ((run aj n).e x ρ σ).bind _=_
 rw [h2]
 show (eO (run aj n) i ρ σ).bind _=_
 rw [h3]
 show (σ[c]?).bind _=_
 rw [h4]
 show (if _ then _ else _:Nr V).map _=_
 rw [NP (eV hz)];rfl
section
variable {E:Ev} {ρ:Loc} {σ:ag} {n:Nat}
theorem iY (e:CE):(run aj (n+1)).e e ρ σ=dT aj (run aj n) e ρ σ:=rfl
theorem iU (c:CS):(run aj (n+1)).s c ρ σ=dU aj (run aj n) c ρ σ:=rfl
theorem fv:aH E [] ρ σ=some (.next,ρ,σ):=rfl
theorem jH {α:Type} (b:Bool) (x y:α):(if b=true then x else y)=bif b then x else y:=by cases b<;>rfl
theorem cO (c:CS) (cs:List CS):aH E (c::cs) ρ σ=(E.s c ρ σ).bind fun r=>bif r.1.goes then aH E cs r.2.1 r.2.2 else some r:=by
 show NT (E.s c ρ σ) _=_
 congr 1;funext r;exact jH _ _ _
theorem fM (u:V):dT aj E (.cst u) ρ σ=some (.v u,σ):=rfl
theorem fH (i:Int):dT aj E (.neg i) ρ σ=some (.v (.int (-i)),σ):=rfl
theorem fC (i:Nat):dT aj E (.var i) ρ σ=ρ[i]?.join.map fun U=>(U,σ):=rfl
theorem fL (es:List CE):dT aj E (.tup es) ρ σ=(jw E es ρ σ).bind fun r=>bif cX r.1.length then some (.v (.tup r.1),r.2) else none:=by
 show NT (jw E es ρ σ) _=_
 congr 1;funext r;exact jH _ _ _
theorem dS (es:List CE):dT aj E (.lst es) ρ σ=(jw E es ρ σ).bind fun r=>bif cX r.1.length then some (.own (.lst r.1),r.2) else none:=by
 show NT (jw E es ρ σ) _=_
 congr 1;funext r;exact jH _ _ _
theorem cZ:dT aj E .dct0 ρ σ=some (.own (.dct [] []),σ):=rfl
theorem c5 (e:CE) (f:gV):dT aj E (.attr e f) ρ σ=(eO E e ρ σ).bind fun r=>(kW r.1 f).map fun v=>(.v v,r.2):=rfl
theorem fP (e i:CE):dT aj E (.idx e i) ρ σ=(rL E [e,i] ρ σ).bind fun r=>(two r.1 i3).map fun v=>(.v v,r.2):=rfl
theorem d6 (e:CE) (lo hi:Nr CE):dT aj E (.slc e lo hi) ρ σ=(eO E e ρ σ).bind fun r=>(Fu E lo ρ r.2).bind fun a=>(Fu E hi ρ a.2).bind fun b=>(i9 r.1 a.1 b.1).map fun v=>(.v v,b.2):=rfl
theorem fz (o:FM) (l r:CE):dT aj E (.bin o l r) ρ σ=(jw E [l,r] ρ σ).bind fun r=>(two r.1 (oI o)).map fun v=>(.v v,r.2):=rfl
theorem fQ (l:CE) (o:uQ) (r:CE):dT aj E (.cmp l o r) ρ σ=(rL E [l,r] ρ σ).bind fun r=>(two r.1 (gC o)).map fun v=>(.v (.bool v),r.2):=rfl
theorem cQ (a:CE) (o:uQ) (b:CE) (o':uQ) (c:CE):dT aj E (.cmp2 a o b o' c) ρ σ=(jw E [a,b] ρ σ).bind fun r=>two r.1 fun x y=>(gC o x y).bind fun v=>bif v then (eO E c ρ r.2).bind fun q=>(gC o' y q.1).map fun v=>(.v (.bool v),q.2) else some (.v (.bool false),r.2):=by
 show NT (jw E [a,b] ρ σ) _=_
 congr 1;funext r
 congr 1;funext x y
 show NT (gC o x y) _=_
 congr 1;funext v;exact jH _ _ _
theorem eY (es:List CE):dT aj E (.and es) ρ σ=(eW E true es ρ σ).map fun r=>(.v (.bool r.1),r.2):=rfl
theorem ig (es:List CE):dT aj E (.or es) ρ σ=(eW E false es ρ σ).map fun r=>(.v (.bool r.1),r.2):=rfl
theorem eZ (e:CE):dT aj E (.not e) ρ σ=(cv E e ρ σ).map fun r=>(.v (.bool !r.1),r.2):=rfl
theorem fg (c a b:CE):dT aj E (.ite c a b) ρ σ=(cv E c ρ σ).bind fun r=>E.e (bif r.1 then a else b) ρ r.2:=by
 show NT (cv E c ρ σ) _=_
 congr 1;funext r;rw [←jH]
theorem bL (f:Nat) (args:List CE):dT aj E (.callF f args) ρ σ=(kO E args ρ σ).bind fun r=>(cS E f (r.1.map aA.bind) r.2).bind fun q=>q.1.opd?.map fun U=>(U,q.2):=rfl
theorem i8 (c:iJ) (args:List CE):dT aj E (.mk c args) ρ σ=(jw E args ρ σ).bind fun r=>(iF c r.1).map fun v=>(.v v,r.2):=rfl
theorem cm (b:Bf) (args:List CE):dT aj E (.callB b args) ρ σ=(rL E args ρ σ).bind fun r=>(vO b r.1).map fun v=>(.v v,r.2):=rfl
theorem b6 (e:CE) (m:D7):dT aj E (.callM e m) ρ σ=(eO E e ρ σ).bind fun r=>r.1.inst?.bind fun p=>(aj.meth p.1 m).bind fun f=>(E.c f [.v r.1] []).bind fun q=>q.1.opd?.map fun U=>(U,r.2):=rfl
theorem aW (e:CE) (args:List CE):dT aj E (.callS .append e args) ρ σ=ky E e args ρ σ:=rfl
theorem df (e:CE) (args:List CE):dT aj E (.callS .pop e args) ρ σ=EJ E e args ρ σ:=rfl
theorem dH (e:CE) (args:List CE):dT aj E (.callS .get e args) ρ σ=pP aj E .get e args ρ σ:=rfl
theorem bA (e a:CE):ky E e [a] ρ σ=(E.e e ρ σ).bind fun r=>r.1.cell?.bind fun k=>((r.2[k]?).bind V.lst?).bind fun _=>(eO E a ρ r.2).bind fun q=>((q.2[k]?).bind V.lst?).bind fun us=>
  bif cX (us.length+1) then some (.v .none,q.2.set k (.lst (us++[q.1]))) else none:=by
 show NT (E.e e ρ σ) _=_
 congr 1;funext r;congr 1;funext k;congr 1;funext w;congr 1;funext q;congr 1;funext us;exact jH _ _ _
theorem fR (e:CE):EJ E e [] ρ σ=(E.e e ρ σ).bind fun r=>r.1.cell?.bind fun k=>((r.2[k]?).bind V.lst?).bind fun us=>us.getLast?.map fun x=>(.v x,r.2.set k (.lst us.dropLast)):=rfl
theorem fy (e:CE) (args:List CE):pP aj E .get e args ρ σ=(E.e e ρ σ).bind fun r=>(r.1.deref r.2).bind fun u=>(jw E args ρ r.2).bind fun q=>if r.1.deref q.2=some u then (GO aj .get u q.1).map fun v=>(.v v,q.2) else none:=rfl
theorem c8:kO E [] ρ σ=some ([],σ):=rfl
theorem aZ (e:CE) (es:List CE):kO E (e::es) ρ σ=(E.e e ρ σ).bind fun r=>(kO E es ρ r.2).bind fun q=>some (r.1::q.1,q.2):=rfl
theorem cj:toVs []=some []:=rfl
theorem dG (U:aA) (Us:List aA):toVs (U::Us)=U.toV.bind fun u=>(toVs Us).bind fun us=>some (u::us):=rfl
theorem dh:nH σ []=some []:=rfl
theorem fw (U:aA) (Us:List aA):nH σ (U::Us)=(U.deref σ).bind fun u=>(nH σ Us).bind fun us=>some (u::us):=rfl
theorem et (es:List CE):jw E es ρ σ=(kO E es ρ σ).bind fun r=>(toVs r.1).bind fun us=>some (us,r.2):=rfl
theorem ft (e:CE):eO E e ρ σ=(E.e e ρ σ).bind fun r=>r.1.toV.bind fun u=>some (u,r.2):=rfl
theorem en (es:List CE):rL E es ρ σ=(kO E es ρ σ).bind fun r=>(nH r.2 r.1).bind fun us=>some (us,r.2):=rfl
theorem dg:Fu E none ρ σ=some (none,σ):=rfl
theorem fj (e:CE):Fu E (some e) ρ σ=(eO E e ρ σ).map fun r=>(some r.1,r.2):=rfl
theorem fJ (e:CE):cv E e ρ σ=(E.e e ρ σ).bind fun r=>r.1.bool?.map fun b=>(b,r.2):=rfl
theorem cz (t:Bool) (e:CE):eW E t [e] ρ σ=cv E e ρ σ:=by cases h:cv E e ρ σ<;>(show NT (cv E e ρ σ) _=_;rw [h];rfl)
theorem cN (e e':CE) (es:List CE):eW E true (e::e'::es) ρ σ=(cv E e ρ σ).bind fun r=>bif r.1 then eW E true (e'::es) ρ r.2 else some (false,r.2):=by
 show NT (cv E e ρ σ) _=_
 congr 1;funext r;obtain ⟨b,s⟩:=r;cases b<;>rfl
theorem cB (e e':CE) (es:List CE):eW E false (e::e'::es) ρ σ=(cv E e ρ σ).bind fun r=>bif r.1 then some (true,r.2) else eW E false (e'::es) ρ r.2:=by
 show NT (cv E e ρ σ) _=_
 congr 1;funext r;obtain ⟨b,s⟩:=r;cases b<;>rfl
theorem qO (u:V):(aA.v u).deref σ=some u:=rfl
theorem fA (u:V):(aA.own u).deref σ=some u:=rfl
theorem dq (k:Nat):(aA.cell k).deref σ=σ[k]? :=rfl
theorem qH (u:V):(aA.v u).toV=some u:=rfl
theorem fB (u:V):(aA.own u).toV=some u:=rfl
theorem qN (u:V):(aA.v u).bind= .v u:=rfl
theorem fD (u:V):(aA.own u).bind= .v u:=rfl
theorem qK (b:Bool):(aA.v (.bool b)).bool?=some b:=rfl
theorem bQ {β α:Type} (f:β→β→Nr α) (a b:β):two [a,b] f=f a b:=rfl
theorem cD {α β:Type} (a:α) (f:α→Nr β):(some a).bind f=f a:=rfl
theorem dj {α β:Type} (a:α) (f:α→β):(some a).map f=some (f a):=rfl
theorem dr {α:Type} (a:Nr α):(some a).join=a:=rfl
theorem ML {α β:Type} (f:α→Nr β):(Pr f none:Nr (Nr β))=none:=rfl
theorem br (i:Nat) (e:CE):dU aj E (.assign i e) ρ σ=match e.comp? with
  |some p=>sQ E i p ρ σ
  |none=>sX E i e ρ σ:=rfl
theorem aV (i:Nat) (e:CE):sX E i e ρ σ=(eO E e ρ σ).bind fun r=>some (.next,ρ.set i (some (.v r.1)),r.2):=rfl
theorem Jj (i:Nat) (p:CE×List CG):sQ E i p ρ σ=(dZ E p.1 p.2 ρ σ).bind fun r=>if cX r.1.length then some (.next,ρ.set i (some (.v (.lst r.1))),r.2) else none:=rfl
theorem dt (i:Nat) (e:CE):Hi E i e ρ σ=(E.e e ρ σ).bind fun r=>r.1.own?.map fun u=>(.next,ρ.set i (some (.cell r.2.length)),r.2++[u]):=rfl
theorem cP (e:CE):dU aj E (.expr e) ρ σ=match e.callF? with
  |some p=>xO E p ρ σ
  |none=>(E.e e ρ σ).bind fun r=>some (.next,ρ,r.2):=rfl
theorem fq (e:CE):dU aj E (.ret e) ρ σ=(E.e e ρ σ).bind fun r=>some (.ret r.1,ρ,r.2):=rfl
theorem cF (c:CE) (a b:List CS):dU aj E (.ite c a b) ρ σ=(cv E c ρ σ).bind fun r=>aH E (bif r.1 then a else b) ρ r.2:=by
 show NT (cv E c ρ σ) _=_
 congr 1;funext r;obtain ⟨b,s⟩:=r;cases b<;>rfl
theorem c9:dU aj E .cont ρ σ=some (.cont,ρ,σ):=rfl
theorem bY:dU aj E .raise_ ρ σ=some (.exc,ρ,σ):=rfl
theorem b7 (c:CE) (body:List CS):dU aj E (.while_ c body) ρ σ=fW (cv E c) (aH E body) turns ρ σ:=rfl
theorem aI (ts:List (Nat×Bool)) (es:List CE):dU aj E (.assignT ts es) ρ σ=(xg E ts es ρ σ).bind fun r=>some (.next,i6 (ts.map (·.1)) r.1 ρ,r.2):=rfl
theorem bp (ts:List Nat) (e:CE):dU aj E (.unpack ts e) ρ σ=(eO E e ρ σ).bind fun r=>r.1.tup?.bind fun us=>if us.length=ts.length then some (.next,i6 ts (us.map aA.v) ρ,r.2) else none:=rfl
theorem a0 (x i e:CE):dU aj E (.setIdx x i e) ρ σ=(eO E e ρ σ).bind fun u=>(E.e x ρ u.2).bind fun X=>(eO E i ρ X.2).bind fun k=>X.1.cell?.bind fun c=>(k.2[c]?).bind fun w=>(AV w k.1 u.1).map fun w=>(.next,ρ,k.2.set c w):=rfl
theorem yi:∀us:List V,eM (us.map aA.v)=[]
 |[]=>rfl
 |_::us=>yi us
theorem GD:∀us:List V,renum 0 (us.map aA.v)=us.map aA.v
 |[]=>rfl
 |u::us=>NC (aA.v u:: ·) (GD us)
theorem j6 {f:Nat} {us:List V} {U:aA} (hc:E.c f (us.map aA.v) []=some (.ok U,[])):cS E f (us.map aA.v) σ=some (.ok U,σ):=by
 unfold cS
 rw [yi us,NP Rj]
 show (E.c f (renum 0 (us.map aA.v)) []).map _=_
 rw [GD us,hc];rfl
theorem gP {f:Nat} {a:V} {U:aA} (hc:E.c f [.v a] []=some (.ok U,[])):cS E f [.v a] σ=some (.ok U,σ):=j6 (us:=[a]) hc
theorem xV {f:Nat} {a b:V} {U:aA} (hc:E.c f [.v a,.v b] []=some (.ok U,[])):cS E f [.v a,.v b] σ=some (.ok U,σ):=j6 (us:=[a,b]) hc
theorem sP {f:Nat} {a b c:V} {U:aA} (hc:E.c f [.v a,.v b,.v c] []=some (.ok U,[])):cS E f [.v a,.v b,.v c] σ=some (.ok U,σ):=j6 (us:=[a,b,c]) hc
theorem Lq {f:Nat} {a b c d:V} {U:aA} (hc:E.c f [.v a,.v b,.v c,.v d] []=some (.ok U,[])):cS E f [.v a,.v b,.v c,.v d] σ=some (.ok U,σ):=j6 (us:=[a,b,c,d]) hc
end
section
variable {E:Ev} {ρ:Loc} {σ:ag} {n:Nat}
theorem fe (i:Nat) (e:CE):dU aj E (.own i e) ρ σ=match e.comp? with
  |some p=>Ke E i p ρ σ
  |none=>Hi E i e ρ σ:=rfl
theorem iX (u:V):(Ah.ok (.v u)).opd?=some (.v u):=rfl
theorem dE (u:V):(Ah.ok (.own u)).opd?=some (.own u):=rfl
theorem dF:fc.next.goes=true:=rfl
theorem dv:fc.cont.goes=false:=rfl
theorem c7 (U:aA):(fc.ret U).goes=false:=rfl
theorem dA:fc.exc.goes=false:=rfl
theorem qJ:cX ([]:List V).length=true:=rfl
theorem qT (a:V):cX [a].length=true:=rfl
theorem qX (a b:V):cX [a,b].length=true:=rfl
theorem qI (a b c:V):cX [a,b,c].length=true:=rfl
theorem fF (u:V):(aA.v u).own?=none:=rfl
theorem fp (u:V):(aA.own u).own?=some u:=rfl
theorem du (k:Nat):(aA.cell k).cell?=some k:=rfl
theorem fO (i:Nat) (x:V):gT (.one i) x ρ=some (ρ.set i (some (.v x))):=rfl
theorem fu (i j:Nat) (a b:V):gT (.two i j) (.tup [a,b]) ρ=some ((ρ.set i (some (.v a))).set j (some (.v b))):=rfl
theorem cu (a b:V):gC .eq a b=EA a b:=rfl
theorem bN (a b:V):gC .ne a b=(EA a b).map (!·):=rfl
theorem dy (a b:Int):gC .lt (.int a) (.int b)=some (decide (a <b)):=rfl
theorem de (a b:Int):gC .le (.int a) (.int b)=some (decide (a≤b)):=rfl
theorem cR (a b:Int):gC .gt (.int a) (.int b)=some (decide (b <a)):=rfl
theorem dn (a b:Int):gC .ge (.int a) (.int b)=some (decide (b≤a)):=rfl
theorem cL (a b:V):gC .in_ a b=Dg a b:=rfl
theorem bH (a b:V):gC .nin a b=(Dg a b).map (!·):=rfl
theorem dz (a b:V):gC .is_ a b=FF a b:=rfl
theorem bB (a b:V):gC .isnt a b=(FF a b).map (!·):=rfl
theorem bD:FF .none .none=some true:=rfl
theorem bl (i:cq):FF (aP i) .none=some false:=by cases i<;>rfl
theorem Hv (a b:Sg):decide (V.str a=V.str b)=decide (a=b):=O4.mpr ⟨V.str.inj,NC V.str⟩
theorem HS (a b:Int):decide (V.int a=V.int b)=decide (a=b):=O4.mpr ⟨V.int.inj,NC V.int⟩
theorem bE (a b:Sg):EA (.str a) (.str b)=some (decide (a=b)):=NC some (Hv a b)
theorem bh (a b:Int):EA (.int a) (.int b)=some (decide (a=b)):=NC some (HS a b)
theorem bq (l:ah):kW (ay l) .instruction=some (aS l.ins):=rfl
theorem aT (l:ah):kW (ay l) .labels=some (.tup (l.labs.map .str)):=rfl
theorem b9 (a b:V):oI .add a b=oJ a b:=rfl
theorem Ei (x:Nat) (xs:List Nat):decide (ai x∈xs.map ai)=decide (x∈xs):=by
 refine O4.mpr ⟨fun m=> ?_,fun m=>O1 m⟩
 obtain ⟨y,h1,h2⟩:=Op.mp m
 have:(y:Int)=(x:Int):=V.int.inj h2
 cases (Int.ofNat.inj this);exact h1
theorem vt:∀xs:List Nat,V.dats (xs.map ai)=true
 |[]=>rfl
 |_::xs=>vt xs
theorem uf:∀xs:List Nat,V.deps (xs.map ai)=0
 |[]=>rfl
 |_::xs=>by show max 0 (V.deps (xs.map ai))=0;rw [uf xs];rfl
theorem ch (x:Nat) (xs:List Nat):Dg (ai x) (.lst (xs.map ai))=some (decide (x∈xs)):=by
 have:gY (ai x) (xs.map ai)=true:=by
  show (V.dats _&&(_&&decide (V.deps _≤60)))=true
  rw [vt,uf];rfl
 show (if _ then _ else _)=_
 rw [NP this,Ei]
theorem bI (x:Sg) (xs:List Sg):Dg (.str x) (.lst (xs.map .str))=some (decide (x∈xs)):=by
 show (if _ then _ else _)=_
 rw [NP (pW x xs),yo]
theorem bo (x:Sg) (xs:List Sg):Dg (.str x) (.tup (xs.map .str))=some (decide (x∈xs)):=bI x xs
theorem bP (x:Sg) (ks:List Sg) (vs:List V):Dg (.str x) (.dct ks vs)=some (decide (x∈ks)):=rfl
theorem i5:xg E [] [] ρ σ=some ([],σ):=rfl
theorem gw (i:Nat) (ts:List (Nat×Bool)) (e:CE) (es:List CE):xg E ((i,false)::ts) (e::es) ρ σ=(E.e e ρ σ).bind fun r=>r.1.toV.bind fun u=>(xg E ts es ρ r.2).map fun q=>(.v u::q.1,q.2):=rfl
theorem iI (i:Nat) (ts:List (Nat×Bool)) (e:CE) (es:List CE):xg E ((i,true)::ts) (e::es) ρ σ=(E.e e ρ σ).bind fun r=>r.1.own?.bind fun u=>(xg E ts es ρ (r.2++[u])).map fun q=>(.cell r.2.length::q.1,q.2):=rfl
theorem fE (Us:List aA):i6 [] Us ρ=ρ:=rfl
theorem fk (i:Nat) (is:List Nat) (U:aA) (Us:List aA):i6 (i::is) (U::Us) ρ=i6 is Us (ρ.set i (some U)):=rfl
theorem dk (ls:List V) (i:V):iF .line [.lst ls,i]=some (.inst .line [.tup ls,i]):=rfl
theorem i4 (us:List V):fG (.tup us)=some us:=rfl
theorem i7 (us:List V):fG (.lst us)=some us:=rfl
theorem dB (us:List V):(V.lst us).lst?=some us:=rfl
theorem cf (e:CE) (f:gV):(CE.attr e f).comp?=none:=rfl
theorem dp (e i:CE):(CE.idx e i).comp?=none:=rfl
theorem bC (f:Nat) (es:List CE):(CE.callF f es).comp?=none:=rfl
theorem c6 (o:FM) (l r:CE):(CE.bin o l r).comp?=none:=rfl
theorem bv (m:Mf) (e:CE) (es:List CE):(CE.callS m e es).comp?=none:=rfl
theorem bZ (a:CE) (o:uQ) (b:CE) (o':uQ) (c:CE):(CE.cmp2 a o b o' c).comp?=none:=rfl
theorem fK (c:iJ) (es:List CE):(CE.mk c es).comp?=none:=rfl
theorem cY (e:CE) (a b:Nr CE):(CE.slc e a b).comp?=none:=rfl
theorem dK (u:V):(CE.cst u).comp?=none:=rfl
theorem dm (i:Nat):(CE.var i).comp?=none:=rfl
theorem dw (es:List CE):(CE.lst es).comp?=none:=rfl
theorem bz (m:Mf) (e:CE) (es:List CE):(CE.callS m e es).callF?=none:=rfl
noncomputable def bd (E:Ev) (t:kT) (body:List CS) (x:V) (ρ:Loc) (σ:ag):tB:=(gT t x ρ).bind fun ρ=>aH E body ρ σ
theorem Kh (t:kT) (it:It) (body:List CS):dU aj E (.for_ t it body) ρ σ=(dN E it ρ σ).bind fun r=>fm (bd E t body) r.1 ρ r.2:=rfl
theorem uD (e:CE):dN E (.seq e) ρ σ=(eO E e ρ σ).bind fun r=>(uo r.1).map fun us=>(us,r.2):=rfl
theorem oQ (es:List CE):dN E (.range es) ρ σ=(jw E es ρ σ).bind fun r=>(iA r.1).map fun us=>(us,r.2):=rfl
theorem BS (e:CE):dN E (.enum e) ρ σ=(eO E e ρ σ).bind fun r=>r.1.lst?.map fun us=>(jh 0 us,r.2):=rfl
theorem aQ (body:V→Loc→ag→tB) (x:V) (xs:List V):fm body (x::xs) ρ σ=(body x ρ σ).bind fun r=>bif r.1.turns then fm body xs r.2.1 r.2.2 else some r:=by
 show NT (body x ρ σ) _=_
 congr 1;funext r;exact jH _ _ _
end
section
variable {L A B:List ah} {x y:ah} {i:Nat} {a b k:Nat}
theorem iG (h:L[i]? =some x):i3 (lst L) (ai i)=some (ay x):=by
 have hi:i <L.length:=(NA.mp h).1
 have hp:lr (L.map ay).length (i:Int)=some i:=by
  unfold lr
  rw [NP (Ot i),Nw,NP (PC.mpr hi)];rfl
 show (lr (L.map ay).length (i:Int)).bind _=_
 rw [hp]
 show (L.map ay)[i]? =_
 rw [OO,h];rfl
theorem Ku (a b:Nat):oJ (ai a) (.int (b:Int))=some (ai (a+b)):=rfl
theorem yd (a:Nat):oJ (ai a) (.int 1)=some (ai (a+1)):=rfl
theorem BD (a:Nat) (h:1≤a):oI .sub (ai a) (.int 1)=some (ai (a -1)):=by
 show some (V.int ((a:Int) -1))=some (V.int ((a -1:Nat):Int))
 rw [VE h];rfl
theorem JA:vO .len [lst L]=some (ai L.length):=by
 show some (V.int ((L.map ay).length:Nat))=_
 rw [Nw];rfl
theorem Gj (us:List V):vO .len [.tup us]=some (.int us.length):=rfl
theorem tu (h:b≤L.length):i9 (lst L) none (some (ai b))=some (lst (L.take b)):=by
 show some (V.lst (((L.map ay).take (if (0:Int)≤(b:Int) then min (b:Int).toNat (L.map ay).length else _)).drop 0))=_
 rw [NP (Ot b),Pg,Nw,Qc h,Rh,←SA];rfl
theorem mC (h:a≤L.length):i9 (lst L) (some (ai a)) none=some (lst (L.drop a)):=by
 show some (V.lst (((L.map ay).take (L.map ay).length).drop (if (0:Int)≤(a:Int) then min (a:Int).toNat (L.map ay).length else _)))=_
 rw [NP (Ot a),Pg,Vc,Nw,Qc h,←Uu];rfl
theorem Hz (ha:a≤L.length) (hb:b≤L.length):i9 (lst L) (some (ai a)) (some (ai b))=some (lst ((L.take b).drop a)):=by
 show some (V.lst (((L.map ay).take (if (0:Int)≤(b:Int) then min (b:Int).toNat (L.map ay).length else _)).drop (if (0:Int)≤(a:Int) then min (a:Int).toNat (L.map ay).length else _)))=_
 rw [NP (Ot a),NP (Ot b),Pg,Pg,Nw,Qc ha,Qc hb,←SA,←Uu];rfl
theorem qF (h:A.length+B.length≤16777216):oJ (lst A) (lst B)=some (lst (A++B)):=by
 show (if cX ((A.map ay).length+(B.map ay).length)=true then _ else _)=_
 rw [Nw,Nw,NP (eV h),←N1];rfl
theorem AF (us:List V):uo (.tup us)=some us:=rfl
theorem mS {a:Int} (h:a.natAbs <1099511627776):iw a=true:=NF h
theorem vy (h:k≤1000):iA [ai k]=some ((Pf k).map ai):=by
 show (if (iw 0&&iw (k:Int))=true then _ else _)=_
 rw [NP (show (iw 0&&iw (k:Int))=true by rw [mS (a:=(k:Int)) (by omega)];rfl),NP rfl,Int.sub_zero,Pg]
 refine NC some (PJ fun i _=> ?_)
 show V.int (0+(i:Int))=V.int i
 rw [Int.zero_add]
theorem v9 (h:b≤1000) (ha:a≤b):iA [ai a,ai b]=some ((P3 a (b -a)).map ai):=by
 show (if (iw (a:Int)&&iw (b:Int))=true then _ else _)=_
 rw [NP (show (iw (a:Int)&&iw (b:Int))=true by rw [mS (a:=(a:Int)) (by omega),mS (a:=(b:Int)) (by omega)];rfl),NP rfl,←VE ha,Pg,List.range'_eq_map_range,OP]
 refine NC some (PJ fun i _=> ?_)
 show V.int ((a:Int)+(i:Int))=V.int ((a+i:Nat):Int)
 rw [VF]
theorem BG (k:Nat) (h:k≤1000):((k:Int) -1).natAbs <1099511627776∧((k:Int) -1 - -1).toNat=k:=by
 cases k with
 |zero=>exact ⟨by decide,rfl⟩
 |succ k=>
  rw [Qo,Sa,Int.sub_neg]
  exact ⟨NL (PQ h) (by decide),rfl⟩
theorem xz (h:k≤1000):iA [.int ((k:Int) -1),.int (-1),.int (-1)]=some ((Pf k).reverse.map ai):=by
 obtain ⟨h1,h2⟩:=BG k h
 show (if (iw _&&iw (-1))=true then _ else _)=_
 rw [NP (show (iw ((k:Int) -1)&&iw (-1))=true by rw [mS h1];rfl),N4 (by decide),NP rfl,h2]
 refine NC some ?_
 clear h h1 h2
 induction k with
 |zero=>rfl
 |succ k ih=>
  rw [PW,NJ,←PW,Tt,T9,N1,←ih,OP]
  have e:(k+1:Nat) -(1:Int)=k:=by rw [Qo,Sa]
  show V.int ((k+1:Nat) -(1:Int) -(0:Nat))::_=V.int k::_
  rw [e,Ve,Int.sub_zero]
  refine NC _ (PJ fun i _=> ?_)
  show V.int ((k:Int) -(i+1:Nat))=V.int ((k:Int) -1 -i)
  rw [Qo,UL,Int.sub_sub]
end
theorem jt (A B:List ah):aq (A++B)=aq A++aq B:=Ua
theorem rO:∀(A B:List ah) (k:Nat),cE k (A++B)=cE k A++cE (k+A.length) B
 |[],_,_=>rfl
 |a::A,B,k=>by
  show a.labs.map _++cE (k+1) (A++B)=(a.labs.map _++cE (k+1) A)++_
  rw [rO A B (k+1),NR,OA,O2 1];rfl
theorem nE:∀(A:List ah) (k:Nat),(cE k A).length=(aq A).length
 |[],_=>rfl
 |a::A,k=>by
  show (a.labs.map _++cE (k+1) A).length=(a.labs++aq A).length
  rw [Nu,Nu,Nw,nE A]
noncomputable def Kj:List CS:=[.ite (.cmp (.var 4) .in_ (.var 1)) [.raise_] [],.setIdx (.var 1) (.var 4) (.var 2)]
theorem Dc {ks:List Sg} {vs:List V} {x:Sg} {y:V} (hz:ks.length≤1000) (hx:x∉ks) (hl:ks.length=vs.length):AV (.dct ks vs) (.str x) y=some (.dct (ks++[x]) (vs++[y])):=by
 show (if cX ks.length=true then _ else _)=_
 rw [NP (eV (Nt hz (by decide))),pY hx hl]
theorem Fo {n:Nat} {k A B y:Nr aA} {u:V} {ks:List Sg} {vs:List V} {x:Sg} {d:V} (hk:k=some (.v u)) (hd:decide (x∈ks)=false) (hs:AV (.dct ks vs) (.str x) u=some d):
  bd (run aj (n+20)) (.one 4) Kj (.str x) [A,some (.cell 0),k,B,y] [.dct ks vs]=some (.next,[A,some (.cell 0),k,B,some (.v (.str x))],[d]):=by
 subst hk
 unfold bd Kj
 simp (config:={decide:=false}) only [iY,iU,fv,cO,fM,fH,fC,fL,dS,cZ,c5,fP,d6,fz,fQ,cQ,eY,ig,eZ,fg,bL,i8,cm,b6,aW,df,dH,bA,fR,fy,c8,aZ,cj,dG,dh,fw,et,ft,en,dg,fj,fJ,cz,cN,cB,qO,fA,dq,qH,fB,qN,fD,qK,bQ,cD,dj,dr,br,aV,dt,fe,cP,fq,cF,c9,bY,b7,aI,bp,a0,iX,dE,dF,dv,c7,dA,Pc,O7,NJ,Os,NS,NU,N5,N6,qJ,qT,qX,qI,fF,fp,du,fO,fu,cu,bN,dy,de,cR,dn,cL,bH,dz,bB,bE,bh,bD,bl,bq,aT,b9,ch,bI,bP,bo,i5,gw,iI,fE,fk,dk,i4,i7,cf,dp,bC,c6,bv,bZ,fK,cY,dK,dm,dw,bz,dB,hd,hs]
theorem CV {n:Nat} {u:V} {A B:Nr aA} {labs:List Sg}:∀{ks:List Sg} {vs:List V} {y:Nr aA},ks.length=vs.length→(ks++labs).Nodup→(ks++labs).length≤1000→
  ∃y',fm (bd (run aj (n+20)) (.one 4) Kj) (labs.map .str) [A,some (.cell 0),some (.v u),B,y] [.dct ks vs]=some (.next,[A,some (.cell 0),some (.v u),B,y'],[.dct (ks++labs) (vs++labs.map fun _=>u)]):=by
 induction labs with
 |nil=>exact fun {ks vs y} _ _ _=>⟨y,by rw [NQ,show (vs++S7 (fun _=>u) ([]:List Sg))=vs from NQ vs];rfl⟩
 |cons x labs ih=>
  intro ks vs y hl hn hz
  have hx:x∉ks:=fun m=>(OU.mp hn).2.2 x m x (.head _) rfl
  rw [Qr ks x labs] at hn hz
  obtain ⟨y',e⟩:=ih (ks:=ks++[x]) (vs:=vs++[u]) (y:=some (.v (.str x))) (by rw [Nu,Nu,hl];rfl) hn hz
  rw [Nu,Nu] at hz
  refine ⟨y',?_⟩
  rw [NJ,aQ,Fo rfl (N0 hx) (Dc (Ro (Ro hz)) hx hl),Qr ks x labs,NJ,Qr vs u (labs.map fun _=>u)]
  exact e
noncomputable def L9:List CS:=[.for_ (.one 4) (.seq (.attr (.var 3) .labels)) Kj]
theorem Hd {n k:Nat} {A x y z z':Nr aA} {l:ah} {σ σ':ag} (e:fm (bd (run aj (n+29)) (.one 4) Kj) (l.labs.map .str) [A,some (.cell 0),some (.v (ai k)),some (.v (ay l)),z] σ=some (.next,[A,some (.cell 0),some (.v (ai k)),some (.v (ay l)),z'],σ')):
  bd (run aj (n+30)) (.two 2 3) L9 (qf (l,k)) [A,some (.cell 0),x,y,z] σ=some (.next,[A,some (.cell 0),some (.v (ai k)),some (.v (ay l)),z'],σ'):=by
 unfold bd qf L9
 show ((gT (.two 2 3) (.tup [ai k,ay l]) _).bind _)=_
 simp (config:={decide:=false}) only [iY,iU,fv,cO,fM,fH,fC,fL,dS,cZ,c5,fP,d6,fz,fQ,cQ,eY,ig,eZ,fg,bL,i8,cm,b6,aW,df,dH,bA,fR,fy,c8,aZ,cj,dG,dh,fw,et,ft,en,dg,fj,fJ,cz,cN,cB,qO,fA,dq,qH,fB,qN,fD,qK,bQ,cD,dj,dr,br,aV,dt,fe,cP,fq,cF,c9,bY,b7,aI,bp,a0,iX,dE,dF,dv,c7,dA,Pc,O7,NJ,Os,NS,NU,N5,N6,qJ,qT,qX,qI,fF,fp,du,fO,fu,cu,bN,dy,de,cR,dn,cL,bH,dz,bB,bE,bh,bD,bl,bq,aT,b9,ch,bI,bP,bo,i5,gw,iI,fE,fk,dk,i4,i7,cf,dp,bC,c6,bv,bZ,fK,cY,dK,dm,dw,bz,dB,Kh,uD,aT,AF,e]
theorem AJ {n:Nat} {A:Nr aA}:∀{R D:List ah} {x y z:Nr aA},(aq (D++R)).Nodup→(aq (D++R)).length≤1000→
  ∃x' y' z',fm (bd (run aj (n+30)) (.two 2 3) L9) ((R.zipIdx D.length).map qf) [A,some (.cell 0),x,y,z] [an D]=some (.next,[A,some (.cell 0),x',y',z'],[an (D++R)]):=by
 intro R
 induction R with
 |nil=>exact fun _ _=>⟨_,_,_,by rw [NQ];rfl⟩
 |cons l R ih=>
  intro D x y z hn hz
  rw [Qr D l R] at hn hz
  have hn':=hn
  rw [jt,OU] at hn'
  have h1:=hn'.1
  rw [jt,Nu] at hz
  have z1:=Ro hz
  rw [←Nu,←jt] at hz
  have hl:aq (D++[l])=aq D++l.labs:=(jt D [l]).trans (NC (aq D++ ·) (NQ _))
  rw [hl] at h1 z1
  refine Np fun nG=> ?_
  obtain ⟨z',e⟩:=CV (n:=n+9) (A:=A) (B:=some (.v (ay l))) (u:=ai D.length) (vs:=(cE 0 D).map ai) (y:=z) (by rw [Nw,nE]) h1 z1
  obtain ⟨x',y',z2,e2⟩:=ih (D:=D++[l]) (x:=some (.v (ai D.length))) (y:=some (.v (ay l))) (z:=z') hn hz
  refine nG ?_
  refine ⟨x',y',z2,?_⟩
  rw [Qs,NJ,aQ,an,Hd e,Qr D l R]
  rw [Nu] at e2
  have hp:V.dct (aq D++l.labs) ((cE 0 D).map ai++l.labs.map fun _=>ai D.length)=an (D++[l]):=by
   rw [an,hl,rO,N1]
   show _=V.dct _ (_++((l.labs.map fun _=>0+D.length)++[]).map ai)
   rw [NQ,Ow,OP];rfl
  rw [hp]
  exact e2
theorem jm {L:List ah} (hn:(aq L).Nodup) (hz:(aq L).length≤1000):mH 40 10 [lst L] (an L):=fun n=>by
 refine Np fun nG=> ?_
 obtain ⟨x,y,z,e⟩:=AJ (n:=n+8) (A:=some (.v (lst L))) (R:=L) (D:=[]) (x:=none) (y:=none) (z:=none) hn hz
 refine nG ?_
 refine bV (n:=n+39) (fn:=jL) (ρ:=[some (.v (lst L)),some (.cell 0),x,y,z]) (σ2:=[an L]) (W:= .cell 0) rfl rfl ?_ rfl
 refine av (n:=n+39) (ρ':=[some (.v (lst L)),some (.cell 0),none,none,none]) (σ':=[an []]) (by kernel_rfl) (av (n:=n+39) (ρ':=[some (.v (lst L)),some (.cell 0),x,y,z]) (σ':=[an L]) ?_ (dW (n:=n+38) (by kernel_rfl)))
 show (fm _ (jh 0 (L.map ay)) _ _)=_
 rw [mQ]
 exact e
end
section
noncomputable def it (F:Nat→Nat):Nat→Nat→Nat
 |0,x=>x
 |n+1,x=>it F n (F x)
section
variable {F G:Nat→Nat} {x y e N k i s t:Nat}
theorem qr:∀(m n x:Nat),it F (m+n) x=it F n (it F m x)
 |0,n,x=>NC (it F · x) (Ow n)
 |m+1,n,x=>(NC (it F · x) (Ph m n)).trans (qr m n (F x))
theorem Ds (n x:Nat):it F (n+1) x=F (it F n x):=qr n 1 x
noncomputable def qa (F:Nat→Nat) (x:Nat):Prop:=∃k,it F (k+1) x=x
inductive kJ (F:Nat→Nat):Nat→Nat→Prop
 |here {a:Nat}:qa F a→kJ F a a
 |step {a b:Nat}:¬qa F a→kJ F (F a) b→kJ F a b
theorem qa.fix (h:F x=x):qa F x:=⟨0,h⟩
theorem qa.next (h:qa F x):qa F (F x):=let ⟨k,e⟩:=h;⟨k,(Ds (k+1) x).trans (NC F e)⟩
theorem qa.iter (h:qa F x) (n:Nat):qa F (it F n x):=by
 induction n generalizing x with
 |zero=>exact h
 |succ n ih=>exact ih h.next
theorem qa.mul (h:it F k x=x):∀n,it F (n*k) x=x
 |0=>by rw [Nat.zero_mul];rfl
 |n+1=>by rw [Nat.succ_mul,qr,qa.mul h n,h]
theorem kJ.uniq (a:kJ F x y):∀{e},kJ F x e→e=y:=by
 induction a with
 |here p=>intro e b;cases b with
  |here _=>rfl
  |step q _=>exact (q p).elim
 |step q _ ih=>intro e b;cases b with
  |here p=>exact (q p).elim
  |step _ b=>exact ih b
theorem kJ.per (a:kJ F x e):qa F e:=by induction a with
 |here p=>exact p
 |step _ _ ih=>exact ih
theorem kJ.lt (hb:∀x,x <N→F x <N) (a:kJ F x e):x <N→e <N:=by induction a with
 |here _=>exact id
 |step _ _ ih=>exact fun h=>ih (hb _ h)
theorem Er (hi:i <k) (e:it F k s=it F i s) (t:Nat):i≤t→∃u,i≤u∧u <k∧it F t s=it F u s:=by
 induction t using VG with
 |_ t ih=>
  intro h
  rcases Qt t k with l|l
  ·exact ⟨t,h,l,rfl⟩
  ·obtain ⟨d,rfl⟩:=Q6 l
   refine Np fun nG=> ?_
   obtain ⟨u,h1,h2,h3⟩:=ih (i+d) (PA hi d) (Oj i d)
   refine nG ?_
   exact ⟨u,h1,h2,by rw [←h3,qr,qr,e]⟩
theorem kJ.of (hi:i <k) (e:it F k s=it F i s) (hd:∀a b,a <b→b <k→it F a s≠it F b s):kJ F s (it F i s):=by
 induction i generalizing s k with
 |zero=>
  obtain ⟨d,rfl⟩:=Q6 hi
  exact .here ⟨d,(NC (it F · s) ((O2 d 1).trans (NC (· +d) (Ow 1)).symm)).trans e⟩
 |succ i ih=>
  refine .step (fun ⟨m,q⟩=> ?_) ?_
  ·obtain ⟨u,h1,h2,h3⟩:=Er hi e ((i+1)*(m+1)) (Nat.le_mul_of_pos_right _ (OJ m))
   rw [qa.mul q] at h3
   exact hd 0 u (On (OJ i) h1) h2 h3
  ·obtain ⟨k,rfl⟩:∃j,k=j+1:=Oi (PH (NL (Oe _) hi))
   exact ih (OT hi) e fun a b h1 h2=>hd (a+1) (b+1) (P5 h1) (P5 h2)
theorem Ng:∀{N:Nat} {l:List Nat},l.Nodup→(∀x∈l,x <N)→l.length≤N:=by
 intro N
 induction N with
 |zero=>
  intro l _ h
  cases l with
  |nil=>exact NI _
  |cons a l=>exact absurd (h a (.head _)) (PS a)
 |succ N ih=>
  intro l hn h
  have q:=ih (hn.erase N) fun x m=>Sf (ON (h x (List.mem_of_mem_erase m))) fun z=>by
   subst z
   exact (Wb hn).mp m|>.1 rfl
  rw [List.length_erase] at q
  split at q
  ·exact Nat.le_add_of_sub_le q
  ·exact PO q
theorem G7 (hb:∀x,x <N→F x <N) (h:x <N) (n:Nat):it F n x <N:=by
 induction n generalizing x with
 |zero=>exact h
 |succ n ih=>exact ih (hb x h)
theorem j8 (hb:∀x,x <N→F x <N) (hs:s <N) (hd:∀a b,a <b→b <k→it F a s≠it F b s):k≤N:=by
 have h:((Pf k).map fun i=>it F i s).Nodup:=by
  rw [List.Nodup,Su,Pq]
  intro i j hi hj hij
  rw [Se,Se]
  rw [PP] at hj
  exact hd i j hij hj
 have q:=Ng (N:=N) h fun x m=>by
  obtain ⟨i,w,z⟩:=Op.mp m
  rw [←z]
  exact G7 hb hs i
 rw [Nw,PP] at q
 exact q
theorem kJ.ex (hb:∀x,x <N→F x <N) (hs:s <N):∃e,kJ F s e:=by
 have key:∀d k,d+k=N+1→(∀a b,a <b→b <k→it F a s≠it F b s)→∃e,kJ F s e:=by
  intro d
  induction d with
  |zero=>
   intro k hk hd
   have:=j8 hb hs hd
   rw [Ow] at hk
   rw [hk] at this
   exact absurd this (TU N)
  |succ d ih=>
   intro k hk hd
   by_cases q:∃i,i <k∧it F k s=it F i s
   ·obtain ⟨i,hi,e⟩:=q;exact ⟨_,.of hi e hd⟩
   ·refine ih (k+1) (by rw [←hk,Ph,U3]) fun a b h1 h2=> ?_
    rcases OW (ON h2) with h|h
    ·exact hd a b h1 h
    ·subst h;exact fun z=>q ⟨a,h1,z.symm⟩
 exact key (N+1) 0 rfl fun a b _ h=>absurd h (PS b)
open Classical in
noncomputable def lim (F:Nat→Nat) (x:Nat):Nat:=if h:∃e,kJ F x e then choose h else x
theorem kJ.eq (a:kJ F x e):lim F x=e:=by
 have h:∃e,kJ F x e:=⟨e,a⟩
 unfold lim
 rw [dif_pos h]
 exact a.uniq (Classical.choose_spec h)
structure Bd (F:Nat→Nat) (N:Nat):Prop where
 lt:∀x,x <N→F x <N
 out:∀x,N≤x→F x=x
theorem Bd.lim (B:Bd F N) (x:Nat):kJ F x (lim F x):=by
 rcases Qt x N with h|h
 ·obtain ⟨e,q⟩:=kJ.ex B.lt h;rw [q.eq];exact q
 ·have q:kJ F x x:= .here (.fix (B.out x h));rw [q.eq];exact q
theorem Bd.lim_lt (B:Bd F N) (h:x <N):Internal.lim F x <N:=(B.lim x).lt B.lt h
noncomputable def GZ (F:Nat→Nat) (s k:Nat):Prop:=∀a b,a <b→b <k→it F a s≠it F b s
noncomputable def kY (F:Nat→Nat) (s k:Nat):List Nat:=(Pf k).map fun i=>it F i s
theorem Fv:kY F s (k+1)=kY F s k++[it F k s]:=by rw [kY,Tt,N1];rfl
theorem GZ.in (d:GZ F s k) (h:it F k s∈kY F s k):lim F s=it F k s:=by
 obtain ⟨i,m,e⟩:=Op.mp h
 rw [←e]
 exact (kJ.of (Qp.mp m) e.symm d).eq
theorem GZ.more (d:GZ F s k) (h:it F k s∉kY F s k):GZ F s (k+1):=fun a b h1 h2=>by
 rcases OW (ON h2) with l|l
 ·exact d a b h1 l
 ·subst l;exact fun z=>h (Op.mpr ⟨a,Qp.mpr h1,z⟩)
theorem GZ.stop (d:GZ F s k) (h:it F k s∉kY F s k) (e:F (it F k s)=it F k s):lim F s=it F k s:=
 (kJ.of (OM k) ((Ds k s).trans e) (d.more h)).eq
theorem Bd.idem (B:Bd F N) (x:Nat):Internal.lim F (Internal.lim F x)=Internal.lim F x:=(kJ.here (B.lim x).per).eq
theorem kJ.key (B:Bd F N) (ht:G t=Internal.lim F (F t)) (ho:∀x,x≠t→G x=F x) (x:Nat):Internal.lim G x=Internal.lim F x:=by
 by_cases pt:qa F t
 ·have:G=F:=funext fun x=>by
   by_cases h:x=t
   ·rw [h,ht];exact (kJ.here pt.next).eq
   ·exact ho x h
  rw [this]
 have keep:∀{x},qa F x→∀n,it G n x=it F n x:=fun {x} p n=>by
  induction n generalizing x with
  |zero=>rfl
  |succ n ih=>
   have:G x=F x:=ho x fun z=>pt (z▸p)
   show it G n (G x)=it F n (F x)
   rw [this];exact ih p.next
 have up:∀{x},qa F x→qa G x:=fun p=>let ⟨k,e⟩:=p;⟨k,(keep p (k+1)).trans e⟩
 have pe:qa F (G t):=ht▸(B.lim _).per
 have tG:¬qa G t:=fun ⟨k,e⟩=>pt (by
  have:it G k (G t)=t:=e
  rw [keep pe] at this
  exact this▸pe.iter k)
 have down:∀{x},qa G x→qa F x:=fun {x} p=>by
  obtain ⟨k,e⟩:=p
  have no:∀j,it G j x≠t:=fun j z=>tG (z▸qa.iter ⟨k,e⟩ j)
  have same:∀j,it G j x=it F j x:=fun j=>by
   induction j with
   |zero=>rfl
   |succ j ih=>rw [Ds,Ds,←ih];exact ho _ (no j)
  exact ⟨k,(same (k+1)).symm.trans e⟩
 have go:∀{x e},kJ F x e→kJ G x e:=fun {x e} a=>by
  induction a with
  |here p=>exact .here (up p)
  | @step x e q b ih=>
   refine .step (fun p=>q (down p)) ?_
   by_cases h:x=t
   ·subst h
    rw [ht,b.eq]
    exact .here (up b.per)
   ·rw [ho x h];exact ih
 exact (go (B.lim x)).eq
end
end
section
open PySem
set_option tactic.hygienic false
noncomputable def place:List ah→Sg→Nr Nat
 |[],_=>none
 |l::L,x=>if x∈l.labs then some 0 else (place L x).map (· +1)
theorem vx {x:Sg} {ks:List Sg} {vs:List V} {u:V}:∀labs:List Sg,f0 (labs++ks) ((labs.map fun _=>u)++vs) x=if x∈labs then some u else f0 ks vs x
 |[]=>rfl
 |y::labs=>by
  show (if y=x then some u else f0 (labs++ks) ((labs.map fun _=>u)++vs) x)=_
  rw [vx labs]
  by_cases h:y=x
  ·rw [NP h,NP (h▸ .head _)]
  ·rw [N4 h]
   by_cases m:x∈labs
   ·rw [NP m,NP (.tail _ m)]
   ·rw [N4 m,N4 fun z=>(NW.mp z).elim (fun e=>h e.symm) m]
theorem lF {x:Sg}:∀(L:List ah) (k:Nat),f0 (aq L) ((cE k L).map ai) x=(place L x).map fun i=>ai (k+i)
 |[],_=>rfl
 |l::L,k=>by
  show f0 (l.labs++aq L) ((l.labs.map (fun _=>k)++cE (k+1) L).map ai) x=_
  rw [N1,OP,show (ai∘fun (_:Sg)=>k)=fun _=>ai k from rfl,vx,lF L,place]
  by_cases h:x∈l.labs
  ·rw [NP h,NP h];rfl
  ·rw [N4 h,N4 h]
   cases place L x with
   |none=>rfl
   |some i=>show some (ai (k+1+i))=some (ai (k+(i+1)));rw [OA,O2 1]
theorem iC {x:Sg}:∀{L:List ah} {p:Nat},place L x=some p→∃l,L[p]? =some l∧x∈l.labs
 |[],_,h=>nomatch h
 |l::L,p,h=>by
  unfold place at h
  by_cases m:x∈l.labs
  ·rw [NP m] at h;cases h;exact ⟨l,rfl,m⟩
  ·rw [N4 m] at h
   cases q:place L x with
   |none=>rw [q] at h;cases h
   |some i=>rw [q] at h;cases h;obtain ⟨l',h1,h2⟩:=iC q;exact ⟨l',h1,h2⟩
theorem ik {x:Sg}:∀{L:List ah},decide (x∈aq L)=(place L x).isSome
 |[]=>rfl
 |l::L=>by
  have:decide (x∈aq (l::L))=(decide (x∈l.labs)||decide (x∈aq L)):=by
   rw [←VK];exact O4.mpr NG
  rw [this,ik,place]
  by_cases m:x∈l.labs
  ·rw [NP m,NF m];rfl
  ·rw [N4 m,N0 m];cases place L x<;>rfl
theorem oP {x:Sg} {l:ah}:∀{L:List ah} {p:Nat},L[p]? =some l→x∈l.labs→x∈aq L
 |[],_,h,_=>nomatch h
 |a::L,0,h,m=>NG.mpr (.inl (by cases h;exact m))
 |a::L,p+1,h,m=>NG.mpr (.inr (oP (L:=L) (p:=p) h m))
theorem lZ {x:Sg} {l:ah}:∀{L:List ah} {p:Nat},(aq L).Nodup→L[p]? =some l→x∈l.labs→place L x=some p
 |[],_,_,h,_=>nomatch h
 |a::L,0,_,h,m=>by cases h;exact NP m
 |a::L,p+1,hn,h,m=>by
  have q:=OU.mp hn
  have:x∉a.labs:=fun z=>q.2.2 x z x (oP (L:=L) h m) rfl
  show (if _ then _ else _)=_
  rw [N4 this,lZ q.2.1 h m];rfl
theorem fi {L:List ah} {x:Sg} {p:Nat} (h:place L x=some p):p <L.length:=let ⟨_,h1,_⟩:=iC h;(NA.mp h1).1
theorem lQ {L:List ah} {x:Sg} (h:x∉aq L):place L x=none:=by
 have:=ik (x:=x) (L:=L)
 rw [N0 h] at this
 cases q:place L x with
 |none=>rfl
 |some p=>rw [q] at this;cases this
theorem pT {L:List ah} {x:Sg} {p:Nat} (h:place L x=some p):i3 (an L) (.str x)=some (ai p):=by
 show f0 (aq L) ((cE 0 L).map ai) x=_
 rw [lF,h]
 show some (ai (0+p))=_
 rw [Ow]
theorem vp {L:List ah} {x:Sg}:Dg (.str x) (an L)=some (place L x).isSome:=(bP _ _ _).trans (NC some ik)
structure cK (L:List ah):Prop where
 pos:0 <L.length
 row:∀i,i+1 <L.length→∃ls x,L[i]? =some ⟨ls,some x⟩
 last:∀i l,i+1=L.length→L[i]? =some l→l.ins=none
theorem cK.next {L:List ah} (S:cK L) {i:Nat} {ls:List Sg} {x:cq} (h:L[i]? =some ⟨ls,some x⟩):i+1 <L.length:=by
 have:=(NA.mp h).1
 rcases OW (Sv this) with h'|h'
 ·exact h'
 ·exact nomatch S.last i _ h' h
noncomputable def jF (L:List ah) (x:Nat):Nat:=match L[x]? with
 |some l=>bif oE l.ins then (place L (bg l.ins)).getD x else x
 |none=>x
noncomputable def gF (L:List ah) (c:Nr Cc) (y:Nat):Nat:=match L[y]? with
 |some l=>if jN c (eG l.ins)=1 then (match place L (bg l.ins) with
   |some p=>lim (jF L) p
   |none=>y) else if jN c (eG l.ins)=0 then lim (jF L) (y+1) else y
 |none=>y
noncomputable def fol (L:List ah) (c:Nr Cc) (p:Nat):Nat:=lim (gF L c) (lim (jF L) p)
theorem mB (L:List ah):Bd (jF L) L.length where
 lt:=fun x h=>by
  unfold jF
  rw [NB h]
  show (bif oE L[x].ins then (place L (bg L[x].ins)).getD x else x) <_
  cases oE L[x].ins with
  |false=>exact h
  |true=>
   show (place L (bg L[x].ins)).getD x <_
   cases q:place L (bg L[x].ins) with
   |none=>exact h
   |some p=>exact fi q
 out:=fun x h=>by unfold jF;rw [O0 h]
theorem vL (c:Nr Cc):jN c none= -1:=by cases c<;>rfl
theorem vr {L:List ah} (S:cK L) (c:Nr Cc):Bd (gF L c) L.length where
 lt:=fun x h=>by
  unfold gF
  rw [NB h]
  show (if jN c (eG L[x].ins)=1 then (match place L (bg L[x].ins) with
   |some p=>lim (jF L) p
   |none=>x) else if jN c (eG L[x].ins)=0 then lim (jF L) (x+1) else x) <_
  split
  ·split
   ·rename_i q;exact (mB L).lim_lt (fi q)
   ·exact h
  ·split
   ·rename_i q
    refine (mB L).lim_lt ?_
    rcases OW (Sv h) with h'|h'
    ·exact h'
    ·have:=S.last x _ h' (NB h)
     rw [this] at q
     rw [show eG none=none from rfl,vL] at q
     cases q
   ·exact h
 out:=fun x h=>by unfold gF;rw [O0 h]
theorem Em {L:List ah} {x:Nat} {l:ah} (h:L[x]? =some l) (q:(oE l.ins&&(place L (bg l.ins)).isSome)=false):jF L x=x:=by
 unfold jF
 rw [h]
 show (bif oE l.ins then (place L (bg l.ins)).getD x else x)=x
 cases e:oE l.ins with
 |false=>rfl
 |true=>
  rw [e] at q
  cases e2:place L (bg l.ins) with
  |none=>rfl
  |some p=>rw [e2] at q;cases q
theorem Kq {L:List ah} {x p:Nat} {l:ah} (h:L[x]? =some l) (j:oE l.ins=true) (q:place L (bg l.ins)=some p):jF L x=p:=by
 unfold jF
 rw [h]
 show (bif oE l.ins then (place L (bg l.ins)).getD x else x)=p
 rw [j,q];rfl
noncomputable def Lx:CE:= .and [(.cmp (.var 2) .nin (.var 3)),(.callF 7 [(.attr (.idx (.var 0) (.var 2)) .instruction)]),(.cmp (.callF 5 [(.attr (.idx (.var 0) (.var 2)) .instruction)]) .in_ (.var 1))]
noncomputable def Lr:List CS:=[.expr (.callS .append (.var 3) [(.var 2)]),.assign 2 (.idx (.var 1) (.callF 5 [(.attr (.idx (.var 0) (.var 2)) .instruction)]))]
section
variable {n x p:Nat} {L:List ah} {S:List Nat} {l:ah}
theorem Ft (h:L[x]? =some l):cv (run aj (n+50)) Lx [some (.v (lst L)),some (.v (an L)),some (.v (ai x)),some (.cell 0)] [.lst (S.map ai)]=
  some (!(decide (x∈S))&&(oE l.ins&&(place L (bg l.ins)).isSome),[.lst (S.map ai)]):=by
 unfold Lx
 simp (config:={decide:=false}) only [iY,iU,fv,cO,fM,fH,fC,fL,dS,cZ,c5,fP,d6,fz,fQ,cQ,eY,ig,eZ,fg,bL,i8,cm,b6,aW,df,dH,bA,fR,fy,c8,aZ,cj,dG,dh,fw,et,ft,en,dg,fj,fJ,cz,cN,cB,qO,fA,dq,qH,fB,qN,fD,qK,bQ,cD,dj,dr,br,aV,dt,fe,cP,fq,cF,c9,bY,b7,aI,bp,a0,iX,dE,dF,dv,c7,dA,Pc,O7,NJ,Os,NS,NU,N5,N6,qJ,qT,qX,qI,fF,fp,du,fO,fu,cu,bN,dy,de,cR,dn,cL,bH,dz,bB,bE,bh,bD,bl,bq,aT,b9,ch,bI,bP,bo,i5,gw,iI,fE,fk,dk,i4,i7,cf,dp,bC,c6,bv,bZ,fK,cY,dK,dm,dw,bz,dB,iG h,gP (x6 _ _),gP (iB _ _),vp]
 cases decide (x∈S)<;>cases oE l.ins<;>rfl
theorem FQ (h:L[x]? =some l) (hp:place L (bg l.ins)=some p) (hz:cX ((S.map ai).length+1)=true):aH (run aj (n+50)) Lr [some (.v (lst L)),some (.v (an L)),some (.v (ai x)),some (.cell 0)] [.lst (S.map ai)]=
  some (.next,[some (.v (lst L)),some (.v (an L)),some (.v (ai p)),some (.cell 0)],[.lst ((S++[x]).map ai)]):=by
 unfold Lr
 simp (config:={decide:=false}) only [iY,iU,fv,cO,fM,fH,fC,fL,dS,cZ,c5,fP,d6,fz,fQ,cQ,eY,ig,eZ,fg,bL,i8,cm,b6,aW,df,dH,bA,fR,fy,c8,aZ,cj,dG,dh,fw,et,ft,en,dg,fj,fJ,cz,cN,cB,qO,fA,dq,qH,fB,qN,fD,qK,bQ,cD,dj,dr,br,aV,dt,fe,cP,fq,cF,c9,bY,b7,aI,bp,a0,iX,dE,dF,dv,c7,dA,Pc,O7,NJ,Os,NS,NU,N5,N6,qJ,qT,qX,qI,fF,fp,du,fO,fu,cu,bN,dy,de,cR,dn,cL,bH,dz,bB,bE,bh,bD,bl,bq,aT,b9,ch,bI,bP,bo,i5,gw,iI,fE,fk,dk,i4,i7,cf,dp,bC,c6,bv,bZ,fK,cY,dK,dm,dw,bz,dB,iG h,gP (iB _ _),pT hp,hz,N1]
end
theorem Ht {F:Nat→Nat} {N s:Nat} {test:Loc→ag→Nr (Bool×ag)} {body:Loc→ag→tB} {I:Nat→List Nat→Loc→ag→Prop} (B:Bd F N) (hs:s <N)
  (h:∀x S ρ σ,x <N→S.length≤N→I x S ρ σ→∃b,test ρ σ=some (b,σ)∧bif b then x∉S∧∃o ρ' σ',body ρ σ=some (o,ρ',σ')∧((o= .next∧I (F x) (S++[x]) ρ' σ')∨(o= .ret (.v (ai x))∧F x=x)) else (x∉S→F x=x)):
  ∀d k M ρ σ,d+k=N+1→d <M→GZ F s k→I (it F k s) (kY F s k) ρ σ→∃o ρ' σ',fW test body M ρ σ=some (o,ρ',σ')∧((o= .next∧∃S,I (lim F s) S ρ' σ')∨o= .ret (.v (ai (lim F s)))):=by
 intro d
 induction d with
 |zero=>
  intro k M _ _ hk _ hd _
  rw [Ow] at hk
  refine Np fun nG=> ?_
  subst hk
  refine nG ?_
  exact absurd (j8 B.lt hs hd) (TU _)
 |succ d ih=>
  intro k M ρ σ hk hM hd hI
  obtain ⟨M,rfl⟩:∃j,M=j+1:=Oi (PH (NL (Oe _) hM))
  obtain ⟨b,e,q⟩:=h _ _ ρ σ (G7 B.lt hs k) (by rw [kY,Nw,PP];exact j8 B.lt hs hd) hI
  show∃o ρ' σ',(test ρ σ).bind _=_∧_
  rw [e]
  cases b with
  |false=>
   refine ⟨_,_,_,rfl,.inl ⟨rfl,kY F s k,?_⟩⟩
   have:lim F s=it F k s:=Decidable.byCases (fun m:it F k s∈kY F s k=>hd.in m) fun m=>hd.stop m (q m)
   exact this▸hI
  |true=>
   refine Np fun nG=> ?_
   obtain ⟨m,o,ρ',σ',e2,q⟩:=q
   refine nG ?_
   show∃o ρ' σ',(body ρ σ).bind _=_∧_
   rw [e2]
   rcases q with ⟨rfl,q⟩|⟨rfl,q⟩
   ·rw [←Ds (F:=F) k s,←Fv] at q
    exact ih (k+1) M ρ' σ' (by rw [←hk,Ph,U3]) (OT hM) (hd.more m) q
   ·exact ⟨_,_,_,rfl,.inr (NC (fun z=>fc.ret (.v (ai z))) (hd.stop m q).symm)⟩
theorem G6 {F:Nat→Nat} {N s:Nat} {test:Loc→ag→Nr (Bool×ag)} {body:Loc→ag→tB} {I:Nat→List Nat→Loc→ag→Prop} (B:Bd F N) (hs:s <N) (hN:N≤1000)
  (h:∀x S ρ σ,x <N→S.length≤N→I x S ρ σ→∃b,test ρ σ=some (b,σ)∧bif b then x∉S∧∃o ρ' σ',body ρ σ=some (o,ρ',σ')∧((o= .next∧I (F x) (S++[x]) ρ' σ')∨(o= .ret (.v (ai x))∧F x=x)) else (x∉S→F x=x))
  {ρ:Loc} {σ:ag} (hI:I s [] ρ σ):∃o ρ' σ',fW test body turns ρ σ=some (o,ρ',σ')∧((o= .next∧∃S,I (lim F s) S ρ' σ')∨o= .ret (.v (ai (lim F s)))):=
 Ht B hs h (N+1) 0 turns ρ σ rfl (NL (NX hN) (by decide)) (fun a b _ h=>absurd h (PS b)) hI
theorem x0 {S:List Nat} {N:Nat} (h:S.length≤N) (hl:N≤1000):cX ((S.map ai).length+1)=true:=by
 rw [Nw]
 exact eV (Nt (NX (Nt h hl)) (by decide))
theorem nq {s:Nat} {L:List ah} (hs:s <L.length) (hl:L.length≤1000):oo 60 15 [lst L,an L,ai s] (ai (lim (jF L) s)):=fun n=>by
 refine Np fun nG=> ?_
 obtain ⟨o,ρ',σ',e,q⟩:=G6 (test:=cv (run aj (n+58)) Lx) (body:=aH (run aj (n+58)) Lr) (I:=fun x S ρ σ=>ρ=[some (.v (lst L)),some (.v (an L)),some (.v (ai x)),some (.cell 0)]∧σ=[.lst (S.map ai)])
  (mB L) hs hl (fun x S ρ σ hx hz ⟨h1,h2⟩=>by
   subst h1;subst h2
   have h:=NB hx
   refine ⟨_,Ft h,?_⟩
   by_cases m:x∈S
   ·rw [NF m];exact fun z=>(z m).elim
   rw [N0 m]
   cases q:(oE L[x].ins&&(place L (bg L[x].ins)).isSome) with
   |false=>exact fun _=>Em h q
   |true=>
    have q:=Nz.mp q
    obtain ⟨p,hp⟩:=Oq.mp q.2
    exact ⟨m,_,_,_,FQ h hp (x0 hz hl),.inl ⟨rfl,by rw [Kq h q.1 hp],rfl⟩⟩)
  (ρ:=[some (.v (lst L)),some (.v (an L)),some (.v (ai s)),some (.cell 0)]) (σ:=[.lst []]) ⟨rfl,rfl⟩
 refine nG ?_
 have fin:∀{r},aH (run aj (n+59)) [.while_ Lx Lr,.ret (.var 2)] [some (.v (lst L)),some (.v (an L)),some (.v (ai s)),some (.cell 0)] [.lst []]=some r→r.1= .ret (.v (ai (lim (jF L) s)))→(run aj (n+60)).c 15 [.v (lst L),.v (an L),.v (ai s)] []=some (.ok (.v (ai (lim (jF L) s))),[]):=fun {r} e h=>by
  refine Np fun nG=> ?_
  obtain ⟨o,ρ,σ⟩:=r
  cases h
  refine nG ?_
  exact bV (n:=n+59) (fn:=nW) (W:= .v _) rfl rfl (av (n:=n+59) (ρ':=[some (.v (lst L)),some (.v (an L)),some (.v (ai s)),some (.cell 0)]) (σ':=[.lst []]) (by kernel_rfl) e) rfl
 rcases q with ⟨rfl,S,rfl,rfl⟩|rfl
 ·exact fin (show (NT (fW _ _ _ _ _) _)=_ by rw [e];rfl) rfl
 ·exact fin (show (NT (fW _ _ _ _ _) _)=_ by rw [e];rfl) rfl
theorem Di {n:Nat} {c:CS} {cs:List CS} {ρ ρ':Loc} {σ σ':ag} (h:(run aj n).s c ρ σ=some (.next,ρ',σ')):aH (run aj n) (c::cs) ρ σ=aH (run aj n) cs ρ' σ':=by
 show ((run aj n).s c ρ σ).bind _=_
 rw [h];rfl
theorem iV {E:Ev} {c:CS} {ρ:Loc} {σ:ag}:aH E [c] ρ σ=E.s c ρ σ:=by
 show (E.s c ρ σ).bind _=_
 cases E.s c ρ σ with
 |none=>rfl
 |some r=>obtain ⟨o,ρ,σ⟩:=r;cases o<;>rfl
noncomputable def Lv:CE:= .cmp (.var 2) .nin (.var 4)
noncomputable def GL:List CS:=[.expr (.callS .append (.var 4) [(.var 2)]),
  .assign 5 (.attr (.idx (.var 0) (.var 2)) .instruction),
  .assign 6 (.callF 14 [(.var 3),(.callF 6 [(.var 5)])]),
  .ite (.and [(.cmp (.var 6) .eq (.cst (.int 1))),(.cmp (.callF 5 [(.var 5)]) .in_ (.var 1))])
   [.assign 2 (.callF 15 [(.var 0),(.var 1),(.idx (.var 1) (.callF 5 [(.var 5)]))])]
   [.ite (.cmp (.var 6) .eq (.cst (.int 0)))
    [.assign 2 (.callF 15 [(.var 0),(.var 1),(.bin .add (.var 2) (.cst (.int 1)))])]
    [.ret (.var 2)]]]
noncomputable def m9 (L:List ah) (x:Nat) (c:Nr Cc) (r5 r6:Nr aA):Loc:=[some (.v (lst L)),some (.v (an L)),some (.v (ai x)),some (.v (.str (ku c))),some (.cell 0),r5,r6]
section
variable {n x p:Nat} {L:List ah} {S:List Nat} {l:ah} {c:Nr Cc} {r5 r6:Nr aA}
theorem EU:cv (run aj (n+100)) Lv (m9 L x c r5 r6) [.lst (S.map ai)]=some (!(decide (x∈S)),[.lst (S.map ai)]):=by
 unfold Lv m9
 simp (config:={decide:=false}) only [iY,iU,fv,cO,fM,fH,fC,fL,dS,cZ,c5,fP,d6,fz,fQ,cQ,eY,ig,eZ,fg,bL,i8,cm,b6,aW,df,dH,bA,fR,fy,c8,aZ,cj,dG,dh,fw,et,ft,en,dg,fj,fJ,cz,cN,cB,qO,fA,dq,qH,fB,qN,fD,qK,bQ,cD,dj,dr,br,aV,dt,fe,cP,fq,cF,c9,bY,b7,aI,bp,a0,iX,dE,dF,dv,c7,dA,Pc,O7,NJ,Os,NS,NU,N5,N6,qJ,qT,qX,qI,fF,fp,du,fO,fu,cu,bN,dy,de,cR,dn,cL,bH,dz,bB,bE,bh,bD,bl,bq,aT,b9,ch,bI,bP,bo,i5,gw,iI,fE,fk,dk,i4,i7,cf,dp,bC,c6,bv,bZ,fK,cY,dK,dm,dw,bz,dB]
theorem wS {cs:List CS} (h:L[x]? =some l) (hz:cX ((S.map ai).length+1)=true):aH (run aj (n+100)) (.expr (.callS .append (.var 4) [(.var 2)]):: .assign 5 (.attr (.idx (.var 0) (.var 2)) .instruction):: .assign 6 (.callF 14 [(.var 3),(.callF 6 [(.var 5)])])::cs) (m9 L x c r5 r6) [.lst (S.map ai)]=
  aH (run aj (n+100)) cs (m9 L x c (some (.v (aS l.ins))) (some (.v (.int (jN c (eG l.ins)))))) [.lst ((S++[x]).map ai)]:=by
 rw [Di (n:=n+100) (ρ':=m9 L x c r5 r6) (σ':=[.lst ((S++[x]).map ai)]),Di (n:=n+100) (ρ':=m9 L x c (some (.v (aS l.ins))) r6) (σ':=[.lst ((S++[x]).map ai)]),Di (n:=n+100) (ρ':=m9 L x c (some (.v (aS l.ins))) (some (.v (.int (jN c (eG l.ins)))))) (σ':=[.lst ((S++[x]).map ai)])]
 ·unfold m9
  simp (config:={decide:=false}) only [iY,iU,fv,cO,fM,fH,fC,fL,dS,cZ,c5,fP,d6,fz,fQ,cQ,eY,ig,eZ,fg,bL,i8,cm,b6,aW,df,dH,bA,fR,fy,c8,aZ,cj,dG,dh,fw,et,ft,en,dg,fj,fJ,cz,cN,cB,qO,fA,dq,qH,fB,qN,fD,qK,bQ,cD,dj,dr,br,aV,dt,fe,cP,fq,cF,c9,bY,b7,aI,bp,a0,iX,dE,dF,dv,c7,dA,Pc,O7,NJ,Os,NS,NU,N5,N6,qJ,qT,qX,qI,fF,fp,du,fO,fu,cu,bN,dy,de,cR,dn,cL,bH,dz,bB,bE,bh,bD,bl,bq,aT,b9,ch,bI,bP,bo,i5,gw,iI,fE,fk,dk,i4,i7,cf,dp,bC,c6,bv,bZ,fK,cY,dK,dm,dw,bz,dB,gP (qj _ _),xV (Gh _ _ _)]
 ·unfold m9
  simp (config:={decide:=false}) only [iY,iU,fv,cO,fM,fH,fC,fL,dS,cZ,c5,fP,d6,fz,fQ,cQ,eY,ig,eZ,fg,bL,i8,cm,b6,aW,df,dH,bA,fR,fy,c8,aZ,cj,dG,dh,fw,et,ft,en,dg,fj,fJ,cz,cN,cB,qO,fA,dq,qH,fB,qN,fD,qK,bQ,cD,dj,dr,br,aV,dt,fe,cP,fq,cF,c9,bY,b7,aI,bp,a0,iX,dE,dF,dv,c7,dA,Pc,O7,NJ,Os,NS,NU,N5,N6,qJ,qT,qX,qI,fF,fp,du,fO,fu,cu,bN,dy,de,cR,dn,cL,bH,dz,bB,bE,bh,bD,bl,bq,aT,b9,ch,bI,bP,bo,i5,gw,iI,fE,fk,dk,i4,i7,cf,dp,bC,c6,bv,bZ,fK,cY,dK,dm,dw,bz,dB,iG h]
 ·unfold m9
  simp (config:={decide:=false}) only [iY,iU,fv,cO,fM,fH,fC,fL,dS,cZ,c5,fP,d6,fz,fQ,cQ,eY,ig,eZ,fg,bL,i8,cm,b6,aW,df,dH,bA,fR,fy,c8,aZ,cj,dG,dh,fw,et,ft,en,dg,fj,fJ,cz,cN,cB,qO,fA,dq,qH,fB,qN,fD,qK,bQ,cD,dj,dr,br,aV,dt,fe,cP,fq,cF,c9,bY,b7,aI,bp,a0,iX,dE,dF,dv,c7,dA,Pc,O7,NJ,Os,NS,NU,N5,N6,qJ,qT,qX,qI,fF,fp,du,fO,fu,cu,bN,dy,de,cR,dn,cL,bH,dz,bB,bE,bh,bD,bl,bq,aT,b9,ch,bI,bP,bo,i5,gw,iI,fE,fk,dk,i4,i7,cf,dp,bC,c6,bv,bZ,fK,cY,dK,dm,dw,bz,dB,hz,N1]
theorem Ci {b1 b2:Bool} (h1:decide (jN c (eG l.ins)=1)=b1) (h2:(place L (bg l.ins)).isSome=b2) {σ:ag}:cv (run aj (n+99)) (.and [(.cmp (.var 6) .eq (.cst (.int 1))),(.cmp (.callF 5 [(.var 5)]) .in_ (.var 1))]) (m9 L x c (some (.v (aS l.ins))) (some (.v (.int (jN c (eG l.ins)))))) σ=some (b1&&b2,σ):=by
 unfold m9
 simp (config:={decide:=false}) only [iY,iU,fv,cO,fM,fH,fC,fL,dS,cZ,c5,fP,d6,fz,fQ,cQ,eY,ig,eZ,fg,bL,i8,cm,b6,aW,df,dH,bA,fR,fy,c8,aZ,cj,dG,dh,fw,et,ft,en,dg,fj,fJ,cz,cN,cB,qO,fA,dq,qH,fB,qN,fD,qK,bQ,cD,dj,dr,br,aV,dt,fe,cP,fq,cF,c9,bY,b7,aI,bp,a0,iX,dE,dF,dv,c7,dA,Pc,O7,NJ,Os,NS,NU,N5,N6,qJ,qT,qX,qI,fF,fp,du,fO,fu,cu,bN,dy,de,cR,dn,cL,bH,dz,bB,bE,bh,bD,bl,bq,aT,b9,ch,bI,bP,bo,i5,gw,iI,fE,fk,dk,i4,i7,cf,dp,bC,c6,bv,bZ,fK,cY,dK,dm,dw,bz,dB,gP (iB _ _),h1,vp,h2]
 cases b1<;>rfl
theorem GC {b:Bool} (h0:decide (jN c (eG l.ins)=0)=b) {σ:ag}:cv (run aj (n+98)) (.cmp (.var 6) .eq (.cst (.int 0))) (m9 L x c (some (.v (aS l.ins))) (some (.v (.int (jN c (eG l.ins)))))) σ=some (b,σ):=by
 unfold m9
 simp (config:={decide:=false}) only [iY,iU,fv,cO,fM,fH,fC,fL,dS,cZ,c5,fP,d6,fz,fQ,cQ,eY,ig,eZ,fg,bL,i8,cm,b6,aW,df,dH,bA,fR,fy,c8,aZ,cj,dG,dh,fw,et,ft,en,dg,fj,fJ,cz,cN,cB,qO,fA,dq,qH,fB,qN,fD,qK,bQ,cD,dj,dr,br,aV,dt,fe,cP,fq,cF,c9,bY,b7,aI,bp,a0,iX,dE,dF,dv,c7,dA,Pc,O7,NJ,Os,NS,NU,N5,N6,qJ,qT,qX,qI,fF,fp,du,fO,fu,cu,bN,dy,de,cR,dn,cL,bH,dz,bB,bE,bh,bD,bl,bq,aT,b9,ch,bI,bP,bo,i5,gw,iI,fE,fk,dk,i4,i7,cf,dp,bC,c6,bv,bZ,fK,cY,dK,dm,dw,bz,dB,h0]
theorem Hl (h:L[x]? =some l) (h1:decide (jN c (eG l.ins)=1)=true) (hp:place L (bg l.ins)=some p) (hl:L.length≤1000) (hz:cX ((S.map ai).length+1)=true):aH (run aj (n+100)) GL (m9 L x c r5 r6) [.lst (S.map ai)]=
  some (.next,m9 L (lim (jF L) p) c (some (.v (aS l.ins))) (some (.v (.int (jN c (eG l.ins))))),[.lst ((S++[x]).map ai)]):=by
 unfold GL
 rw [wS h hz,iV,iU,cF,Ci h1 (b2:=true) (by rw [hp];rfl)]
 show aH _ [_] _ _=_
 rw [iV]
 unfold m9
 simp (config:={decide:=false}) only [iY,iU,fv,cO,fM,fH,fC,fL,dS,cZ,c5,fP,d6,fz,fQ,cQ,eY,ig,eZ,fg,bL,i8,cm,b6,aW,df,dH,bA,fR,fy,c8,aZ,cj,dG,dh,fw,et,ft,en,dg,fj,fJ,cz,cN,cB,qO,fA,dq,qH,fB,qN,fD,qK,bQ,cD,dj,dr,br,aV,dt,fe,cP,fq,cF,c9,bY,b7,aI,bp,a0,iX,dE,dF,dv,c7,dA,Pc,O7,NJ,Os,NS,NU,N5,N6,qJ,qT,qX,qI,fF,fp,du,fO,fu,cu,bN,dy,de,cR,dn,cL,bH,dz,bB,bE,bh,bD,bl,bq,aT,b9,ch,bI,bP,bo,i5,gw,iI,fE,fk,dk,i4,i7,cf,dp,bC,c6,bv,bZ,fK,cY,dK,dm,dw,bz,dB,gP (iB _ _),pT hp,sP (nq (fi hp) hl _)]
theorem HG (h:L[x]? =some l) (h1:decide (jN c (eG l.ins)=1)=false) (h0:decide (jN c (eG l.ins)=0)=true) (hp:x+1 <L.length) (hl:L.length≤1000) (hz:cX ((S.map ai).length+1)=true):aH (run aj (n+100)) GL (m9 L x c r5 r6) [.lst (S.map ai)]=
  some (.next,m9 L (lim (jF L) (x+1)) c (some (.v (aS l.ins))) (some (.v (.int (jN c (eG l.ins))))),[.lst ((S++[x]).map ai)]):=by
 unfold GL
 rw [wS h hz,iV,iU,cF,Ci h1 rfl]
 show aH _ [_] _ _=_
 rw [iV,iU,cF,GC h0]
 unfold m9
 simp (config:={decide:=false}) only [iY,iU,fv,cO,fM,fH,fC,fL,dS,cZ,c5,fP,d6,fz,fQ,cQ,eY,ig,eZ,fg,bL,i8,cm,b6,aW,df,dH,bA,fR,fy,c8,aZ,cj,dG,dh,fw,et,ft,en,dg,fj,fJ,cz,cN,cB,qO,fA,dq,qH,fB,qN,fD,qK,bQ,cD,dj,dr,br,aV,dt,fe,cP,fq,cF,c9,bY,b7,aI,bp,a0,iX,dE,dF,dv,c7,dA,Pc,O7,NJ,Os,NS,NU,N5,N6,qJ,qT,qX,qI,fF,fp,du,fO,fu,cu,bN,dy,de,cR,dn,cL,bH,dz,bB,bE,bh,bD,bl,bq,aT,b9,ch,bI,bP,bo,i5,gw,iI,fE,fk,dk,i4,i7,cf,dp,bC,c6,bv,bZ,fK,cY,dK,dm,dw,bz,dB,yd,sP (nq hp hl _)]
theorem IH (h:L[x]? =some l) (h1:(decide (jN c (eG l.ins)=1)&&(place L (bg l.ins)).isSome)=false) (h0:decide (jN c (eG l.ins)=0)=false) (hz:cX ((S.map ai).length+1)=true):aH (run aj (n+100)) GL (m9 L x c r5 r6) [.lst (S.map ai)]=
  some (.ret (.v (ai x)),m9 L x c (some (.v (aS l.ins))) (some (.v (.int (jN c (eG l.ins))))),[.lst ((S++[x]).map ai)]):=by
 unfold GL
 rw [wS h hz,iV,iU,cF,Ci rfl rfl,h1]
 show aH _ [_] _ _=_
 rw [iV,iU,cF,GC h0]
 rfl
end
theorem MB {L:List ah} {x p:Nat} {l:ah} {c:Nr Cc} (h:L[x]? =some l) (h1:jN c (eG l.ins)=1) (hp:place L (bg l.ins)=some p):gF L c x=lim (jF L) p:=by
 unfold gF
 rw [h]
 show (if jN c (eG l.ins)=1 then _ else _)=_
 rw [NP h1,hp]
theorem Mu {L:List ah} {x:Nat} {l:ah} {c:Nr Cc} (h:L[x]? =some l) (h1:jN c (eG l.ins)=0):gF L c x=lim (jF L) (x+1):=by
 unfold gF
 rw [h]
 show (if jN c (eG l.ins)=1 then _ else _)=_
 rw [N4 (fun z=>nomatch (h1.symm.trans z:(0:Int)=1)),NP h1]
theorem KA {L:List ah} {x:Nat} {l:ah} {c:Nr Cc} (h:L[x]? =some l) (h1:(decide (jN c (eG l.ins)=1)&&(place L (bg l.ins)).isSome)=false) (h0:¬jN c (eG l.ins)=0):gF L c x=x:=by
 unfold gF
 rw [h]
 show (if jN c (eG l.ins)=1 then _ else _)=_
 by_cases q:jN c (eG l.ins)=1
 ·rw [NP q]
  rw [NF q] at h1
  cases e:place L (bg l.ins) with
  |none=>rfl
  |some p=>rw [e] at h1;cases h1
 ·rw [N4 q,N4 h0]
theorem xF {s:Nat} {L:List ah} {c:Nr Cc} (Sh:cK L) (hs:s <L.length) (hl:L.length≤1000):oo 105 16 [lst L,an L,ai s,.str (ku c)] (ai (fol L c s)):=fun n=>by
 refine Np fun nG=> ?_
 obtain ⟨o,ρ',σ',e,q⟩:=G6 (test:=cv (run aj (n+103)) Lv) (body:=aH (run aj (n+103)) GL) (I:=fun x S ρ σ=>∃r5 r6,ρ=m9 L x c r5 r6∧σ=[.lst (S.map ai)])
  (vr Sh c) ((mB L).lim_lt hs) hl (fun x S ρ σ hx hz ⟨r5,r6,h1,h2⟩=>by
   subst h1;subst h2
   have h:=NB hx
   have hz:=x0 hz hl
   refine ⟨_,EU,?_⟩
   by_cases m:x∈S
   ·rw [NF m];exact fun z=>(z m).elim
   rw [N0 m]
   refine ⟨m,?_⟩
   cases q:(decide (jN c (eG L[x].ins)=1)&&(place L (bg L[x].ins)).isSome) with
   |true=>
    have q:=Nz.mp q
    obtain ⟨p,hp⟩:=Oq.mp q.2
    exact ⟨_,_,_,Hl h q.1 hp hl hz,.inl ⟨rfl,_,_,by rw [MB h (ND q.1) hp],rfl⟩⟩
   |false=>
    by_cases h0:jN c (eG L[x].ins)=0
    ·have:x+1 <L.length:=by
      rcases OW (Sv hx) with h'|h'
      ·exact h'
      ·rw [Sh.last _ _ h' h,show eG none=none from rfl,vL] at h0
       cases h0
     exact ⟨_,_,_,HG h (N0 fun z=>nomatch (h0.symm.trans z:(0:Int)=1)) (NF h0) this hl hz,.inl ⟨rfl,_,_,by rw [Mu h h0],rfl⟩⟩
    ·exact ⟨_,_,_,IH h q (N0 h0) hz,.inr ⟨rfl,KA h q h0⟩⟩)
  (ρ:=m9 L (lim (jF L) s) c none none) (σ:=[.lst []]) ⟨none,none,rfl,rfl⟩
 refine nG ?_
 have e0:(run aj (n+104)).s (.assignT [(4,true),(2,false)] [(.lst []),(.callF 15 [(.var 0),(.var 1),(.var 2)])]) [some (.v (lst L)),some (.v (an L)),some (.v (ai s)),some (.v (.str (ku c))),none,none,none] []=some (.next,m9 L (lim (jF L) s) c none none,[.lst []]):=by
  unfold m9
  simp (config:={decide:=false}) only [iY,iU,fv,cO,fM,fH,fC,fL,dS,cZ,c5,fP,d6,fz,fQ,cQ,eY,ig,eZ,fg,bL,i8,cm,b6,aW,df,dH,bA,fR,fy,c8,aZ,cj,dG,dh,fw,et,ft,en,dg,fj,fJ,cz,cN,cB,qO,fA,dq,qH,fB,qN,fD,qK,bQ,cD,dj,dr,br,aV,dt,fe,cP,fq,cF,c9,bY,b7,aI,bp,a0,iX,dE,dF,dv,c7,dA,Pc,O7,NJ,Os,NS,NU,N5,N6,qJ,qT,qX,qI,fF,fp,du,fO,fu,cu,bN,dy,de,cR,dn,cL,bH,dz,bB,bE,bh,bD,bl,bq,aT,b9,ch,bI,bP,bo,i5,gw,iI,fE,fk,dk,i4,i7,cf,dp,bC,c6,bv,bZ,fK,cY,dK,dm,dw,bz,dB,sP (nq hs hl _)]
  rfl
 have fin:∀{r},aH (run aj (n+104)) [.while_ Lv GL,.ret (.var 2)] (m9 L (lim (jF L) s) c none none) [.lst []]=some r→r.1= .ret (.v (ai (fol L c s)))→(run aj (n+105)).c 16 [.v (lst L),.v (an L),.v (ai s),.v (.str (ku c))] []=some (.ok (.v (ai (fol L c s))),[]):=fun {r} e h=>by
  refine Np fun nG=> ?_
  obtain ⟨o,ρ,σ⟩:=r
  cases h
  refine nG ?_
  exact bV (n:=n+104) (fn:=oB) (W:= .v _) rfl rfl (av (n:=n+104) e0 e) rfl
 rcases q with ⟨rfl,S,r5,r6,rfl,rfl⟩|rfl
 ·exact fin (show (NT (fW _ _ _ _ _) _)=_ by rw [e];rfl) rfl
 ·exact fin (show (NT (fW _ _ _ _ _) _)=_ by rw [e];rfl) rfl
noncomputable def oc (k:Nat):Sg:=[48,116]++eK (k+1)
noncomputable def jj (L:List ah):List Sg:=aq L++named L++L.map fun l=>bg l.ins
structure bX (L:List ah):Prop where
 len:L.length≤20
 labs:(aq L).length≤100
 nodup:(aq L).Nodup
 sh:cK L
theorem bX.len' {L:List ah} (S:bX L):L.length≤1000:=Nt S.len (by decide)
theorem bX.rows {L:List ah} (S:bX L):∀l∈L.dropLast,∃i,l.ins=some i:=fun l m=>by
 obtain ⟨i,h,e⟩:=Pd m
 rw [RC] at h
 obtain ⟨ls,x,q⟩:=S.sh.row i (Nat.add_lt_of_lt_sub h)
 have e2:L[i]? =some l:=by
  rw [←e,List.getElem_dropLast,NB]
 rw [e2] at q
 cases q;exact ⟨x,rfl⟩
theorem Cr (o:Nr cq):(B0 o).length≤1:=by
 cases o with
 |none=>exact Oe _
 |some i=>cases i with
  |jump=>exact Oe _
  |ret=>exact Oe _
  |mov w i y=>cases y<;>first|exact Oe _|exact NI _
theorem jn (L:List ah):(named L).length≤L.length:=by
 unfold named
 refine Nt ?_ (Nt (N8 RC) (QC _ 1))
 induction L.dropLast with
 |nil=>exact NI _
 |cons a l ih=>
  rw [Pv,Nu,O5,O2]
  exact Of ih (Cr _)
theorem y5 {L:List ah} (S:bX L):(jj L).length <200:=by
 unfold jj
 rw [Nu,Nu,Nw]
 exact NL (Of (Of S.labs (Nt (jn L) S.len)) S.len) (by decide)
theorem sZ:((Pf 200).map oc).Nodup:=by decide+kernel
theorem fresh {T:List Sg} (h:T.length <200):∃k,k <200∧oc k∉T∧∀j,j <k→oc j∈T:=by
 have:∃k,k <200∧oc k∉T:=Np fun no=>by
  have:=Rx sZ fun x m=>let ⟨k,hk,e⟩:=Op.mp m;Np fun q=>no ⟨k,Qp.mp hk,e▸q⟩
  rw [Nw,PP] at this
  exact absurd h (PD.mpr this)
 refine Np fun nG=> ?_
 obtain ⟨k,h1,h2⟩:=this
 refine nG ?_
 induction k using VG with
 |_ k ih=>
  by_cases q:∀j,j <k→oc j∈T
  ·exact ⟨k,h1,h2,q⟩
  ·obtain ⟨j,q⟩:=Classical.not_forall.mp q
   obtain ⟨a,b⟩:=Classical.not_imp.mp q
   exact ih j a (PE a h1) b
theorem xe:(Pf 201).all (fun k=>cX (([48,116]:Sg).length+(eK k).length))=true:=by kernel_rfl
theorem HC {k:Nat} (h:k <201):vY (k:Int)=some (.str (eK k)):=by
 unfold vY
 rw [NF (Ot k),NF (show (k:Int) <10000000000 by omega),Pg,Bool.and_true,NP rfl]
theorem JX (i:Int):vO .str_ [.int i]=vY i:=
 (show vO .str_ [.int i]=(V.int? (.int i)).bind vY from rfl).trans (S6 i vY)
theorem yg {k:Nat} (h:k <201):vO .str_ [ai k]=some (.str (eK k)):=(JX _).trans (HC h)
theorem HA {k:Nat} (h:k <201):oJ (.str [48,116]) (.str (eK k))=some (.str ([48,116]++eK k)):=by
 show (if cX (([48,116]:Sg).length+(eK k).length)=true then _ else _)=_
 rw [NP (NO.mp xe k (Qp.mpr h))]
noncomputable def KZ:CE:= .cmp (.bin .add (.cst (.str [48,116])) (.callB .str_ [(.var 4)])) .in_ (.var 3)
noncomputable def HJ (L:List ah) (e:Nat) (k:Nat):Loc:=[some (.v (lst L)),some (.v (ai e)),some (.v (.tup [])),some (.v (.lst ((jj L).map .str))),some (.v (ai (k+1))),none,none]
theorem eQ {n:Nat} {b:Bf} {args:List CE} {ρ:Loc} {σ σ':ag} {us:List V} {w:V} (h:rL (run aj n) args ρ σ=some (us,σ')) (k:vO b us=some w):(run aj (n+1)).e (.callB b args) ρ σ=some (.v w,σ'):=by
 show (rL (run aj n) args ρ σ).bind _=_
 rw [h]
 show (vO b us).map _=_
 rw [k];rfl
theorem aD {n i:Nat} {e:CE} {ρ:Loc} {σ σ':ag} {U:aA} {u:V} (hc:e.comp?=none) (h:(run aj n).e e ρ σ=some (U,σ')) (k:U.toV=some u):(run aj (n+1)).s (.assign i e) ρ σ=some (.next,ρ.set i (some (.v u)),σ'):=by
 rw [iU,br,hc]
 show (((run aj n).e e ρ σ).bind _).bind _=_
 rw [h]
 show ((U.toV).bind _).bind _=_
 rw [k];rfl
theorem eg {n:Nat} {c:CS} {cs:List CS} {ρ ρ':Loc} {σ σ':ag} {o:fc} (h:(run aj n).s c ρ σ=some (o,ρ',σ')) (k:o.goes=false):aH (run aj n) (c::cs) ρ σ=some (o,ρ',σ'):=by
 rw [cO,h]
 show (bif o.goes then _ else _)=_
 rw [k];rfl
theorem u7 {n:Nat} {a b:CE} {ρ:Loc} {σ:ag} {x y:Bool} (h:cv (run aj n) a ρ σ=some (x,σ)) (k:x=false→cv (run aj n) b ρ σ=some (y,σ)):cv (run aj (n+1)) (.or [a,b]) ρ σ=some (x||y,σ):=by
 refine gB ?_
 rw [iY,ig,cB,h]
 cases x with
 |true=>rfl
 |false=>show (eW _ false [b] ρ σ).map _=_;rw [cz,k rfl];rfl
theorem ru {n:Nat} {a b:CE} {ρ:Loc} {σ:ag} {x y:Bool} (h:cv (run aj n) a ρ σ=some (x,σ)) (k:x=true→cv (run aj n) b ρ σ=some (y,σ)):cv (run aj (n+1)) (.and [a,b]) ρ σ=some (x&&y,σ):=by
 refine gB ?_
 rw [iY,eY,cN,h]
 cases x with
 |false=>rfl
 |true=>show (eW _ true [b] ρ σ).map _=_;rw [cz,k rfl];rfl
theorem vm {n:Nat} {a:CE} {ρ:Loc} {σ:ag} {x:Bool} (h:cv (run aj n) a ρ σ=some (x,σ)):cv (run aj (n+1)) (.not a) ρ σ=some (!x,σ):=by
 refine gB ?_
 rw [iY,eZ,h];rfl
theorem cM {n:Nat} {a b:CE} {ρ:Loc} {σ σ1 σ2:ag} {U W:aA} {u w:V} (h1:(run aj n).e a ρ σ=some (U,σ1)) (h2:(run aj n).e b ρ σ1=some (W,σ2)) (k1:U.deref σ2=some u) (k2:W.deref σ2=some w):rL (run aj n) [a,b] ρ σ=some ([u,w],σ2):=by
 show (((run aj n).e a ρ σ).bind _).bind _=_
 rw [h1]
 show ((((run aj n).e b ρ σ1).bind _).bind _).bind _=_
 rw [h2]
 show ((U.deref σ2).bind _).bind _=_
 rw [k1]
 show (((W.deref σ2).bind _).bind _).bind _=_
 rw [k2];rfl
theorem bJ {n:Nat} {a b:CE} {o:uQ} {ρ:Loc} {σ:ag} {U W:aA} {u w:V} {r:Bool} (h1:(run aj n).e a ρ σ=some (U,σ)) (k1:U.deref σ=some u) (h2:(run aj n).e b ρ σ=some (W,σ)) (k2:W.deref σ=some w) (h:gC o u w=some r):cv (run aj (n+1)) (.cmp a o b) ρ σ=some (r,σ):=by
 refine gB ?_
 show (rL (run aj n) [a,b] ρ σ).bind _=_
 rw [cM h1 h2 k1 k2]
 show (gC o u w).map _=_
 rw [h];rfl
theorem bW {n:Nat} {o:FM} {l r:CE} {ρ:Loc} {σ σ':ag} {x y w:V} (h:jw (run aj n) [l,r] ρ σ=some ([x,y],σ')) (k:oI o x y=some w):(run aj (n+1)).e (.bin o l r) ρ σ=some (.v w,σ'):=by
 show (jw (run aj n) [l,r] ρ σ).bind _=_
 rw [h]
 show (oI o x y).map _=_
 rw [k];rfl
theorem J5 {n e k:Nat} {L:List ah} (h:k <200):(run aj (n+50)).e (.bin .add (.cst (.str [48,116])) (.callB .str_ [(.var 4)])) (HJ L e k) []=some (.v (.str (oc k)),[]):=
 bW (n:=n+49) (x:= .str [48,116]) (y:= .str (eK (k+1))) (aK (U:= .v (.str [48,116])) (W:= .v (.str (eK (k+1)))) (σ1:=[]) rfl rfl (eQ (n:=n+48) (us:=[ai (k+1)]) rfl (yg (P5 h))) rfl) (HA (P5 h))
theorem yj {n e k:Nat} {L:List ah} {b:Bool} (h:k <200) (hb:decide (oc k∈jj L)=b):cv (run aj (n+60)) KZ (HJ L e k) []=some (b,[]):=by
 rw [←hb]
 exact gB (Kc (n:=n+59) (W:= .v (.lst ((jj L).map .str))) (J5 (n:=n+9) h) rfl rfl)
theorem A3 {n e k:Nat} {L:List ah} (hk:k <200) (h1:oc k∉jj L) (h2:∀j,j <k→oc j∈jj L):∀d j M,d+j=k→d <M→
  fW (cv (run aj (n+60)) KZ) (aH (run aj (n+60)) [.assign 4 (.bin .add (.var 4) (.cst (.int 1)))]) M (HJ L e j) []=some (.next,HJ L e k,[]):=by
 intro d
 induction d with
 |zero=>
  intro j M hj hM
  rw [Ow] at hj
  subst hj
  obtain ⟨M,rfl⟩:∃j,M=j+1:=Oi (PH hM)
  show (cv _ KZ _ _).bind _=_
  rw [yj hk (N0 h1)];rfl
 |succ d ih=>
  intro j M hj hM
  obtain ⟨M,rfl⟩:∃j,M=j+1:=Oi (PH (NL (Oe _) hM))
  have lj:j <k:=by rw [←hj,Ph];exact Pi (Qd j d)
  show (cv _ KZ _ _).bind _=_
  rw [yj (PE lj hk) (NF (h2 j lj))]
  exact ih (j+1) M (by rw [←hj,Ph,U3]) (OT hM)
theorem Ac {L:List ah} {i:Nat} (h:i <L.length) (x:ah):L.take i++[x]++L.drop (i+1)=L.set i x:=by
 rw [Q9,NP h,NR];rfl
theorem tj {L:List ah} {i:Nat} (h:i <L.length) (hl:L.length≤1000) (x:ah):oJ (lst (L.take i)) (.lst [ay x])=some (lst (L.take i++[x]))∧oJ (lst (L.take i++[x])) (lst (L.drop (i+1)))=some (lst (L.set i x)):=by
 have e1:(L.take i).length≤1000:=Nt (Qk _ _) (Nt (NY h) hl)
 have e2:(L.drop (i+1)).length≤1000:=Nt (N8 Pa) (Nt (QC _ _) hl)
 refine ⟨qF (B:=[x]) (Nt (OK e1 1) (by decide)),?_⟩
 rw [qF (by rw [Nu];exact Nt (Of (OK e1 1) e2) (by decide)),Ac h]
theorem Io {L:List ah} (S:bX L):vO .list_ [an L]=some (.lst ((aq L).map .str)):=by
 show (if cX (aq L).length=true then _ else _)=_
 rw [NP (eV (Nt S.labs (by decide)))];rfl
theorem F4 {a b:List Sg} (h:a.length+b.length≤1000):oJ (.lst (a.map .str)) (.lst (b.map .str))=some (.lst ((a++b).map .str)):=by
 show (if cX ((a.map V.str).length+(b.map V.str).length)=true then _ else _)=_
 rw [Nw,Nw,NP (eV (Nt h (by decide))),N1]
theorem Ao {b:List Sg} (h:b.length≤1000):oJ (.lst []) (.lst (b.map .str))=some (.lst (b.map .str)):=F4 (a:=[]) (by rw [RL,Ow];exact h)
theorem CB:vO .list_ [.tup []]=some (.lst []):=rfl
inductive WL (L:List ah) (e:Nat):List ah→Sg→Prop
 |old {nm:Sg} {ls:List Sg} {i:Nr cq}:L[e]? =some ⟨nm::ls,i⟩→WL L e L nm
 |new {k:Nat} {i:Nr cq}:L[e]? =some ⟨[],i⟩→oc k∉jj L→WL L e (L.set e ⟨[oc k],i⟩) (oc k)
theorem WL.len {L L':List ah} {e:Nat} {nm:Sg} (h:WL L e L' nm):L'.length=L.length:=by
 cases h with
 |old _=>rfl
 |new _ _=>exact OC
theorem HQ {n e:Nat} {L:List ah} {nm:Sg} {ls:List Sg} {i:Nr cq} (h:L[e]? =some ⟨nm::ls,i⟩):(run aj (n+120)).c 17 [.v (lst L),.v (ai e),.v (.tup [])] []=some (.ok (.v (.tup [lst L,.str nm])),[]):=by
 refine bV (n:=n+119) (fn:=ja) (ρ:=[some (.v (lst L)),some (.v (ai e)),some (.v (.tup [])),none,none,none,none]) (σ2:=[]) (W:= .v _) rfl rfl ?_ rfl
 show aH (run aj (n+119)) (_::_) [some (.v (lst L)),some (.v (ai e)),some (.v (.tup [])),none,none,none,none] []=_
 refine eg ?_ rfl
 have hg:decide ((0:Int) <((V.str nm::S7 V.str ls).length:Int))=true:=NF (QV.mpr (OJ _))
 have h0:i3 (.tup (.str nm::ls.map .str)) (.int 0)=some (.str nm):=by
  show (lr (ls.map V.str).length.succ 0).bind _=_
  unfold lr
  rw [NP (RF 0),NP (QV.mpr (OJ _))];rfl
 simp (config:={decide:=false}) only [iY,iU,fv,cO,fM,fH,fC,fL,dS,cZ,c5,fP,d6,fz,fQ,cQ,eY,ig,eZ,fg,bL,i8,cm,b6,aW,df,dH,bA,fR,fy,c8,aZ,cj,dG,dh,fw,et,ft,en,dg,fj,fJ,cz,cN,cB,qO,fA,dq,qH,fB,qN,fD,qK,bQ,cD,dj,dr,br,aV,dt,fe,cP,fq,cF,c9,bY,b7,aI,bp,a0,iX,dE,dF,dv,c7,dA,Pc,O7,NJ,Os,NS,NU,N5,N6,qJ,qT,qX,qI,fF,fp,du,fO,fu,cu,bN,dy,de,cR,dn,cL,bH,dz,bB,bE,bh,bD,bl,bq,aT,b9,ch,bI,bP,bo,i5,gw,iI,fE,fk,dk,i4,i7,cf,dp,bC,c6,bv,bZ,fK,cY,dK,dm,dw,bz,dB,iG h,Gj,hg,h0]
theorem Jb {n e k:Nat} {L:List ah} {i:Nr cq} (S:bX L) (he:e <L.length) (h:L[e]? =some ⟨[],i⟩) (hk:k <200) (h1:oc k∉jj L) (h2:∀j,j <k→oc j∈jj L):
  (run aj (n+120)).c 17 [.v (lst L),.v (ai e),.v (.tup [])] []=some (.ok (.v (.tup [lst (L.set e ⟨[oc k],i⟩),.str (oc k)])),[]):=by
 have hn:=Nt (jn L) S.len
 have hs:(aq L++named L).length≤120:=by rw [Nu];exact Of S.labs hn
 refine bV (n:=n+119) (fn:=ja) (ρ:=[some (.v (lst L)),some (.v (ai e)),some (.v (.tup [])),some (.v (.lst ((jj L).map .str))),some (.v (ai (k+1))),some (.v (.str (oc k))),none]) (σ2:=[]) (W:= .v _) rfl rfl ?_ rfl
 have s1:(run aj (n+119)).s (.ite (.cmp (.callB .len [(.attr (.idx (.var 0) (.var 1)) .labels)]) .gt (.cst (.int 0))) [.ret (.tup [(.var 0),(.idx (.attr (.idx (.var 0) (.var 1)) .labels) (.cst (.int 0)))])] []) [some (.v (lst L)),some (.v (ai e)),some (.v (.tup [])),none,none,none,none] []=
   some (.next,[some (.v (lst L)),some (.v (ai e)),some (.v (.tup [])),none,none,none,none],[]):=by
  simp (config:={decide:=false}) only [iY,iU,fv,cO,fM,fH,fC,fL,dS,cZ,c5,fP,d6,fz,fQ,cQ,eY,ig,eZ,fg,bL,i8,cm,b6,aW,df,dH,bA,fR,fy,c8,aZ,cj,dG,dh,fw,et,ft,en,dg,fj,fJ,cz,cN,cB,qO,fA,dq,qH,fB,qN,fD,qK,bQ,cD,dj,dr,br,aV,dt,fe,cP,fq,cF,c9,bY,b7,aI,bp,a0,iX,dE,dF,dv,c7,dA,Pc,O7,NJ,Os,NS,NU,N5,N6,qJ,qT,qX,qI,fF,fp,du,fO,fu,cu,bN,dy,de,cR,dn,cL,bH,dz,bB,bE,bh,bD,bl,bq,aT,b9,ch,bI,bP,bo,i5,gw,iI,fE,fk,dk,i4,i7,cf,dp,bC,c6,bv,bZ,fK,cY,dK,dm,dw,bz,dB,iG h,Gj,show decide ((0:Int) <(([]:List V).length:Int))=false from rfl]
 refine av s1 ?_
 have s2:(run aj (n+119)).s (.assignT [(3,false),(4,false)] [(.bin .add (.bin .add (.callB .list_ [(.var 2)]) (.callB .list_ [(.callF 10 [(.var 0)])])) (.callF 19 [(.var 0)])),(.cst (.int 1))]) [some (.v (lst L)),some (.v (ai e)),some (.v (.tup [])),none,none,none,none] []=
   some (.next,[some (.v (lst L)),some (.v (ai e)),some (.v (.tup [])),some (.v (.lst ((aq L++named L).map .str))),some (.v (.int 1)),none,none],[]):=by
  simp (config:={decide:=false}) only [iY,iU,fv,cO,fM,fH,fC,fL,dS,cZ,c5,fP,d6,fz,fQ,cQ,eY,ig,eZ,fg,bL,i8,cm,b6,aW,df,dH,bA,fR,fy,c8,aZ,cj,dG,dh,fw,et,ft,en,dg,fj,fJ,cz,cN,cB,qO,fA,dq,qH,fB,qN,fD,qK,bQ,cD,dj,dr,br,aV,dt,fe,cP,fq,cF,c9,bY,b7,aI,bp,a0,iX,dE,dF,dv,c7,dA,Pc,O7,NJ,Os,NS,NU,N5,N6,qJ,qT,qX,qI,fF,fp,du,fO,fu,cu,bN,dy,de,cR,dn,cL,bH,dz,bB,bE,bh,bD,bl,bq,aT,b9,ch,bI,bP,bo,i5,gw,iI,fE,fk,dk,i4,i7,cf,dp,bC,c6,bv,bZ,fK,cY,dK,dm,dw,bz,dB,CB,gP (jm S.nodup (Nt S.labs (by decide)) _),Io S,Ao (b:=aq L) (Nt S.labs (by decide)),gP (tp S.rows (Nt hn (by decide)) _),F4 (a:=aq L) (b:=named L) (Nt (Of S.labs hn) (by decide))]
 refine av s2 ?_
 have tg:=g9 (n:=n+116) (elt:= .callF 5 [(.attr (.var 6) .instruction)]) (t:= .one 6) (it:= .seq (.var 0)) (ifs:=[]) (gs:=[]) (ρ:=[some (.v (lst L)),some (.v (ai e)),some (.v (.tup [])),some (.v (.lst ((aq L++named L).map .str))),some (.v (.int 1)),none,none]) (σ:=[]) (xs:=L) (enc:=ay) (g:=fun l=>[V.str (bg l.ins)]) (by kernel_rfl)
  (fun l _=>by
   obtain ⟨labs,o⟩:=l
   cases o with
   |none=>kernel_rfl
   |some i=>cases i<;>kernel_rfl) (by rw [iq,Nw,Nw];exact Nt S.len (by decide))
 rw [iq] at tg
 have s3:(run aj (n+119)).s (.assign 3 (.bin .add (.var 3) (.comp (.callF 5 [(.attr (.var 6) .instruction)]) [(.mk (.one 6) (.seq (.var 0)) [])]))) [some (.v (lst L)),some (.v (ai e)),some (.v (.tup [])),some (.v (.lst ((aq L++named L).map .str))),some (.v (.int 1)),none,none] []=
   some (.next,HJ L e 0,[]):=by
  have:=BX (n:=n+117) (l:= .var 3) (U:= .v (.lst ((aq L++named L).map .str))) rfl rfl tg rfl (by rw [Nw,Nw,Nw];exact Nt (Of hs S.len) (by decide))
  rw [←N1] at this
  exact aD (n:=n+118) rfl this rfl
 refine av s3 ?_
 refine av (show (run aj (n+119)).s (.while_ KZ [.assign 4 (.bin .add (.var 4) (.cst (.int 1)))]) (HJ L e 0) []=_ from A3 (n:=n+58) hk h1 h2 k 0 turns rfl (PE hk (by decide))) ?_
 refine av (show (run aj (n+119)).s (.assign 5 (.bin .add (.cst (.str [48,116])) (.callB .str_ [(.var 4)]))) (HJ L e k) []=some (.next,[some (.v (lst L)),some (.v (ai e)),some (.v (.tup [])),some (.v (.lst ((jj L).map .str))),some (.v (ai (k+1))),some (.v (.str (oc k))),none],[]) from aD (n:=n+118) rfl (J5 (n:=n+68) hk) rfl) (dW ?_)
 simp (config:={decide:=false}) only [iY,iU,fv,cO,fM,fH,fC,fL,dS,cZ,c5,fP,d6,fz,fQ,cQ,eY,ig,eZ,fg,bL,i8,cm,b6,aW,df,dH,bA,fR,fy,c8,aZ,cj,dG,dh,fw,et,ft,en,dg,fj,fJ,cz,cN,cB,qO,fA,dq,qH,fB,qN,fD,qK,bQ,cD,dj,dr,br,aV,dt,fe,cP,fq,cF,c9,bY,b7,aI,bp,a0,iX,dE,dF,dv,c7,dA,Pc,O7,NJ,Os,NS,NU,N5,N6,qJ,qT,qX,qI,fF,fp,du,fO,fu,cu,bN,dy,de,cR,dn,cL,bH,dz,bB,bE,bh,bD,bl,bq,aT,b9,ch,bI,bP,bo,i5,gw,iI,fE,fk,dk,i4,i7,cf,dp,bC,c6,bv,bZ,fK,cY,dK,dm,dw,bz,dB,iG h,tu (NY he),yd,mC he,(tj he S.len' ⟨[oc k],i⟩).1,(tj he S.len' ⟨[oc k],i⟩).2,show iF .line [.lst [.str (oc k)],aS i]=some (ay ⟨[oc k],i⟩) from rfl]
theorem vH {e:Nat} {L:List ah} (S:bX L) (he:e <L.length):∃L' nm,oo 120 17 [lst L,ai e,.tup []] (.tup [lst L',.str nm])∧WL L e L' nm:=by
 have h:=NB he
 generalize L[e]=l at h
 obtain ⟨ls,i⟩:=l
 cases ls with
 |cons nm ls=>exact ⟨_,_,fun n=>HQ h,.old h⟩
 |nil=>
  obtain ⟨k,hk,h1,h2⟩:=fresh (y5 S)
  exact ⟨_,_,fun n=>Jb S he h hk h1 h2,.new h h1⟩
noncomputable def qP:cq→Bool
 | .jump m _=>match m with
  | .jmp=>true
  | .call=>true
  | .je=>true
  | .jne=>true
  | .jae=>true
  | .jb=>true
  | .jrcxz=>false
  | .loop=>false
  | .loope=>false
  | .loopne=>false
 | .ret=>false
 | .mov _ _ _=>false
inductive RT (L:List ah) (a:Nat):List ah→Prop
 |skip {ls:List Sg} {i:cq}:L[a]? =some ⟨ls,some i⟩→((place L i.tgt).isSome&&qP i)=false→RT L a L
 |same {ls:List Sg} {m:Nm} {t:Sg} {p:Nat}:L[a]? =some ⟨ls,some (.jump m t)⟩→place L t=some p→fol L m.cc p=p→RT L a L
 |led {ls ls':List Sg} {m:Nm} {t nm:Sg} {p:Nat} {L':List ah}:L[a]? =some ⟨ls,some (.jump m t)⟩→qP (.jump m t)=true→place L t=some p→fol L m.cc p≠p→WL L (fol L m.cc p) L' nm→L'[a]? =some ⟨ls',some (.jump m t)⟩→
   RT L a (L'.set a ⟨ls',some (.jump m nm)⟩)
noncomputable def kS (L:List ah) (r2 r3 r4 r5 r6 r7 r8:Nr aA):Loc:=[some (.v (lst L)),some (.v (.tup [])),r2,r3,r4,r5,r6,r7,r8]
theorem JM (m:Nm) (t nm:Sg):oo 20 8 [aP (.jump m t),.str nm] (aP (.jump m nm)):=fun n=>by kernel_rfl
noncomputable def KS:CE:= .or [(.cmp (.attr (.var 3) .name) .in_ (.tup [(.cst (.str [106,109,112])),(.cst (.str [99,97,108,108]))])),(.cmp (.var 5) .ne (.cst (.str [])))]
noncomputable def JS:CE:= .or [(.cmp (.callF 5 [(.var 3)]) .nin (.var 4)),(.not KS)]
noncomputable def MT:List CS:=[.unpack [0,8] (.callF 17 [(.var 0),(.var 7),(.var 1)]),
   .assign 0 (.bin .add (.bin .add (.slc (.var 0) none (some (.var 2))) (.lst [(.mk .line [(.attr (.idx (.var 0) (.var 2)) .labels),(.callF 8 [(.var 3),(.var 8)])])])) (.slc (.var 0) (some (.bin .add (.var 2) (.cst (.int 1)))) none))]
noncomputable def LG:List CS:=[.assignT [(3,false),(4,false)] [(.attr (.idx (.var 0) (.var 2)) .instruction),(.callF 10 [(.var 0)])],
  .assign 5 (.callF 6 [(.var 3)]),
  .ite JS [.cont] [],
  .assign 6 (.idx (.var 4) (.callF 5 [(.var 3)])),
  .assign 7 (.callF 16 [(.var 0),(.var 4),(.var 6),(.var 5)]),
  .ite (.cmp (.var 7) .ne (.var 6)) MT []]
section
variable {n a p e:Nat} {L L':List ah} {i:cq} {ls ls':List Sg} {m:Nm} {t nm:Sg} {r2 r3 r4 r5 r6 r7 r8:Nr aA}
theorem Jt (i:cq):cv (run aj (n+100)) KS (kS L r2 (some (.v (aP i))) r4 (some (.v (.str (ku (eG (some i)))))) r6 r7 r8) []=some (qP i,[]):=by
 cases i with
 |jump m t=>cases m<;>kernel_rfl
 |ret=>kernel_rfl
 |mov=>kernel_rfl
theorem Ma (S:bX L) (h:L[a]? =some ⟨ls,some i⟩):(run aj (n+150)).s (.assignT [(3,false),(4,false)] [(.attr (.idx (.var 0) (.var 2)) .instruction),(.callF 10 [(.var 0)])]) (kS L (some (.v (ai a))) r3 r4 r5 r6 r7 r8) []=
  some (.next,kS L (some (.v (ai a))) (some (.v (aP i))) (some (.v (an L))) r5 r6 r7 r8,[]):=by
 unfold kS
 simp (config:={decide:=false}) only [iY,iU,fv,cO,fM,fH,fC,fL,dS,cZ,c5,fP,d6,fz,fQ,cQ,eY,ig,eZ,fg,bL,i8,cm,b6,aW,df,dH,bA,fR,fy,c8,aZ,cj,dG,dh,fw,et,ft,en,dg,fj,fJ,cz,cN,cB,qO,fA,dq,qH,fB,qN,fD,qK,bQ,cD,dj,dr,br,aV,dt,fe,cP,fq,cF,c9,bY,b7,aI,bp,a0,iX,dE,dF,dv,c7,dA,Pc,O7,NJ,Os,NS,NU,N5,N6,qJ,qT,qX,qI,fF,fp,du,fO,fu,cu,bN,dy,de,cR,dn,cL,bH,dz,bB,bE,bh,bD,bl,bq,aT,b9,ch,bI,bP,bo,i5,gw,iI,fE,fk,dk,i4,i7,cf,dp,bC,c6,bv,bZ,fK,cY,dK,dm,dw,bz,dB,iG h,gP (jm S.nodup (Nt S.labs (by decide)) _),aS]
theorem LM:(run aj (n+150)).s (.assign 5 (.callF 6 [(.var 3)])) (kS L r2 (some (.v (aP i))) r4 r5 r6 r7 r8) []=some (.next,kS L r2 (some (.v (aP i))) r4 (some (.v (.str (ku (eG (some i)))))) r6 r7 r8,[]):=
 aD (n:=n+149) rfl (aB (n:=n+148) (us:=[aP i]) (Us:=[.v (aP i)]) (by kernel_rfl) rfl (qj (some i) (n+128)) rfl) rfl
theorem JE (b:Bool) (hb:(place L i.tgt).isSome=b):cv (run aj (n+149)) JS (kS L r2 (some (.v (aP i))) (some (.v (an L))) (some (.v (.str (ku (eG (some i)))))) r6 r7 r8) []=some (!(b&&qP i),[]):=by
 have e1:(run aj (n+147)).e (.callF 5 [(.var 3)]) (kS L r2 (some (.v (aP i))) (some (.v (an L))) (some (.v (.str (ku (eG (some i)))))) r6 r7 r8) []=some (.v (.str i.tgt),[]):=
  aB (n:=n+146) (us:=[aP i]) (Us:=[.v (aP i)]) (by kernel_rfl) rfl (iB (some i) (n+134)) rfl
 have e2:(run aj (n+147)).e (.var 4) (kS L r2 (some (.v (aP i))) (some (.v (an L))) (some (.v (.str (ku (eG (some i)))))) r6 r7 r8) []=some (.v (an L),[]):=rfl
 have e3:=u7 (n:=n+148) (a:= .cmp (.callF 5 [(.var 3)]) .nin (.var 4)) (bJ (n:=n+147) (o:= .nin) e1 rfl e2 rfl (NC (Pr (!·)) vp)) fun _=>vm (n:=n+147) (Jt (n:=n+47) i)
 rw [hb,←Bool.not_and] at e3
 exact e3
theorem MG (h:place L i.tgt=some p):(run aj (n+150)).s (.assign 6 (.idx (.var 4) (.callF 5 [(.var 3)]))) (kS L r2 (some (.v (aP i))) (some (.v (an L))) r5 r6 r7 r8) []=
  some (.next,kS L r2 (some (.v (aP i))) (some (.v (an L))) r5 (some (.v (ai p))) r7 r8,[]):=by
 unfold kS
 simp (config:={decide:=false}) only [iY,iU,fv,cO,fM,fH,fC,fL,dS,cZ,c5,fP,d6,fz,fQ,cQ,eY,ig,eZ,fg,bL,i8,cm,b6,aW,df,dH,bA,fR,fy,c8,aZ,cj,dG,dh,fw,et,ft,en,dg,fj,fJ,cz,cN,cB,qO,fA,dq,qH,fB,qN,fD,qK,bQ,cD,dj,dr,br,aV,dt,fe,cP,fq,cF,c9,bY,b7,aI,bp,a0,iX,dE,dF,dv,c7,dA,Pc,O7,NJ,Os,NS,NU,N5,N6,qJ,qT,qX,qI,fF,fp,du,fO,fu,cu,bN,dy,de,cR,dn,cL,bH,dz,bB,bE,bh,bD,bl,bq,aT,b9,ch,bI,bP,bo,i5,gw,iI,fE,fk,dk,i4,i7,cf,dp,bC,c6,bv,bZ,fK,cY,dK,dm,dw,bz,dB,gP (iB (some i) _),show bg (some i)=i.tgt from rfl,↓show aP i=aS (some i) from rfl,pT h]
theorem MK {c:Nr Cc} (S:bX L) (h:p <L.length):(run aj (n+150)).s (.assign 7 (.callF 16 [(.var 0),(.var 4),(.var 6),(.var 5)])) (kS L r2 r3 (some (.v (an L))) (some (.v (.str (ku c)))) (some (.v (ai p))) r7 r8) []=
  some (.next,kS L r2 r3 (some (.v (an L))) (some (.v (.str (ku c)))) (some (.v (ai p))) (some (.v (ai (fol L c p)))) r8,[]):=
 aD (n:=n+149) rfl (aB (n:=n+148) (us:=[lst L,an L,ai p,.str (ku c)]) (Us:=[.v (lst L),.v (an L),.v (ai p),.v (.str (ku c))]) (by kernel_rfl) rfl (xF S.sh h S.len' (n+43)) rfl) rfl
theorem GX (b:Bool) (hb:decide ((e:Int)=(p:Int))=b):cv (run aj (n+149)) (.cmp (.var 7) .ne (.var 6)) (kS L r2 r3 r4 r5 (some (.v (ai p))) (some (.v (ai e))) r8) []=some (!b,[]):=by
 unfold kS ai
 simp (config:={decide:=false}) only [iY,iU,fv,cO,fM,fH,fC,fL,dS,cZ,c5,fP,d6,fz,fQ,cQ,eY,ig,eZ,fg,bL,i8,cm,b6,aW,df,dH,bA,fR,fy,c8,aZ,cj,dG,dh,fw,et,ft,en,dg,fj,fJ,cz,cN,cB,qO,fA,dq,qH,fB,qN,fD,qK,bQ,cD,dj,dr,br,aV,dt,fe,cP,fq,cF,c9,bY,b7,aI,bp,a0,iX,dE,dF,dv,c7,dA,Pc,O7,NJ,Os,NS,NU,N5,N6,qJ,qT,qX,qI,fF,fp,du,fO,fu,cu,bN,dy,de,cR,dn,cL,bH,dz,bB,bE,bh,bD,bl,bq,aT,b9,ch,bI,bP,bo,i5,gw,iI,fE,fk,dk,i4,i7,cf,dp,bC,c6,bv,bZ,fK,cY,dK,dm,dw,bz,dB,hb]
theorem Mk (hw:oo 120 17 [lst L,ai e,.tup []] (.tup [lst L',.str nm])):(run aj (n+149)).s (.unpack [0,8] (.callF 17 [(.var 0),(.var 7),(.var 1)])) (kS L r2 r3 r4 r5 r6 (some (.v (ai e))) r8) []=
  some (.next,kS L' r2 r3 r4 r5 r6 (some (.v (ai e))) (some (.v (.str nm))),[]):=by
 have q:eO (run aj (n+148)) (.callF 17 [(.var 0),(.var 7),(.var 1)]) (kS L r2 r3 r4 r5 r6 (some (.v (ai e))) r8) []=some (.tup [lst L',.str nm],[]):=
  cC (aB (n:=n+147) (us:=[lst L,ai e,.tup []]) (Us:=[.v (lst L),.v (ai e),.v (.tup [])]) (by kernel_rfl) rfl (hw (n+27)) rfl) rfl
 rw [iU,bp,q];rfl
theorem LR (hz:L.length≤1000) (h:L[a]? =some ⟨ls',some (.jump m t)⟩):(run aj (n+149)).s (.assign 0 (.bin .add (.bin .add (.slc (.var 0) none (some (.var 2))) (.lst [(.mk .line [(.attr (.idx (.var 0) (.var 2)) .labels),(.callF 8 [(.var 3),(.var 8)])])])) (.slc (.var 0) (some (.bin .add (.var 2) (.cst (.int 1)))) none)))
   (kS L (some (.v (ai a))) (some (.v (aP (.jump m t)))) r4 r5 r6 r7 (some (.v (.str nm)))) []=
  some (.next,kS (L.set a ⟨ls',some (.jump m nm)⟩) (some (.v (ai a))) (some (.v (aP (.jump m t)))) r4 r5 r6 r7 (some (.v (.str nm))),[]):=by
 have ha:=(NA.mp h).1
 have k:=tj ha hz ⟨ls',some (.jump m nm)⟩
 unfold kS
 simp (config:={decide:=false}) only [iY,iU,fv,cO,fM,fH,fC,fL,dS,cZ,c5,fP,d6,fz,fQ,cQ,eY,ig,eZ,fg,bL,i8,cm,b6,aW,df,dH,bA,fR,fy,c8,aZ,cj,dG,dh,fw,et,ft,en,dg,fj,fJ,cz,cN,cB,qO,fA,dq,qH,fB,qN,fD,qK,bQ,cD,dj,dr,br,aV,dt,fe,cP,fq,cF,c9,bY,b7,aI,bp,a0,iX,dE,dF,dv,c7,dA,Pc,O7,NJ,Os,NS,NU,N5,N6,qJ,qT,qX,qI,fF,fp,du,fO,fu,cu,bN,dy,de,cR,dn,cL,bH,dz,bB,bE,bh,bD,bl,bq,aT,b9,ch,bI,bP,bo,i5,gw,iI,fE,fk,dk,i4,i7,cf,dp,bC,c6,bv,bZ,fK,cY,dK,dm,dw,bz,dB,iG h,xV (JM m t nm _),tu (NY ha),mC (a:=a+1) ha,yd,show iF .line [.tup (ls'.map .str),aP (.jump m nm)]=some (ay ⟨ls',some (.jump m nm)⟩) from rfl,k.1,k.2]
noncomputable def uW (L:List ah) (a:Nat) (L':List ah):Prop:=∀n r2 r3 r4 r5 r6 r7 r8,∃o r3' r4' r5' r6' r7' r8',bd (run aj (n+150)) (.one 2) LG (ai a) (kS L r2 r3 r4 r5 r6 r7 r8) []=some (o,kS L' (some (.v (ai a))) r3' r4' r5' r6' r7' r8',[])∧o.turns=true
theorem Am {cs:List CS} {r:fc×Loc×ag} (S:bX L) (h:L[a]? =some ⟨ls,some i⟩) (b:Bool) (hb:(place L i.tgt).isSome=b) (hr:aH (run aj (n+150)) (.ite JS [.cont] []::cs) (kS L (some (.v (ai a))) (some (.v (aP i))) (some (.v (an L))) (some (.v (.str (ku (eG (some i)))))) r6 r7 r8) []=some r):
  aH (run aj (n+150)) (.assignT [(3,false),(4,false)] [(.attr (.idx (.var 0) (.var 2)) .instruction),(.callF 10 [(.var 0)])]:: .assign 5 (.callF 6 [(.var 3)]):: .ite JS [.cont] []::cs) (kS L (some (.v (ai a))) r3 r4 r5 r6 r7 r8) []=some r:=
 av (Ma S h) (av LM hr)
theorem Fq (S:bX L) (h:L[a]? =some ⟨ls,some i⟩) (hb:((place L i.tgt).isSome&&qP i)=false):uW L a L:=fun n r2 r3 r4 r5 r6 r7 r8=>
 ⟨.cont,_,_,_,_,_,_,Am (n:=n) S h _ rfl (eg (by rw [iU,cF,JE _ rfl,hb];rfl) rfl),rfl⟩
theorem B3 {cs:List CS} {r:fc×Loc×ag} (S:bX L) (h:L[a]? =some ⟨ls,some (.jump m t)⟩) (hl:qP (.jump m t)=true) (hp:place L t=some p)
  (hr:aH (run aj (n+150)) cs (kS L (some (.v (ai a))) (some (.v (aP (.jump m t)))) (some (.v (an L))) (some (.v (.str (ku m.cc)))) (some (.v (ai p))) (some (.v (ai (fol L m.cc p)))) r8) []=some r):
  aH (run aj (n+150)) (.assignT [(3,false),(4,false)] [(.attr (.idx (.var 0) (.var 2)) .instruction),(.callF 10 [(.var 0)])]:: .assign 5 (.callF 6 [(.var 3)]):: .ite JS [.cont] []:: .assign 6 (.idx (.var 4) (.callF 5 [(.var 3)])):: .assign 7 (.callF 16 [(.var 0),(.var 4),(.var 6),(.var 5)])::cs) (kS L (some (.v (ai a))) r3 r4 r5 r6 r7 r8) []=some r:=
 Am S h _ rfl (av (ρ':=kS L (some (.v (ai a))) (some (.v (aP (.jump m t)))) (some (.v (an L))) (some (.v (.str (ku m.cc)))) r6 r7 r8) (σ':=[]) (by rw [iU,cF,JE _ rfl,show (place L (cq.jump m t).tgt).isSome=true from (NC Option.isSome hp).trans rfl,hl];rfl)
  (av (MG (i:= .jump m t) hp) (av (MK S (fi hp)) hr)))
theorem Dk {b:Bool} (h:decide (e=p)=b):decide ((e:Int)=(p:Int))=b:=by rw [←h];exact O4.mpr Int.ofNat_inj
theorem Et (S:bX L) (h:L[a]? =some ⟨ls,some (.jump m t)⟩) (hl:qP (.jump m t)=true) (hp:place L t=some p) (he:fol L m.cc p=p):uW L a L:=fun n r2 r3 r4 r5 r6 r7 r8=>
 ⟨.next,_,_,_,_,_,_,B3 (n:=n) S h hl hp (bk (by rw [iU,cF,GX true (Dk (NF he))];rfl)),rfl⟩
theorem HT (S:bX L) (h:L[a]? =some ⟨ls,some (.jump m t)⟩) (hl:qP (.jump m t)=true) (hp:place L t=some p) (he:fol L m.cc p≠p) (hw:oo 120 17 [lst L,ai (fol L m.cc p),.tup []] (.tup [lst L',.str nm])) (hn:L'.length=L.length) (h':L'[a]? =some ⟨ls',some (.jump m t)⟩):
  uW L a (L'.set a ⟨ls',some (.jump m nm)⟩):=fun n r2 r3 r4 r5 r6 r7 r8=>
 ⟨.next,_,_,_,_,_,_,B3 (n:=n) S h hl hp (bk (by
  rw [iU,cF,GX false (Dk (N0 he))]
  show aH _ MT _ _=_
  exact av (Mk hw) (bk (LR (by rw [hn];exact S.len') h')))),rfl⟩
theorem WL.row (w:WL L e L' nm) {l:ah} (h:L[a]? =some l):∃ls',L'[a]? =some ⟨ls',l.ins⟩:=by
 cases w with
 |old _=>exact ⟨_,h⟩
 |new q _=>
  by_cases z:e=a
  ·subst z
   rw [q] at h
   cases h
   exact ⟨_,Ol (NA.mp q).1⟩
  ·exact ⟨_,(Oo z).trans h⟩
theorem EF (S:bX L) (ha:a+1 <L.length):∃L',RT L a L'∧uW L a L':=by
 refine Np fun nG=> ?_
 obtain ⟨ls,i,h⟩:=S.sh.row a ha
 refine nG ?_
 cases hb:((place L i.tgt).isSome&&qP i) with
 |false=>exact ⟨L,.skip h hb,Fq S h hb⟩
 |true=>
  obtain ⟨h1,hl⟩:=Nz.mp hb
  obtain ⟨p,hp⟩:=Oq.mp h1
  cases i with
  |ret=>cases hl
  |mov=>cases hl
  |jump m t=>
   by_cases he:fol L m.cc p=p
   ·exact ⟨L,.same h hp he,Et S h hl hp he⟩
   ·obtain ⟨L',nm,hw,w⟩:=vH S ((vr S.sh m.cc).lim_lt ((mB L).lim_lt (fi hp)))
    obtain ⟨ls',h'⟩:=w.row h
    exact ⟨_,.led h hl hp he w h',HT S h hl hp he hw w.len h'⟩
end
set_option genCtorIdx true in
inductive Itm|lab (x:Sg)|lp (n:Nm) (t:Sg)|mv (w:Bool) (i:Int) (y:Sg)|call (t:Sg)
noncomputable def qQ:cq→List Itm
 | .jump m t=>match m with
  | .jmp=>[]
  | .call=>[.call t]
  | .je=>[]
  | .jne=>[]
  | .jae=>[]
  | .jb=>[]
  | .jrcxz=>[.lp .jrcxz t]
  | .loop=>[.lp .loop t]
  | .loope=>[.lp .loope t]
  | .loopne=>[.lp .loopne t]
 | .ret=>[]
 | .mov w i y=>[.mv w i y]
noncomputable def jV:Nr cq→List Itm
 |none=>[]
 |some i=>qQ i
noncomputable def Nj:Nm→Bool
 | .jmp=>false
 | .call=>false
 | .je=>false
 | .jne=>false
 | .jae=>false
 | .jb=>false
 |_=>true
theorem mX {p:Itm} {o:Nr cq} {P:Prop} (h:p∈jV o) (K1:∀m t,o=some (.jump m t)→p= .lp m t→Nj m=true→P) (K2:∀t,o=some (.jump .call t)→p= .call t→P) (K3:∀w x y,o=some (.mov w x y)→p= .mv w x y→P):P:=by
 cases o with
 |none=>cases h
 |some i=>cases i with
  |ret=>cases h
  |mov w x y=>exact K3 w x y rfl (N3.mp h)
  |jump m t=>cases m<;>first|(cases h;done)|exact K2 t rfl (N3.mp h)|exact K1 _ t rfl (N3.mp h) rfl
noncomputable def jJ (l:ah):List Itm:=l.labs.map .lab++jV l.ins
noncomputable def items (L:List ah):List Itm:=L.flatMap jJ
noncomputable def Itm.lab?:Itm→Nr Sg
 | .lab x=>some x
 |_=>none
noncomputable def Itm.lp?:Itm→Nr Nm
 | .lp n _=>some n
 |_=>none
noncomputable def Lw (P:List Itm) (n:Nm) (x:Sg) (w:Bool) (i:Int) (y:Sg):Prop:=[.lp n x,.mv w i y,.lab x].Sublist P∨[.lab x,.mv w i y,.lp n x].Sublist P
structure kN (P0 P:List Itm):Prop where
 labs:(P.filterMap Itm.lab?).Nodup
 lps:(P.filterMap Itm.lp?).Nodup
 call:∀t,.call t∈P→ .lab t∉P
 old:∀t,.call t∈P→ .call t∈P0
 span:∀n x w i y,Lw P n x w i y→Lw P0 n x w i y
 mvs:∀w i y,.mv w i y∈P→ .mv w i y∈P0
 nil: .lab []∉P
section
variable {P0 P P' U V:List Itm} {L L' A B:List ah} {l l':ah} {a:Nat}
theorem kN.sub (C:kN P0 P) (h:P'.Sublist P):kN P0 P' where
 labs:=C.labs.sublist (h.filterMap _)
 lps:=C.lps.sublist (h.filterMap _)
 call:=fun t m q=>C.call t (h.mem m) (h.mem q)
 old:=fun t m=>C.old t (h.mem m)
 span:=fun n x w i y b=>C.span n x w i y (b.imp (·.trans h) (·.trans h))
 mvs:=fun w i y m=>C.mvs w i y (h.mem m)
 nil:=fun m=>C.nil (h.mem m)
theorem xN {f:Itm} {s:List Itm} (h:s.Sublist (U++f::V)) (n:f∉s):s.Sublist (U++V):=by
 obtain ⟨s1,s2,rfl,h1,h2⟩:=Q7.mp h
 refine h1.append ?_
 cases h2 with
 |cons _ h2=>exact h2
 |cons_cons _ h2=>exact (n (NG.mpr (.inr (.head _)))).elim
theorem kH {f g:Itm} (h:g∈U++f::V):g=f∨g∈U++V:=by
 rcases NG.mp h with h|h
 ·exact .inr (NG.mpr (.inl h))
 ·exact (NW.mp h).imp id fun h=>NG.mpr (.inr h)
theorem kN.new {f:Sg} (C:kN P0 (U++V)) (h1: .lab f∉U++V) (h2: .call f∉U++V) (h3:∀n,.lp n f∉U++V) (h4:f≠[]):kN P0 (U++ .lab f::V) where
 labs:=by
  have:=C.labs
  rw [OF] at this ⊢
  refine (List.perm_middle (a:=f) (l₁:=U.filterMap Itm.lab?) (l₂:=V.filterMap Itm.lab?)).nodup_iff.mpr (Pl.mpr ⟨fun m=>h1 ?_,this⟩)
  rw [←OF] at m
  obtain ⟨g,m1,m2⟩:=Pk.mp m
  cases g with
  |lab x=>cases m2;exact m1
  |lp=>cases m2
  |mv=>cases m2
  |call=>cases m2
 lps:=by have:=C.lps;rw [OF] at this ⊢;exact this
 call:=fun t m q=>by
  have m:=(kH m).resolve_left (fun z=>nomatch z)
  rcases kH q with z|q
  ·cases z;exact h2 m
  ·exact C.call t m q
 old:=fun t m=>C.old t ((kH m).resolve_left fun z=>nomatch z)
 span:=fun n x w i y b=>by
  have ne:x≠f:=fun z=>by
   subst z
   have:Itm.lp n x∈U++ .lab x::V:=b.elim (fun s=>s.mem (.head _)) fun s=>s.mem (.tail _ (.tail _ (.head _)))
   exact h3 n ((kH this).resolve_left fun z=>nomatch z)
  have no:∀{a b c:Itm},a≠ .lab f→b≠ .lab f→c≠ .lab f→Itm.lab f∉[a,b,c]:=fun p q r m=>by
   rcases NW.mp m with e|m
   ·exact p e.symm
   ·rcases NW.mp m with e|m
    ·exact q e.symm
    ·exact r (N3.mp m).symm
  have nl:Itm.lab x≠ .lab f:=fun z=>ne (Itm.lab.inj z)
  exact C.span n x w i y (b.imp (fun s=>xN s (no (fun z=>nomatch z) (fun z=>nomatch z) nl)) fun s=>xN s (no nl (fun z=>nomatch z) fun z=>nomatch z))
 mvs:=fun w i y m=>C.mvs w i y ((kH m).resolve_left fun z=>nomatch z)
 nil:=fun m=>(kH m).elim (fun z=>h4 (Itm.lab.inj z).symm) C.nil
theorem aJ:items (A++B)=items A++items B:=Ua
theorem aR:items (l::A)=jJ l++items A:=Pv
theorem AI (l:ah):(jJ l).filterMap Itm.lab?=l.labs:=by
 obtain ⟨ls,o⟩:=l
 unfold jJ
 rw [OF,List.filterMap_map]
 have:(jV o).filterMap Itm.lab?=[]:=by
  cases o with
  |none=>rfl
  |some i=>cases i with
   |jump m t=>cases m<;>rfl
   |ret=>rfl
   |mov=>rfl
 rw [this,NQ]
 exact List.filterMap_some
theorem cG:(items L).filterMap Itm.lab?=aq L:=by
 induction L with
 |nil=>rfl
 |cons l L ih=>rw [aR,OF,AI,ih];rfl
theorem eS {x:Sg}: .lab x∈items L↔x∈aq L:=by
 rw [←cG,Pk]
 refine ⟨fun m=>⟨_,m,rfl⟩,fun ⟨g,m,e⟩=> ?_⟩
 cases g with
 |lab y=>cases e;exact m
 |lp=>cases e
 |mv=>cases e
 |call=>cases e
theorem zh {g:Itm} (h:L[a]? =some l) (m:g∈jV l.ins):g∈items L:=
 Po.mpr ⟨l,NN h,NG.mpr (.inr m)⟩
theorem gR (h:L[a]? =some l):L=L.take a++l::L.drop (a+1):=by
 obtain ⟨ha,e⟩:=NA.mp h
 rw [←e,Rp,QA]
theorem ph (h:L[a]? =some l):L.set a l'=L.take a++l'::L.drop (a+1):=by
 rw [Q9,NP (NA.mp h).1]
theorem ip (h:L[a]? =some l) (e:jJ l'=jJ l):items (L.set a l')=items L:=by
 rw [ph h,aJ,aR,e,←aR,←aJ,←gR h]
noncomputable def lq (L L':List ah):Prop:=L'.map (fun l=>l.ins.isSome)=L.map fun l=>l.ins.isSome
theorem lq.len (h:lq L L'):L'.length=L.length:=by
 have:=NC P1 h
 rw [Nw,Nw] at this;exact this
theorem lq.at (h:lq L L') (i:Nat):L'[i]?.map (fun l=>l.ins.isSome)=L[i]?.map fun l=>l.ins.isSome:=by
 have:=NC (·[i]?) h
 simp only [OO] at this;exact this
theorem lq.shape (h:lq L L') (S:cK L):cK L' where
 pos:=h.len▸S.pos
 row:=fun i hi=>by
  obtain ⟨ls,x,e⟩:=S.row i (h.len▸hi)
  have q:=h.at i
  rw [e] at q
  cases e2:L'[i]? with
  |none=>rw [e2] at q;cases q
  |some l=>
   rw [e2] at q
   obtain ⟨ls,o⟩:=l
   cases o with
   |none=>cases q
   |some x=>exact ⟨_,_,rfl⟩
 last:=fun i l hi e=>by
  have q:=h.at i
  rw [e] at q
  cases e2:L[i]? with
  |none=>rw [e2] at q;cases q
  |some l'=>
   rw [e2,RO,RO,S.last i l' (h.len▸hi) e2] at q
   obtain ⟨ls,o⟩:=l
   cases o with
   |none=>rfl
   |some x=>cases q
theorem mN (h:L[a]? =some l) (e:l'.ins.isSome=l.ins.isSome):lq L (L.set a l'):=by
 unfold lq
 rw [U4,e]
 refine U5 fun j=> ?_
 by_cases z:a=j
 ·subst z
  have la:=(NA.mp h).1
  rw [Ol (by rw [Nw];exact la),OO,h];rfl
 ·rw [Oo z]
noncomputable def Tg (L:List ah):Prop:=∀l∈L,∀m t,l.ins=some (.jump m t)→t≠[]
theorem Tg.set (T:Tg L) (h:∀m t,l'.ins=some (.jump m t)→t≠[]):Tg (L.set a l'):=fun l m=>
 (List.mem_or_eq_of_mem_set m).elim (T l) fun e=>e▸h
structure Inv (P0:List Itm) (L:List ah):Prop where
 core:kN P0 (items L)
 sh:cK L
 tg:Tg L
 len:L.length≤20
theorem Inv.nodup (I:Inv P0 L):(aq L).Nodup:=cG (L:=L)▸I.core.labs
theorem Inv.small (I:Inv P0 L) (h:(aq L).length≤100):bX L:=⟨I.len,h,I.nodup,I.sh⟩
noncomputable def wt:Nr cq→Nat
 |some (.jump m _)=>match m with
  | .jmp=>2
  | .je=>3
  | .jne=>3
  | .jae=>3
  | .jb=>3
  | .call=>1
  | .jrcxz=>1
  | .loop=>1
  | .loope=>1
  | .loopne=>1
 |some .ret=>1
 |some (.mov _ _ _)=>1
 |none=>1
noncomputable def wts (L:List ah):Nat:=(L.map fun l=>wt l.ins).sum
theorem bO:wts (A++B)=wts A+wts B:=by unfold wts;rw [N1,List.sum_append]
theorem bu:wts (l::A)=wt l.ins+wts A:=rfl
theorem xI (h:L[a]? =some l) (e:wt l'.ins=wt l.ins):wts (L.set a l')=wts L:=by
 rw [ph h,bO,bu,e,←bu,←bO,←gR h]
theorem Dv (o:Nr cq):1≤wt o:=by
 cases o with
 |none=>exact NI 1
 |some i=>cases i with
  |jump m t=>cases m<;>first|exact NI 1|exact NZ 1|exact Qd 1 2
  |ret=>exact NI 1
  |mov=>exact NI 1
end
section
variable {P0:List Itm} {L L' L2:List ah} {l l':ah} {a e p:Nat} {nm:Sg} {c d:Nr Cc}
theorem y0 {x:Sg}:∀{L L':List ah},L'.map (·.labs)=L.map (·.labs)→place L' x=place L x:=by
 intro L
 induction L with
 |nil=>intro L' h;cases L' with
  |nil=>rfl
  |cons=>cases h
 |cons l L ih=>intro L' h;cases L' with
  |nil=>cases h
  |cons l' L'=>
   have h:=OX h
   unfold place
   rw [show l'.labs=l.labs from h.1,ih h.2]
theorem oq (h:L[a]? =some l):jF L a=bif oE l.ins then (place L (bg l.ins)).getD a else a:=by
 unfold jF
 rw [h]
theorem l9 (h:L[a]? =some l):gF L c a=if jN c (eG l.ins)=1 then ((place L (bg l.ins)).map (lim (jF L))).getD a else if jN c (eG l.ins)=0 then lim (jF L) (a+1) else a:=by
 unfold gF
 rw [h]
 show (if _ then _ else _)=_
 cases place L (bg l.ins)<;>rfl
structure iT (L L':List ah):Prop where
 ins:∀j:Nat,L'[j]?.map (·.ins)=L[j]?.map (·.ins)
 plc:∀l∈L,place L' (bg l.ins)=place L (bg l.ins)
theorem iT.at (A:iT L L') (h:L[a]? =some l):∃ls,L'[a]? =some ⟨ls,l.ins⟩:=by
 have:=A.ins a
 rw [h] at this
 cases q:L'[a]? with
 |none=>rw [q] at this;cases this
 |some l2=>
  rw [q] at this
  obtain ⟨ls,o⟩:=l2
  have:o=l.ins:=Nq this
  subst this
  exact ⟨ls,rfl⟩
theorem iT.none (A:iT L L') (h:L[a]? =Sl):L'[a]? =Sl:=by
 have:=A.ins a
 rw [h] at this
 cases q:L'[a]? with
 |none=>rfl
 |some l2=>rw [q] at this;cases this
theorem iT.jF (A:iT L L'):jF L'=jF L:=funext fun x=>by
 cases h:L[x]? with
 |none=>unfold Internal.jF;rw [h,A.none h]
 |some l=>
  obtain ⟨ls,h'⟩:=A.at h
  rw [oq h,oq h',A.plc l (NN h)]
theorem iT.gF (A:iT L L'):gF L' c=gF L c:=funext fun x=>by
 cases h:L[x]? with
 |none=>unfold Internal.gF;rw [h,A.none h]
 |some l=>
  obtain ⟨ls,h'⟩:=A.at h
  rw [l9 h,l9 h',A.plc l (NN h),A.jF]
theorem iT.fol (A:iT L L'):fol L' c p=fol L c p:=by unfold Internal.fol;rw [A.gF,A.jF]
theorem JI {x:Nat} (h:lim (jF L) x=x) (a:kJ (gF L c) x e):lim (jF L) e=e:=by
 induction a with
 |here _=>exact h
 | @step y e _ _ ih=>
  refine ih ?_
  cases q:L[y]? with
  |none=>unfold gF;rw [q];exact h
  |some l=>
   rw [l9 q]
   split
   ·cases place L (bg l.ins) with
    |none=>exact h
    |some p=>exact (mB L).idem p
   ·split
    ·exact (mB L).idem _
    ·exact h
theorem Gx (S:cK L):lim (jF L) (fol L c p)=fol L c p:=JI ((mB L).idem p) ((vr S c).lim _)
theorem Du (S:cK L):fol L c (fol L c p)=fol L c p:=by
 unfold fol
 rw [show lim (jF L) (lim (gF L c) (lim (jF L) p))=_ from Gx S]
 exact (vr S c).idem _
theorem CL (x:Nat):fol L none x=lim (jF L) x:=by
 refine (kJ.here (.fix ?_)).eq
 cases q:L[lim (jF L) x]? with
 |none=>unfold gF;rw [q]
 |some l=>exact KA q rfl (fun z=>nomatch (show (-1:Int)=0 from z))
theorem Ge (h:jN c d=1):c=d:=by
 cases c with
 |none=>cases d<;>cases h
 |some c=>cases d with
  |none=>cases h
  |some d=>cases c<;>cases d<;>first|rfl|cases h
theorem yL {t:Sg} (h:t≠[]):oE (some (.jump .jmp t))=true:=by
 show (!decide (t=[]))=true
 rw [N0 h];rfl
theorem DH {ls:List Sg} {m:Nm} {t:Sg} (S:cK L) (h:L[a]? =some ⟨ls,some (.jump m t)⟩) (ht:t≠[]) (hn:nm≠[]) (hp:place L t=some p) (he:e=fol L m.cc p) (hq:place L nm=some e)
  (h2:L'=L.set a ⟨ls,some (.jump m nm)⟩) (x:Nat):fol L' c x=fol L c x:=by
 have la:=(NA.mp h).1
 have hs:L'[a]? =some ⟨ls,some (.jump m nm)⟩:=h2▸Ol la
 have ho:∀y,y≠a→L'[y]? =L[y]? :=fun y z=>h2▸Oo (TX z)
 have pl:∀x,place L' x=place L x:=fun x=>y0 (by
  rw [h2,U4]
  refine U5 fun j=> ?_
  by_cases z:a=j
  ·subst z
   rw [Ol (by rw [Nw];exact la),OO,h];rfl
  ·rw [Oo z])
 have jo:∀y,y≠a→jF L' y=jF L y:=fun y z=>by
  cases q:L[y]? with
  |none=>unfold jF;rw [q,ho y z,q]
  |some l=>rw [oq q,oq ((ho y z).trans q),pl]
 have J:∀x,lim (jF L') x=lim (jF L) x:=by
  by_cases hm:m= .jmp
  ·subst hm
   refine kJ.key (mB L) (t:=a) ?_ jo
   rw [oq hs,oq h,yL ht,yL hn,pl,show bg (some (.jump .jmp nm))=nm from rfl,show bg (some (.jump .jmp t))=t from rfl,hp,hq]
   exact he.trans (CL p)
  ·have:jF L'=jF L:=funext fun y=>by
    by_cases z:y=a
    ·have:∀t,oE (some (.jump m t))=false:=fun t=>by cases m<;>first|rfl|exact (hm rfl).elim
     rw [z,oq hs,oq h,this,this];rfl
    ·exact jo y z
   rw [this];exact fun _=>rfl
 have Je:lim (jF L) e=e:=he▸Gx S
 have go:∀y,y≠a→gF L' c y=gF L c y:=fun y z=>by
  cases q:L[y]? with
  |none=>unfold gF;rw [q,ho y z,q]
  |some l=>rw [l9 q,l9 ((ho y z).trans q),pl,J,funext J]
 have G:∀x,lim (gF L' c) x=lim (gF L c) x:=by
  by_cases hw:jN c m.cc=1
  ·refine kJ.key (vr S c) (t:=a) ?_ go
   rw [l9 hs,l9 h,show eG (some (.jump m nm))=m.cc from rfl,show eG (some (.jump m t))=m.cc from rfl,NP hw,NP hw,pl,show bg (some (.jump m nm))=nm from rfl,show bg (some (.jump m t))=t from rfl,hp,hq]
   show lim (jF L') e=lim (gF L c) (lim (jF L) p)
   rw [J,Je,he,←Ge hw];rfl
  ·have:gF L' c=gF L c:=funext fun y=>by
    by_cases z:y=a
    ·rw [z,l9 hs,l9 h,show eG (some (.jump m nm))=m.cc from rfl,show eG (some (.jump m t))=m.cc from rfl,N4 hw,N4 hw,J]
    ·exact go y z
   rw [this];exact fun _=>rfl
 unfold fol
 rw [J,G]
theorem zX {L:List ah} {l:ah} (m:l∈L):bg l.ins∈jj L:=NG.mpr (.inr (O1 m))
theorem WL.same (w:WL L e L' nm):lq L L':=by
 cases w with
 |old _=>rfl
 |new h _=>exact mN h rfl
theorem WL.place (w:WL L e L' nm) (hn:(aq L').Nodup):place L' nm=some e:=by
 cases w with
 |old h=>exact lZ hn h (.head _)
 |new h _=>exact lZ hn (Ol (NA.mp h).1) (.head _)
theorem rG {L:List ah} {x:Sg} {l l':ah} {a:Nat} (h:L[a]? =some l) (q:∀y,y=x→(y∈l'.labs↔y∈l.labs)):Internal.place (L.set a l') x=Internal.place L x:=by
 induction L generalizing a with
 |nil=>cases h
 |cons b L ih=>
  cases a with
  |zero=>
   cases h
   show (if x∈l'.labs then some 0 else _)=if x∈l.labs then some 0 else _
   by_cases z:x∈l.labs
   ·rw [NP z,NP ((q x rfl).mpr z)]
   ·rw [N4 z,N4 fun w=>z ((q x rfl).mp w)]
  |succ a=>
   show (if x∈b.labs then some 0 else _)=if x∈b.labs then some 0 else _
   rw [ih h]
theorem WL.alike (w:WL L e L' nm):iT L L' where
 ins:=fun j=>by
  cases w with
  |old _=>rfl
  |new h _=>
   by_cases z:e=j
   ·subst z
    rw [Ol (NA.mp h).1,h];rfl
   ·rw [Oo z]
 plc:=fun l m=>by
  cases w with
  |old _=>rfl
  |new h q=>exact rG h fun y z=>⟨fun w=>absurd (zX m) (by rw [←z,N3.mp w];exact q),fun w=>nomatch w⟩
theorem sK {g:Itm} {x:Sg} (m:g∈items L) (h:g= .call x∨∃n,g= .lp n x):x∈L.map fun l=>bg l.ins:=by
 refine Np fun nG=> ?_
 obtain ⟨l,m1,m2⟩:=Po.mp m
 have fin:bg l.ins=x→RA:=fun e=>nG (Op.mpr ⟨l,m1,e⟩)
 refine mX ((NG.mp m2).resolve_left fun z=> ?_) (fun m t e1 e2 _=> ?_) (fun t e1 e2=> ?_) fun w i y _ e2=> ?_
 ·obtain ⟨y,_,e⟩:=Op.mp z
  rw [←e] at h
  exact h.elim (fun z=>nomatch z) fun ⟨_,z⟩=>nomatch z
 ·rw [e2] at h
  exact h.elim (fun z=>nomatch z) fun ⟨_,z⟩=>fin (by rw [e1];exact (Itm.lp.inj z).2)
 ·rw [e2] at h
  exact h.elim (fun z=>fin (by rw [e1];exact Itm.call.inj z)) fun ⟨_,z⟩=>nomatch z
 ·rw [e2] at h
  exact h.elim (fun z=>nomatch z) fun ⟨_,z⟩=>nomatch z
noncomputable abbrev nlab (L:List ah):Nat:=(aq L).length
theorem WL.inv (w:WL L e L' nm) (I:Inv P0 L):Inv P0 L'∧nlab L'≤nlab L+1∧wts L'=wts L∧nm≠[]:=by
 have sm:=w.same
 cases w with
 | @old nm ls i h=>exact ⟨I,NZ _,rfl,fun z=>I.core.nil (eS.mpr (oP h (z▸ .head _)))⟩
 | @new k i h q=>
  have q1:oc k∉aq L:=fun m=>q (NG.mpr (.inl (NG.mpr (.inl m))))
  have q2:oc k∉L.map fun l=>bg l.ins:=fun m=>q (NG.mpr (.inr m))
  have e1:items L=items (L.take e)++(jV i++items (L.drop (e+1))):=(NC items (gR h)).trans (by rw [aJ,aR];rfl)
  have e2:items (L.set e ⟨[oc k],i⟩)=items (L.take e)++ .lab (oc k)::(jV i++items (L.drop (e+1))):=(NC items (ph h)).trans (by rw [aJ,aR];rfl)
  refine ⟨⟨?_,sm.shape I.sh,I.tg.set fun m t z=>I.tg _ (NN h) m t z,sm.len▸I.len⟩,?_,xI h rfl,fun z=>nomatch z⟩
  ·rw [e2]
   have C:=I.core
   rw [e1] at C
   exact C.new (fun m=>q1 (eS.mp (e1▸m))) (fun m=>q2 (sK (e1▸m) (.inl rfl))) (fun n m=>q2 (sK (e1▸m) (.inr ⟨n,rfl⟩))) (fun z=>nomatch z)
  ·rw [nlab,nlab,←cG,←cG,e1,e2,OF,OF,Nu,Nu]
   exact NI _
noncomputable def iv (L:List ah) (a:Nat):Prop:=∀ls m t p,L[a]? =some ⟨ls,some (.jump m t)⟩→qP (.jump m t)=true→place L t=some p→fol L m.cc p=p
structure MS (P0:List Itm) (L:List ah) (a:Nat) (L':List ah):Prop where
 inv:Inv P0 L'
 len:L'.length=L.length
 nlab:nlab L'≤nlab L+1
 wts:wts L'=wts L
 fix:iv L' a
 keep:∀j,j≠a→iv L j→iv L' j
 id:iv L a→L'=L
theorem RT.keep (r:RT L a L') (I:Inv P0 L):MS P0 L a L':=by
 cases r with
 |skip h hb=>
  refine ⟨I,rfl,NZ _,rfl,fun ls m t p q hl hp=> ?_,fun j _ f=>f,fun _=>rfl⟩
  rw [h] at q
  cases q
  rw [show place L (cq.jump m t).tgt=some p from hp,hl] at hb
  cases hb
 |same h hp he=>
  refine ⟨I,rfl,NZ _,rfl,fun ls m t p q hl hp'=> ?_,fun j _ f=>f,fun _=>rfl⟩
  rw [h] at q
  cases q
  rw [hp] at hp'
  cases hp'
  exact he
 | @led ls ls' m t nm p L1 h hl hp he w h'=>
  obtain ⟨I1,n1,w1,hn⟩:=w.inv I
  have A:=w.alike
  have la:=(NA.mp h').1
  have ht:t≠[]:=I.tg _ (NN h) m t rfl
  have hm:m≠ .call:=fun z=>by
   subst z
   obtain ⟨l,q1,q2⟩:=iC hp
   exact I.core.call t (zh h (.head _)) (eS.mpr (oP q1 q2))
  have hp1:place L1 t=some p:=(A.plc _ (NN h)).trans hp
  have hq:=w.place I1.nodup
  have F:∀c x,fol (L1.set a ⟨ls',some (.jump m nm)⟩) c x=fol L c x:=fun c x=>(DH (c:=c) I1.sh h' ht hn hp1 A.fol.symm hq rfl x).trans A.fol
  have pl:∀x,Internal.place (L1.set a ⟨ls',some (.jump m nm)⟩) x=Internal.place L1 x:=fun x=>rG h' fun _ _=>Iff.rfl
  have silent:∀t,qQ (.jump m t)=[]:=fun t=>by cases m<;>first|rfl|exact (hm rfl).elim|cases hl
  have si:jJ ⟨ls',some (.jump m nm)⟩=jJ ⟨ls',some (.jump m t)⟩:=NC (ls'.map Itm.lab++ ·) ((silent nm).trans (silent t).symm)
  refine ⟨⟨?_,(mN (l':=⟨ls',some (.jump m nm)⟩) h' rfl).shape I1.sh,I1.tg.set fun m' t' z=>by cases z;exact hn,by rw [OC];exact I1.len⟩,(OC).trans w.len,?_,(xI h' (by cases m<;>rfl)).trans w1,?_,?_,fun f=>(he (f _ _ _ _ h hl hp)).elim⟩
  ·rw [ip h' si];exact I1.core
  ·have:aq (L1.set a ⟨ls',some (.jump m nm)⟩)=aq L1:=by rw [←cG,←cG,ip h' si]
   rw [Internal.nlab,this];exact n1
  ·intro ls2 m2 t2 p2 q _ hp2
   rw [Ol la] at q
   cases q
   rw [pl,hq] at hp2
   cases hp2
   rw [F];exact Du I.sh
  ·intro j hj f ls2 m2 t2 p2 q hl2 hp2
   rw [Oo (TX hj)] at q
   have:=A.ins j
   rw [q] at this
   cases e3:L[j]? with
   |none=>rw [e3] at this;cases this
   |some l=>
    rw [e3] at this
    obtain ⟨ls3,o⟩:=l
    have z:some (cq.jump m2 t2)=o:=Nq this
    subst z
    rw [F]
    refine f _ _ _ _ e3 hl2 ?_
    exact (A.plc _ (NN e3)).symm.trans ((pl _).symm.trans hp2)
end
structure JK (P0:List Itm) (L L':List ah) (k:Nat):Prop where
 inv:Inv P0 L'
 len:L'.length=L.length
 nlab:nlab L'≤nlab L+k
 wts:wts L'=wts L
 id:(∀j,iv L j)→L'=L
theorem JK.cons {P0:List Itm} {L L1 L2:List ah} {a k:Nat} (x:MS P0 L a L1) (y:JK P0 L1 L2 k):JK P0 L L2 (k+1):=
 ⟨y.inv,y.len.trans x.len,Nt y.nlab (Nt (OK x.nlab k) (N8 ((OA _ 1 k).trans (NC (Internal.nlab L+ ·) (O2 1 k))))),y.wts.trans x.wts,fun f=>
  have e:=x.id (f a)
  (y.id (e▸f)).trans e⟩
noncomputable def ym (L:List ah) (xs:List Nat) (L':List ah):Prop:=∀n r2 r3 r4 r5 r6 r7 r8,∃r2' r3' r4' r5' r6' r7' r8',fm (bd (run aj (n+150)) (.one 2) LG) (xs.map ai) (kS L r2 r3 r4 r5 r6 r7 r8) []=some (.next,kS L' r2' r3' r4' r5' r6' r7' r8',[])
theorem ym.cons {L L1 L2:List ah} {a:Nat} {xs:List Nat} (x:uW L a L1) (y:ym L1 xs L2):ym L (a::xs) L2:=fun n r2 r3 r4 r5 r6 r7 r8=>by
 refine Np fun nG=> ?_
 obtain ⟨o,_,_,_,_,_,_,e,t⟩:=x n r2 r3 r4 r5 r6 r7 r8
 refine nG ?_
 rw [NJ,aQ,e]
 show∃r2' r3' r4' r5' r6' r7' r8',(bif o.turns then _ else _)=_
 rw [t]
 exact y n _ _ _ _ _ _ _
theorem FZ {P0:List Itm}:∀k a (L:List ah),a+k+1=L.length→Inv P0 L→nlab L+k≤100→(∀j,j <a→iv L j)→∃L',JK P0 L L' k∧(∀j,j <a+k→iv L' j)∧ym L (P3 a k) L':=by
 intro k
 induction k with
 |zero=>exact fun a L _ I _ f=>⟨L,⟨I,rfl,NI _,rfl,fun _=>rfl⟩,f,fun n r2 r3 r4 r5 r6 r7 r8=>⟨_,_,_,_,_,_,_,rfl⟩⟩
 |succ k ih=>
  intro a L hk I hn f
  have ha:a+1 <L.length:=by rw [←hk];exact PA (PR (OJ k)) 1
  refine Np fun nG=> ?_
  obtain ⟨L1,r,rr⟩:=EF (I.small (Nt (Oj _ _) hn)) ha
  have K:=r.keep I
  have e3:a+(k+1)=a+1+k:=(OA a k 1).symm.trans (Ph a k).symm
  obtain ⟨L2,R,f2,rr2⟩:=ih (a+1) L1 (by rw [K.len,←hk,e3]) K.inv (Nt (OK K.nlab k) (Nt (N8 ((OA _ 1 k).trans (NC (nlab L+ ·) (O2 1 k)))) hn)) fun j hj=>by
   rcases OW (ON hj) with h|h
   ·exact K.keep j (Re h) (f j h)
   ·subst h;exact K.fix
  refine nG ?_
  exact ⟨L2,.cons K R,fun j hj=>f2 j (e3▸hj),.cons rr rr2⟩
theorem cK.fixed {L:List ah} (S:cK L) {k:Nat} (hk:k+1=L.length) (f:∀j,j <k→iv L j):∀j,iv L j:=fun j=>by
 rcases Qt j k with h|h
 ·exact f j h
 ·exact fun ls m t p q=>absurd (S.next q) (PD.mpr (hk▸NX h))
theorem u9 {n:Nat} {L:List ah} {ρ:Loc} {σ:ag} (h:ρ[0]? =some (some (.v (lst L)))):(run aj (n+2)).e (.callB .len [(.var 0)]) ρ σ=some (.v (ai L.length),σ):=by
 refine eQ (n:=n+1) (us:=[lst L]) ?_ JA
 show (((ρ[0]?.join.map _).bind _).bind _)=_
 rw [h];rfl
theorem GU {n k:Nat} {L:List ah} {ρ:Loc} {σ:ag} (h:ρ[0]? =some (some (.v (lst L)))) (hk:L.length=k+1) (hz:L.length≤1000):dN (run aj (n+3)) (.range [(.bin .sub (.callB .len [(.var 0)]) (.cst (.int 1)))]) ρ σ=some ((P3 0 k).map ai,σ):=by
 have e1:(run aj (n+3)).e (.bin .sub (.callB .len [(.var 0)]) (.cst (.int 1))) ρ σ=some (.v (ai k),σ):=
  bW (n:=n+2) (aK (σ1:=σ) (W:= .v (.int 1)) (u9 h) rfl rfl rfl) (by rw [hk,BD _ (OJ k)];rfl)
 rw [oQ]
 show ((((NT ((run aj (n+3)).e _ _ _) _).bind _).bind _))=_
 rw [e1]
 show (iA [ai k]).map _=_
 rw [vy (Nt (NZ k) (Nt (N8 hk.symm) hz)),RG];rfl
theorem yF {n k c:Nat} {L:List ah} {ρ:Loc} {σ:ag} (h:ρ[0]? =some (some (.v (lst L)))) (hk:L.length+1=k+c) (hz:k≤1000):dN (run aj (n+3)) (.range [(.bin .sub (.callB .len [(.var 0)]) (.cst (.int (c:Int)))),(.neg 1),(.neg 1)]) ρ σ=some ((Pf k).reverse.map ai,σ):=by
 have e:(L.length:Int) -(c:Int)=(k:Int) -1:=by
  have:(L.length:Int)+1=(k:Int)+c:=NC Nat.cast hk
  omega
 have e1:(run aj (n+3)).e (.bin .sub (.callB .len [(.var 0)]) (.cst (.int (c:Int)))) ρ σ=some (.v (.int ((k:Int) -1)),σ):=
  bW (n:=n+2) (aK (σ1:=σ) (W:= .v (.int c)) (u9 h) rfl rfl rfl) (by rw [←e];rfl)
 rw [oQ]
 show ((((NT ((run aj (n+3)).e _ _ _) _).bind _).bind _))=_
 rw [e1]
 show (iA [.int ((k:Int) -1),.int (-1),.int (-1)]).map _=_
 rw [xz hz];rfl
theorem sJ {P0:List Itm} {L:List ah} (I:Inv P0 L) (hn:nlab L+L.length≤100):∃L',oo 160 18 [lst L,.tup []] (lst L')∧JK P0 L L' L.length∧∀j,iv L' j:=by
 refine Np fun nG=> ?_
 obtain ⟨k,hk⟩:∃k,L.length=k+1:=Oi (PH I.sh.pos)
 obtain ⟨L',R,f,rr⟩:=FZ k 0 L (by rw [Ow,hk]) I (Nt (N2 (hk▸NZ k) _) hn) fun j h=>absurd h (PS j)
 refine nG ?_
 refine ⟨L',fun n=> ?_,⟨R.inv,R.len,Nt R.nlab (N2 (hk▸NZ k) _),R.wts,R.id⟩,R.inv.sh.fixed (R.len.trans hk).symm fun j h=>f j ((Ow k).symm▸h)⟩
 refine Np fun nG=> ?_
 obtain ⟨r2,r3,r4,r5,r6,r7,r8,e⟩:=rr (n+8) none none none none none none none
 refine nG ?_
 exact bV (n:=n+159) (fn:=kZ) (W:= .v _) (ρ:=kS L' r2 r3 r4 r5 r6 r7 r8) (σ2:=[]) rfl rfl (av (n:=n+159) (show (run aj (n+159)).s (.for_ (.one 2) (.range [(.bin .sub (.callB .len [(.var 0)]) (.cst (.int 1)))]) LG) (kS L none none none none none none none) []=_ from f8 (n:=n+158) (GU (n:=n+155) rfl hk (Nt I.len (by decide))) e) (dW (n:=n+158) rfl)) rfl
section
variable {n a k c:Nat} {L:List ah} {ρ:Loc} {σ σ':ag}
theorem fN {e i:CE} {u w x:V} {σ':ag} (h:rL (run aj n) [e,i] ρ σ=some ([u,x],σ')) (k:i3 u x=some w):(run aj (n+1)).e (.idx e i) ρ σ=some (.v w,σ'):=by
 show (rL (run aj n) [e,i] ρ σ).bind _=_
 rw [h]
 show (i3 u x).map _=_
 rw [k];rfl
theorem gH {e:CE} {f:gV} {U:aA} {u w:V} (h:(run aj n).e e ρ σ=some (U,σ')) (kU:U.toV=some u) (k:kW u f=some w):(run aj (n+1)).e (.attr e f) ρ σ=some (.v w,σ'):=by
 show (eO (run aj n) e ρ σ).bind _=_
 rw [cC h kU]
 show (kW u f).map _=_
 rw [k];rfl
theorem La {e:CE} {us:List V} {u:V} (h:(run aj n).e e ρ σ=some (.cell c,σ)) (hk:σ[c]? =some (.lst (us++[u]))):(run aj (n+1)).e (.callS .pop e []) ρ σ=some (.v u,σ.set c (.lst us)):=by
 show ((run aj n).e e ρ σ).bind _=_
 rw [h]
 show ((σ[c]?).bind V.lst?).bind _=_
 rw [hk]
 show ((us++[u]).getLast?).map (fun x=>(aA.v x,σ.set c (.lst (us++[u]).dropLast)))=_
 rw [RH,TV];rfl
theorem Hp {x i e:CE} {us:List V} {u:V} (h1:eO (run aj n) e ρ σ=some (u,σ)) (h2:(run aj n).e x ρ σ=some (.cell c,σ)) (h3:eO (run aj n) i ρ σ=some (ai a,σ)) (h4:σ[c]? =some (.lst us)) (ha:a <us.length):
  (run aj (n+1)).s (.setIdx x i e) ρ σ=some (.next,ρ,σ.set c (.lst (us.set a u))):=by
 show (eO (run aj n) e ρ σ).bind _=_
 rw [h1]
 show ((run aj n).e x ρ σ).bind _=_
 rw [h2]
 show (eO (run aj n) i ρ σ).bind _=_
 rw [h3]
 show (σ[c]?).bind _=_
 rw [h4]
 show (if (decide (0≤(a:Int))&&decide ((a:Int) <us.length))=true then _ else _:Nr V).map _=_
 rw [NF (Ot a),NF (PC.mpr ha),Bool.and_true,NP rfl,Pg];rfl
theorem bc {t:CE} {A B:List CS} {b:Bool} {r:fc×Loc×ag} (h:cv (run aj n) t ρ σ=some (b,σ')) (k:aH (run aj n) (bif b then A else B) ρ σ'=some r):(run aj (n+1)).s (.ite t A B) ρ σ=some r:=by
 rw [iU,cF,h];exact k
theorem G2 {m:List Bool} {b:Bool} (h:m[a]? =some b):i3 (.lst (m.map .bool)) (ai a)=some (.bool b):=by
 have hi:a <m.length:=(NA.mp h).1
 have hp:lr (m.map V.bool).length (a:Int)=some a:=by
  unfold lr
  rw [NP (Ot a),Nw,NP (PC.mpr hi)];rfl
 show (lr (m.map V.bool).length (a:Int)).bind _=_
 rw [hp]
 show (m.map V.bool)[a]? =_
 rw [OO,h];rfl
theorem ur {i:Nat} {l:ah} (h0:ρ[0]? =some (some (.v (lst L)))) (hi:ρ[i]? =some (some (.v (ai a)))) (h:L[a]? =some l):(run aj (n+2)).e (.idx (.var 0) (.var i)) ρ σ=some (.v (ay l),σ):=by
 have v0:(run aj (n+1)).e (.var 0) ρ σ=some (.v (lst L),σ):=by show ρ[0]?.join.map _=_;rw [h0];rfl
 have vi:(run aj (n+1)).e (.var i) ρ σ=some (.v (ai a),σ):=by show ρ[i]?.join.map _=_;rw [hi];rfl
 exact fN (n:=n+1) (cM v0 vi rfl rfl) (iG h)
theorem lG {i:Nat} {l:ah} (h0:ρ[0]? =some (some (.v (lst L)))) (hi:ρ[i]? =some (some (.v (ai a)))) (h:L[a]? =some l):(run aj (n+3)).e (.attr (.idx (.var 0) (.var i)) .instruction) ρ σ=some (.v (aS l.ins),σ):=
 gH (n:=n+2) (ur h0 hi h) rfl rfl
theorem mo {j:Nat} {o:Nr cq} (h:ρ[j]? =some (some (.v (aS o)))):(run aj (n+20)).e (.callF 5 [(.var j)]) ρ σ=some (.v (.str (bg o)),σ):=by
 have v:(run aj (n+19)).e (.var j) ρ σ=some (.v (aS o),σ):=by show ρ[j]?.join.map _=_;rw [h];rfl
 exact aB (n:=n+19) (us:=[aS o]) (Us:=[.v (aS o)]) (by rw [aZ,v];rfl) rfl (iB o (n+7)) rfl
noncomputable def hH (L:List ah) (a:Nat):List Nat:=match L[a]? with
 |some l=>(match l.ins with
  |some i=>(place L i.tgt).toList++bif fU i then [a+1] else []
  |none=>[])
 |none=>[]
noncomputable def xn (L:List ah):Nat→List Bool→List Nat→List Bool
 |0,m,_=>m
 |k+1,m,todo=>match todo.getLast? with
  |none=>m
  |some a=>bif (m[a]?).getD true then xn L k m todo.dropLast else xn L k (m.set a true) (todo.dropLast++hH L a)
theorem D5:∀k (m:List Bool) todo,(xn L k m todo).length=m.length:=by
 intro k
 induction k with
 |zero=>exact fun _ _=>rfl
 |succ k ih=>
  intro m todo
  unfold xn
  cases todo.getLast? with
  |none=>rfl
  |some a=>
   show (bif (m[a]?).getD true then xn L k m todo.dropLast else xn L k (m.set a true) (todo.dropLast++hH L a)).length=_
   cases (m[a]?).getD true with
   |true=>exact ih m _
   |false=>exact (ih _ _).trans OC
noncomputable def lE (L:List ah) (r5 r6 r7:Nr aA):Loc:=[some (.v (lst L)),some (.v (.tup [])),some (.v (an L)),some (.cell 0),some (.cell 1),r5,r6,r7,none]
noncomputable def ie (m:List Bool) (todo:List Nat):ag:=[.lst (m.map .bool),.lst (todo.map ai)]
noncomputable def Jn:List CS:=[.assign 6 (.callS .pop (.var 4) []),
  .ite (.idx (.var 3) (.var 6)) [.cont] [],
  .setIdx (.var 3) (.var 6) (.cst (.bool true)),
  .assign 7 (.attr (.idx (.var 0) (.var 6)) .instruction),
  .ite (.cmp (.var 7) .is_ (.cst .none)) [.cont] [],
  .ite (.cmp (.callF 5 [(.var 7)]) .in_ (.var 2)) [.expr (.callS .append (.var 4) [(.idx (.var 2) (.callF 5 [(.var 7)]))])] [],
  .ite (.callF 9 [(.var 7)]) [.expr (.callS .append (.var 4) [(.bin .add (.var 6) (.cst (.int 1)))])] []]
variable {m:List Bool} {T:List Nat} {r5 r6 r7:Nr aA} {l:ah} {i:cq}
theorem B7 {cs:List CS} {r:fc×Loc×ag} (h:aH (run aj (n+60)) cs (lE L r5 (some (.v (ai a))) r7) (ie m T)=some r):aH (run aj (n+60)) (.assign 6 (.callS .pop (.var 4) [])::cs) (lE L r5 r6 r7) (ie m (T++[a]))=some r:=by
 have p:(run aj (n+59)).e (.callS .pop (.var 4) []) (lE L r5 r6 r7) (ie m (T++[a]))=some (.v (ai a),ie m T):=
  La (n:=n+58) (c:=1) (us:=T.map ai) (u:=ai a) rfl (show some (V.lst ((T++[a]).map ai))=some (V.lst (T.map ai++[ai a])) from NC (fun z=>some (V.lst z)) N1)
 exact av (aD (n:=n+59) rfl p rfl) h
theorem yx {b:Bool} (h:m[a]? =some b):cv (run aj (n+59)) (.idx (.var 3) (.var 6)) (lE L r5 (some (.v (ai a))) r7) (ie m T)=some (b,ie m T):=
 gB (fN (n:=n+58) (cM (U:= .cell 0) (W:= .v (ai a)) rfl rfl rfl rfl) (G2 h))
theorem Iv (h:m[a]? =some true):aH (run aj (n+60)) Jn (lE L r5 r6 r7) (ie m (T++[a]))=some (.cont,lE L r5 (some (.v (ai a))) r7,ie m T):=
 B7 (eg (bc (n:=n+59) (yx h) rfl) rfl)
theorem Ih (h:a <m.length):(run aj (n+60)).s (.setIdx (.var 3) (.var 6) (.cst (.bool true))) (lE L r5 (some (.v (ai a))) r7) (ie m T)=some (.next,lE L r5 (some (.v (ai a))) r7,ie (m.set a true) T):=by
 rw [Hp (n:=n+59) (a:=a) (c:=0) (us:=m.map .bool) (u:= .bool true) rfl rfl rfl rfl (by rw [Nw];exact h),←U4];rfl
theorem BN {cs:List CS} {r:fc×Loc×ag} (h:m[a]? =some false) (hl:L[a]? =some l) (k:aH (run aj (n+60)) cs (lE L r5 (some (.v (ai a))) (some (.v (aS l.ins)))) (ie (m.set a true) T)=some r):
  aH (run aj (n+60)) (.assign 6 (.callS .pop (.var 4) []):: .ite (.idx (.var 3) (.var 6)) [.cont] []:: .setIdx (.var 3) (.var 6) (.cst (.bool true)):: .assign 7 (.attr (.idx (.var 0) (.var 6)) .instruction)::cs) (lE L r5 r6 r7) (ie m (T++[a]))=some r:=
 B7 (av (bc (n:=n+59) (yx h) rfl) (av (Ih (NA.mp h).1) (av (aD (n:=n+59) (U:= .v (aS l.ins)) rfl (lG (n:=n+56) rfl rfl hl) rfl) k)))
theorem IN (h:m[a]? =some false) (hl:L[a]? =some l) (hi:l.ins=none):aH (run aj (n+60)) Jn (lE L r5 r6 r7) (ie m (T++[a]))=some (.cont,lE L r5 (some (.v (ai a))) (some (.v .none)),ie (m.set a true) T):=
 BN h hl (by rw [hi];exact eg (bc (n:=n+59) (bJ (n:=n+58) (o:= .is_) (U:= .v .none) (W:= .v .none) rfl rfl rfl rfl rfl) rfl) rfl)
theorem JG (hz:T.length <1000):(run aj (n+60)).s (.ite (.cmp (.callF 5 [(.var 7)]) .in_ (.var 2)) [.expr (.callS .append (.var 4) [(.idx (.var 2) (.callF 5 [(.var 7)]))])] []) (lE L r5 r6 (some (.v (aP i)))) (ie m T)=
  some (.next,lE L r5 r6 (some (.v (aP i))),ie m (T++(place L i.tgt).toList)):=by
 have e1:(run aj (n+58)).e (.callF 5 [(.var 7)]) (lE L r5 r6 (some (.v (aP i)))) (ie m T)=some (.v (.str i.tgt),ie m T):=mo (n:=n+38) (o:=some i) rfl
 refine bc (n:=n+59) (bJ (n:=n+58) (o:= .in_) e1 rfl (W:= .v (an L)) rfl rfl vp) ?_
 cases hp:place L i.tgt with
 |none=>show some (fc.next,_,ie m T)=some (fc.next,_,ie m (T++[]));rw [NQ]
 |some p=>
  refine bk ?_
  rw [ke (n:=n+57) (k:=1) (ws:=T.map ai) (us:=T.map ai) (u:=ai p) (σ1:=ie m T) (σ2:=ie m T) rfl rfl (cC (fN (n:=n+56) (cM (U:= .v (an L)) (W:= .v (.str i.tgt)) rfl (mo (n:=n+36) (o:=some i) rfl) rfl rfl) (pT hp)) rfl) rfl (by rw [Nw];exact Nt hz (by decide))]
  show some (fc.next,_,[V.lst (m.map .bool),V.lst (T.map ai++[ai p])])=some (fc.next,_,[V.lst (m.map .bool),V.lst ((T++[p]).map ai)])
  rw [N1];rfl
theorem J1 (hz:T.length <1000):(run aj (n+60)).s (.ite (.callF 9 [(.var 7)]) [.expr (.callS .append (.var 4) [(.bin .add (.var 6) (.cst (.int 1)))])] []) (lE L r5 (some (.v (ai a))) (some (.v (aP i)))) (ie m T)=
  some (.next,lE L r5 (some (.v (ai a))) (some (.v (aP i))),ie m (T++bif fU i then [a+1] else [])):=by
 refine bc (n:=n+59) (gB (aB (n:=n+58) (us:=[aP i]) (Us:=[.v (aP i)]) rfl rfl (tz i (n+28)) rfl)) ?_
 cases fU i with
 |false=>show some (fc.next,_,ie m T)=some (fc.next,_,ie m (T++[]));rw [NQ]
 |true=>
  refine bk ?_
  rw [ke (n:=n+57) (k:=1) (ws:=T.map ai) (us:=T.map ai) (u:=ai (a+1)) (σ1:=ie m T) (σ2:=ie m T) rfl rfl (cC (bW (n:=n+56) (o:= .add) (l:= .var 6) (r:= .cst (.int 1)) (x:=ai a) (y:= .int 1) rfl (yd a)) rfl) rfl (by rw [Nw];exact Nt hz (by decide))]
  show some (fc.next,_,[V.lst (m.map .bool),V.lst (T.map ai++[ai (a+1)])])=some (fc.next,_,[V.lst (m.map .bool),V.lst ((T++[a+1]).map ai)])
  rw [N1];rfl
theorem IK {ls:List Sg} (h:m[a]? =some false) (hl:L[a]? =some ⟨ls,some i⟩) (hz:T.length <999):aH (run aj (n+60)) Jn (lE L r5 r6 r7) (ie m (T++[a]))=
  some (.next,lE L r5 (some (.v (ai a))) (some (.v (aP i))),ie (m.set a true) (T++hH L a)):=by
 have es:hH L a=(place L i.tgt).toList++bif fU i then [a+1] else []:=by unfold hH;rw [hl]
 rw [es,←NR]
 refine BN h hl (av (bc (n:=n+59) (b:=false) (bJ (n:=n+58) (o:= .is_) (U:= .v (aP i)) (W:= .v .none) rfl rfl rfl rfl (bl i)) rfl) (av (JG (U6 hz)) (bk (J1 ?_))))
 rw [Nu]
 exact NL (N2 (Q8) _) (P5 hz)
end
theorem zL (L:List ah) (a:Nat):(hH L a).length≤2:=by
 unfold hH
 cases L[a]? with
 |none=>exact Oe _
 |some l=>
  obtain ⟨ls,o⟩:=l
  cases o with
  |none=>exact Oe _
  |some i=>
   show ((place L i.tgt).toList++bif fU i then [a+1] else []).length≤2
   rw [Nu]
   have h2:(bif fU i then [a+1] else []).length≤1:=by cases fU i with
    |false=>exact Oe _
    |true=>exact NI _
   exact Of Q8 h2
theorem Dx {L:List ah} (S:cK L) {a x:Nat} (m:x∈hH L a):x <L.length:=by
 unfold hH at m
 cases h:L[a]? with
 |none=>rw [h] at m;cases m
 |some l=>
  rw [h] at m
  obtain ⟨ls,o⟩:=l
  cases o with
  |none=>cases m
  |some i=>
   rcases NG.mp (show x∈(place L i.tgt).toList++bif fU i then [a+1] else [] from m) with m|m
   ·exact fi (Option.mem_toList.mp m)
   ·cases q:fU i with
    |false=>rw [q] at m;cases m
    |true=>rw [q] at m;rw [N3.mp m];exact S.next h
noncomputable def nu (m:List Bool):Nat:=m.countP fun b=> !b
theorem xr {m:List Bool} {a:Nat} (h:m[a]? =some false):nu (m.set a true)+1=nu m:=by
 obtain ⟨ha,e⟩:=NA.mp h
 unfold nu
 have hp:0 <m.countP fun b=> !b:=List.countP_pos_iff.mpr ⟨false,NN h,rfl⟩
 rw [List.countP_set ha,e]
 exact Nat.succ_pred_eq_of_pos hp
theorem Ch (L:List ah) (k a:Nat) (m:List Bool) (T:List Nat):xn L (k+1) m (T++[a])=bif (m[a]?).getD true then xn L k m T else xn L k (m.set a true) (T++hH L a):=by
 conv=>lhs;unfold xn
 rw [RH]
 show (bif (m[a]?).getD true then xn L k m (T++[a]).dropLast else xn L k (m.set a true) ((T++[a]).dropLast++hH L a))=_
 rw [TV]
theorem CR {n:Nat} {L:List ah} (S:cK L):∀k M (m:List Bool) T r5 r6 r7,T.length+3*nu m≤k→k <M→k <900→m.length=L.length→(∀x∈T,x <L.length)→
  ∃r6' r7',fW (cv (run aj (n+60)) (.cmp (.callB .len [(.var 4)]) .gt (.cst (.int 0)))) (aH (run aj (n+60)) Jn) M (lE L r5 r6 r7) (ie m T)=some (.next,lE L r5 r6' r7',ie (xn L k m T) []):=by
 have test:∀(b:Bool) (m:List Bool) (T:List Nat) r5 r6 r7,decide (0 <T.length)=b→cv (run aj (n+60)) (.cmp (.callB .len [(.var 4)]) .gt (.cst (.int 0))) (lE L r5 r6 r7) (ie m T)=some (b,ie m T):=fun b m T r5 r6 r7 h=>
  bJ (n:=n+59) (o:= .gt) (U:= .v (.int T.length)) (W:= .v (.int 0)) (eQ (n:=n+58) (us:=[.lst (T.map ai)]) rfl (show some (V.int ((T.map ai).length:Nat))=_ by rw [Nw])) rfl rfl rfl (by rw [cR,←h];exact NC some (O4.mpr QV))
 intro k
 induction k with
 |zero=>
  intro M m T r5 r6 r7 hk hM _ _ _
  obtain ⟨M,rfl⟩:∃j,M=j+1:=Oi (PH hM)
  have:T=[]:=RD (Nat.le_zero.mp (Nt (Oj _ _) hk))
  subst this
  refine ⟨r6,r7,?_⟩
  show (cv _ _ _ _).bind _=_
  rw [test false m [] r5 r6 r7 rfl];rfl
 |succ k ih=>
  intro M m T r5 r6 r7 hk hM h9 hm hT
  obtain ⟨M,rfl⟩:∃j,M=j+1:=Oi (PH (NL (Oe _) hM))
  rcases Qz T with rfl|⟨T,a,rfl⟩
  ·refine ⟨r6,r7,?_⟩
   show (cv _ _ _ _).bind _=_
   rw [test false m [] r5 r6 r7 rfl];rfl
  ·rw [P9] at hk hT ⊢
   have hl:(T++[a]).length=T.length+1:=Nu
   have ha:a <L.length:=hT a (NG.mpr (.inr (.head _)))
   have hT':∀x∈T,x <L.length:=fun x m=>hT x (NG.mpr (.inl m))
   rw [Ch]
   rw [hl] at hk
   show∃r6' r7',(cv _ _ _ _).bind _=_
   rw [test true m (T++[a]) r5 r6 r7 (by rw [hl];exact NF (OJ _))]
   show∃r6' r7',(aH _ Jn _ _).bind _=_
   have hz:T.length <899:=OT (NL (Nt (Oj _ _) hk) h9)
   have hM':=OT hM
   have h9':=O8 h9
   have hma:a <m.length:=hm▸ha
   cases q:m[a]? with
   |none=>exact absurd hma (PD.mpr (List.getElem?_eq_none_iff.mp q))
   |some b=>
    cases b with
    |true=>
     rw [Iv q]
     exact ih M m T r5 _ _ (PY (by rw [←Ph];exact hk)) hM' h9' hm hT'
    |false=>
     have hf:=xr q
     have hk':(T++hH L a).length+3*nu (m.set a true)≤k:=by
      rw [Nu]
      have:=zL L a
      omega
     have hT2:∀x∈T++hH L a,x <L.length:=fun x m=>(NG.mp m).elim (hT' x) (Dx S)
     have hl:=NB ha
     generalize L[a]=l at hl
     obtain ⟨ls,o⟩:=l
     cases o with
     |none=>
      have e0:hH L a=[]:=by unfold hH;rw [hl]
      rw [e0,NQ] at hk' hT2
      rw [IN q hl rfl]
      show∃r6' r7',_=some (fc.next,lE L r5 r6' r7',ie (xn L k (m.set a true) (T++hH L a)) [])
      rw [e0,NQ]
      exact ih M (m.set a true) T r5 _ _ hk' hM' h9' (OC.trans hm) hT2
     |some i=>
      rw [IK q hl (On hz (by decide))]
      exact ih M (m.set a true) _ r5 _ _ hk' hM' h9' (OC.trans hm) hT2
noncomputable def MN:List CS:=[.ite (.cmp (.var 5) .in_ (.var 2)) [.expr (.callS .append (.var 4) [(.idx (.var 2) (.var 5))])] []]
theorem ER {n:Nat} {L:List ah} {m:List Bool} {T:List Nat} {r5 r6 r7:Nr aA} {x:Sg} (hz:T.length <1000):bd (run aj (n+60)) (.one 5) MN (.str x) (lE L r5 r6 r7) (ie m T)=some (.next,lE L (some (.v (.str x))) r6 r7,ie m (T++(place L x).toList)):=by
 show aH (run aj (n+60)) MN (lE L (some (.v (.str x))) r6 r7) (ie m T)=_
 refine bk (bc (n:=n+59) (bJ (n:=n+58) (o:= .in_) (U:= .v (.str x)) (W:= .v (an L)) rfl rfl rfl rfl vp) ?_)
 cases hp:place L x with
 |none=>show some (fc.next,_,ie m T)=some (fc.next,_,ie m (T++[]));rw [NQ]
 |some p=>
  refine bk ?_
  rw [ke (n:=n+57) (k:=1) (ws:=T.map ai) (us:=T.map ai) (u:=ai p) (σ1:=ie m T) (σ2:=ie m T) rfl rfl (cC (fN (n:=n+56) (cM (U:= .v (an L)) (W:= .v (.str x)) rfl rfl rfl rfl) (pT hp)) rfl) rfl (by rw [Nw];exact Nt hz (by decide))]
  show some (fc.next,_,[V.lst (m.map .bool),V.lst (T.map ai++[ai p])])=some (fc.next,_,[V.lst (m.map .bool),V.lst ((T++[p]).map ai)])
  rw [N1];rfl
theorem Ba {n:Nat} {L:List ah} {m:List Bool} {r6 r7:Nr aA}:∀(xs:List Sg) (T:List Nat) r5,T.length+xs.length <1000→
  ∃r5',fm (bd (run aj (n+60)) (.one 5) MN) (xs.map .str) (lE L r5 r6 r7) (ie m T)=some (.next,lE L r5' r6 r7,ie m (T++xs.filterMap (place L))):=by
 intro xs
 induction xs with
 |nil=>exact fun T r5 _=>⟨r5,by rw [List.filterMap_nil,NQ];rfl⟩
 |cons x xs ih=>
  intro T r5 hz
  obtain ⟨r5',e⟩:=ih (T++(place L x).toList) (some (.v (.str x))) (by
   rw [Nu]
   exact NL (OK (N2 Q8 _) _) (by rw [OA,O2 1];exact hz))
  refine ⟨r5',?_⟩
  rw [NJ,aQ,ER (NL (Oj _ _) hz)]
  show fm _ _ _ _=_
  rw [e,NR]
  cases q:place L x with
  |none=>rw [SD q];rfl
  |some p=>rw [SG q];rfl
noncomputable def gp (L:List ah):List Bool:=xn L 100 (L.map fun _=>false) ([0]++(named L).filterMap (place L))
theorem wk (L:List ah):nu (L.map fun _=>false)=L.length:=by
 induction L with
 |nil=>rfl
 |cons l L ih=>exact (List.countP_cons_of_pos (p:=fun b=> !b) rfl).trans (NC (· +1) ih)
theorem zB {L:List ah} (S:bX L):mH 70 21 [lst L,.tup []] (.lst ((gp L).map .bool)):=fun n=>by
 have hn:=Nt (jn L) S.len
 refine Np fun nG=> ?_
 obtain ⟨r5,e1⟩:=Ba (n:=n+8) (L:=L) (m:=L.map fun _=>false) (r6:=none) (r7:=none) (named L) [0] none (NL (N2 hn _) (by decide))
 obtain ⟨r6,r7,e2⟩:=CR (n:=n+8) S.sh 100 turns (L.map fun _=>false) ([0]++(named L).filterMap (place L)) r5 none none
  (by
   rw [wk,Nu]
   have h1:=SH (place L) (named L)
   have h2:=S.len
   have h3:[0].length=1:=rfl
   omega) (by decide) (by decide) (Nw _) fun x m=>(NG.mp m).elim (fun m=>by rw [N3.mp m];exact S.sh.pos) fun m=>let ⟨y,_,q⟩:=Pk.mp m;fi q
 refine nG ?_
 have c1:(run aj (n+68)).e (.comp (.cst (.bool false)) [(.mk (.one 8) (.seq (.var 0)) [])]) [some (.v (lst L)),some (.v (.tup [])),some (.v (an L)),none,none,none,none,none,none] []=some (.own (.lst ((L.map fun _=>false).map .bool)),[]):=by
  have h:=g9 (n:=n+67) (elt:= .cst (.bool false)) (t:= .one 8) (it:= .seq (.var 0)) (ifs:=[]) (gs:=[]) (ρ:=[some (.v (lst L)),some (.v (.tup [])),some (.v (an L)),none,none,none,none,none,none]) (σ:=[]) (xs:=L) (enc:=ay) (g:=fun _=>[V.bool false]) (by kernel_rfl) (fun l _=>by kernel_rfl) (by rw [gi,Nw];exact Nt S.len (by decide))
  rw [gi] at h
  rw [OP];exact h
 have s1:(run aj (n+69)).s (.assign 2 (.callF 10 [(.var 0)])) [some (.v (lst L)),some (.v (.tup [])),none,none,none,none,none,none,none] []=some (.next,[some (.v (lst L)),some (.v (.tup [])),some (.v (an L)),none,none,none,none,none,none],[]):=
  aD (n:=n+68) rfl (aB (n:=n+67) (us:=[lst L]) (Us:=[.v (lst L)]) rfl rfl (jm S.nodup (Nt S.labs (by decide)) (n+27)) rfl) rfl
 have s2:(run aj (n+69)).s (.assignT [(3,true),(4,true)] [(.comp (.cst (.bool false)) [(.mk (.one 8) (.seq (.var 0)) [])]),(.lst [(.cst (.int 0))])]) [some (.v (lst L)),some (.v (.tup [])),some (.v (an L)),none,none,none,none,none,none] []=some (.next,lE L none none none,ie (L.map fun _=>false) [0]):=by
  rw [iU,aI,iI,c1];rfl
 have hi:dN (run aj (n+68)) (.seq (.bin .add (.callB .list_ [(.var 1)]) (.callF 19 [(.var 0)]))) (lE L none none none) (ie (L.map fun _=>false) [0])=some ((named L).map .str,ie (L.map fun _=>false) [0]):=by
  rw [uD,cC (bW (n:=n+67) (o:= .add) (aK (σ1:=ie (L.map fun _=>false) [0]) (U:= .v (.lst [])) (eQ (n:=n+66) (us:=[.tup []]) rfl CB) rfl (aB (n:=n+66) (us:=[lst L]) (Us:=[.v (lst L)]) rfl rfl (tp S.rows (Nt hn (by decide)) (n+26)) rfl) rfl) (Ao (Nt hn (by decide)))) rfl]
  rfl
 exact bV (n:=n+69) (fn:=pq) (W:= .cell 0) (ρ:=lE L r5 r6 r7) (σ2:=ie (gp L) []) rfl rfl
  (av s1 (av s2 (av (f8 (n:=n+68) hi e1) (av (n:=n+69) (show (run aj (n+69)).s (.while_ (.cmp (.callB .len [(.var 4)]) .gt (.cst (.int 0))) Jn) _ _=_ from e2) (dW (n:=n+68) rfl))))) rfl
noncomputable def k9 (m:List Bool) (p:ah×Nat):Bool:=(m[p.2]?).getD false||p.1.ins.isNone
noncomputable def gI (L:List ah):List ah:=((L.zipIdx 0).filter (k9 (gp L))).map (·.1)
theorem Kz (o:Nr cq):FF (aS o) .none=some o.isNone:=by
 cases o with
 |none=>rfl
 |some i=>exact bl i
theorem nh {p:ah×Nat→Bool}:∀xs:List (ah×Nat),(xs.flatMap fun x=>if p x then [ay x.1] else [])=((xs.filter p).map (·.1)).map ay
 |[]=>rfl
 |x::xs=>by
  rw [Pv,nh xs,Vn]
  cases p x<;>rfl
noncomputable def KJ (L:List ah) (m:List Bool) (r3 r4:Nr aA):Loc:=[some (.v (lst L)),some (.v (.tup [])),some (.v (.lst (m.map .bool))),r3,r4]
theorem Ew {n k:Nat} {L:List ah} {m:List Bool} {l:ah} (h:k <m.length):cv (run aj (n+60)) (.or [(.idx (.var 2) (.var 3)),(.cmp (.attr (.var 4) .instruction) .is_ (.cst .none))]) (KJ L m (some (.v (ai k))) (some (.v (ay l)))) []=some (k9 m (l,k),[]):=by
 have h':=NB h
 have e:k9 m (l,k)=(m[k]||l.ins.isNone):=by unfold k9;rw [h'];rfl
 rw [e]
 exact u7 (n:=n+59) (gB (fN (n:=n+58) (cM (U:= .v (.lst (m.map .bool))) (W:= .v (ai k)) rfl rfl rfl rfl) (G2 h'))) fun _=>bJ (n:=n+58) (o:= .is_) (U:= .v (aS l.ins)) (W:= .v .none) rfl rfl rfl rfl (Kz l.ins)
theorem wF (L:List ah):(gp L).length=L.length:=(D5 _ _ _).trans (Nw _)
theorem uI {L:List ah} (S:bX L):mH 80 22 [lst L,.tup []] (lst (gI L)):=fun n=>by
 have h:=g9 (n:=n+77) (elt:= .var 4) (t:= .two 3 4) (it:= .enum (.var 0)) (ifs:=[(.or [(.idx (.var 2) (.var 3)),(.cmp (.attr (.var 4) .instruction) .is_ (.cst .none))])]) (gs:=[]) (ρ:=KJ L (gp L) none none) (σ:=[]) (xs:=L.zipIdx 0) (enc:=qf) (g:=fun p=>if k9 (gp L) p then [ay p.1] else [])
  (show some (jh 0 (L.map ay),([]:ag))=_ by rw [mQ]) (fun p m=>by
   obtain ⟨l,k⟩:=p
   have hk:k <(gp L).length:=by
    have:=(VH m).2.1
    rw [wF];rw [Ow] at this;exact this
   show (NT (NT (cv (run aj (n+77)) _ (KJ L (gp L) (some (.v (ai k))) (some (.v (ay l)))) []) _) _)=_
   rw [Ew (n:=n+17) hk]
   cases k9 (gp L) (l,k)<;>rfl)
  (by rw [nh,Nw,Nw];exact Nt (Tx _ _) (by rw [List.length_zipIdx];exact Nt S.len (by decide)))
 rw [nh] at h
 have s1:(run aj (n+79)).s (.assign 2 (.callF 21 [(.var 0),(.var 1)])) [some (.v (lst L)),some (.v (.tup [])),none,none,none] []=some (.next,KJ L (gp L) none none,[]):=
  aD (n:=n+78) rfl (aB (n:=n+77) (us:=[lst L,.tup []]) (Us:=[.v (lst L),.v (.tup [])]) rfl rfl (zB S (n+7)) rfl) rfl
 exact bV (n:=n+79) (fn:=jO) (W:= .own _) (ρ:=KJ L (gp L) none none) rfl rfl (av s1 (dW (n:=n+78) h)) rfl
structure eH (P0:List Itm) (L L':List ah):Prop where
 inv:Inv P0 L'
 nlab:nlab L'≤nlab L
 or:L'=L∨wts L' <wts L
section
variable {P0:List Itm} {L L' L2 A B:List ah} {l x y z:ah}
theorem eH.refl (I:Inv P0 L):eH P0 L L:=⟨I,NI _,.inl rfl⟩
theorem eH.trans (p:eH P0 L L') (q:eH P0 L' L2):eH P0 L L2:=⟨q.inv,Nt q.nlab p.nlab,by
 rcases q.or with h|h
 ·exact h▸p.or
 ·rcases p.or with e|e
  ·subst e;exact .inr h
  ·exact .inr (PE h e)⟩
theorem ju (h:L'.Sublist L):(items L').Sublist (items L):=by
 induction h with
 |slnil=>exact .slnil
 |cons a _ ih=>rw [aR];exact ih.trans (Oh _ _)
 |cons_cons a _ ih=>rw [aR,aR];exact (Pw _).append ih
theorem D9 (h:L'.Sublist L):wts L'+L.length≤wts L+L'.length:=by
 induction h with
 |slnil=>exact NI _
 | @cons L' L a _ ih=>
  rw [bu,O5,←OA,O2 (wt a.ins)]
  exact Nt (Of ih (Dv a.ins)) (N8 (Si _ _ _))
 | @cons_cons L' L a _ ih=>
  rw [bu,bu,O5,O5,←OA,←OA]
  exact NX (by rw [OA,OA];exact N2 ih _)
theorem gJ (h:(items L').Sublist (items L)):nlab L'≤nlab L:=by
 unfold nlab
 rw [←cG,←cG]
 exact (h.filterMap _).length_le
theorem cK.mk' (hl:l.ins=none) (hA:∀x∈A,x.ins.isSome=true):cK (A++[l]) where
 pos:=by rw [Nu];exact OJ _
 row:=fun i h=>by
  rw [Nu] at h
  have h:=OT h
  have q:=hA A[i] (Vg h)
  rw [OE h,NB h]
  generalize A[i]=x at q
  obtain ⟨ls,o⟩:=x
  cases o with
  |none=>cases q
  |some i=>exact ⟨_,_,rfl⟩
 last:=fun i x h e=>by
  rw [Nu] at h
  have h:=PX h
  subst h
  rw [OG (NI _),PZ] at e
  cases e;exact hl
theorem cK.ex (S:cK L):∃A l,L=A++[l]∧l.ins=none∧∀x∈A,x.ins.isSome=true:=by
 rcases Qz L with h|⟨A,l,h⟩
 ·subst h;exact absurd S.pos (OD 0)
 ·rw [P9] at h
  subst h
  refine ⟨A,l,rfl,S.last A.length l (by rw [Nu];rfl) (by rw [OG (NI _),PZ];rfl),fun x m=> ?_⟩
  obtain ⟨i,hi,e⟩:=Pd m
  obtain ⟨ls,y,q⟩:=S.row i (by rw [Nu];exact P5 hi)
  rw [OE hi,NB hi,e] at q
  cases q;rfl
theorem eH.sub (I:Inv P0 L) (h:L'.Sublist L) (S:cK L'):eH P0 L L' where
 inv:=⟨I.core.sub (ju h),S,fun l m=>I.tg l (h.mem m),Nt h.length_le I.len⟩
 nlab:=gJ (ju h)
 or:=by
  rcases OW h.length_le with q|q
  ·refine .inr (Nat.lt_of_add_lt_add_right (n:=L.length) (NL (D9 h) (QO q _)))
  ·exact .inl (h.eq_of_length q)
theorem nZ (I:Inv P0 L):eH P0 L (gI L):=by
 have hs:(gI L).Sublist L:=by
  have:=(Ub (p:=k9 (gp L)) (l:=L.zipIdx 0)).map (·.1)
  rw [List.zipIdx_map_fst] at this
  exact this
 refine eH.sub I hs ?_
 obtain ⟨A,l,rfl,hl,hA⟩:=I.sh.ex
 unfold gI
 rw [List.zipIdx_append,List.filter_append,N1]
 have e:([l].zipIdx (0+A.length)).filter (k9 (gp (A++[l])))=[(l,0+A.length)]:=by
  have:k9 (gp (A++[l])) (l,0+A.length)=true:=by unfold k9;rw [hl];exact Bool.or_true _
  exact (List.filter_cons_of_pos this).trans rfl
 rw [e]
 refine .mk' hl fun x m=> ?_
 obtain ⟨p,m1,rfl⟩:=Op.mp m
 exact hA _ (List.fst_mem_of_mem_zipIdx (QW.mp m1).1)
end
section
variable {P0:List Itm} {L L' L2 A B:List ah} {x y z:ah} {a b n:Nat} {ρ:Loc} {σ:ag}
theorem qh (h:L[a]? =some x) (h':L[a+1]? =some y):L=L.take a++x::y::L.drop (a+2):=by
 have e:=gR h
 have e2:L.drop (a+1)=y::L.drop (a+2):=by
  refine Np fun nG=> ?_
  obtain ⟨ha,q⟩:=NA.mp h'
  refine nG ?_
  rw [←q,Rp]
 rw [e2] at e;exact e
noncomputable def cut (L:List ah) (a:Nat) (z:ah):List ah:=L.take a++z::L.drop (a+2)
theorem yY (h:L[a]? =some x) (h':L[a+1]? =some y) (S:cK L) (e:z.ins.isSome=y.ins.isSome):cK (cut L a z):=by
 have e1:=qh h h'
 have ha:(L.take a).length=a:=OV (NY (NA.mp h).1)
 have S1:cK (L.take a++y::L.drop (a+2)):=by
  refine Np fun nG=> ?_
  obtain ⟨C,l,q,hl,hC⟩:=S.ex
  refine nG ?_
  have lc:a <C.length:=by
   have:=(NA.mp h').1
   rw [q,Nu] at this
   exact OT this
  have:L.eraseIdx a=L.take a++y::L.drop (a+2):=by
   conv=>lhs;rw [e1]
   rw [List.eraseIdx_append_of_length_le (N8 ha),ha,PZ];rfl
  rw [←this,q,List.eraseIdx_append_of_lt_length lc]
  exact .mk' hl fun x m=>hC x (List.mem_of_mem_eraseIdx m)
 exact lq.shape (L:=L.take a++y::L.drop (a+2)) (by unfold lq cut;rw [N1,N1,NJ,NJ,e]) S1
theorem mI (h:L[a]? =some x) (h':L[a+1]? =some y):(cut L a z).length+1=L.length:=by
 conv=>rhs;rw [qh h h']
 unfold cut
 rw [Nu,Nu];rfl
theorem FG (h:L[a]? =some x) (h':L[a+1]? =some y) {l:ah} (m:l∈cut L a z):l=z∨l∈L:=by
 rcases NG.mp m with m|m
 ·exact .inr (Pj m)
 ·exact (NW.mp m).imp id OB
theorem eH.drop (I:Inv P0 L) (h:L[a]? =some x) (h':L[a+1]? =some y):eH P0 L (cut L a ⟨x.labs++y.labs,y.ins⟩):=by
 have e:=qh h h'
 have hs:(items (cut L a ⟨x.labs++y.labs,y.ins⟩)).Sublist (items L):=by
  conv=>rhs;rw [e]
  unfold cut
  rw [aJ,aJ,aR,aR,aR,jJ,jJ,jJ,N1,NR,NR,NR,NR]
  exact (Pw _).append ((Pw _).append (Oh _ _))
 refine ⟨⟨I.core.sub hs,yY h h' I.sh rfl,fun l m=> ?_,Nt (NZ _) (Nt (N8 (mI h h')) I.len)⟩,gJ hs,.inr ?_⟩
 ·rcases FG h h' m with rfl|m
  ·exact I.tg y (NN h')
  ·exact I.tg l m
 ·conv=>rhs;rw [e]
  unfold cut
  rw [bO,bO,bu,bu,bu]
  exact QO (Nat.lt_add_of_pos_left (Dv _)) _
theorem eH.set (I:Inv P0 L) (h:L[a]? =some x) (hi:jJ z=jJ x) (hs:z.ins.isSome=x.ins.isSome) (ht:∀m t,z.ins=some (.jump m t)→t≠[]) (hw:wt z.ins <wt x.ins):eH P0 L (L.set a z) where
 inv:=⟨by rw [ip h hi];exact I.core,(mN h hs).shape I.sh,I.tg.set ht,by rw [OC];exact I.len⟩
 nlab:=gJ (by rw [ip h hi];exact Pw _)
 or:= .inr (by
  conv=>rhs;rw [gR h]
  rw [ph h,bO,bO,bu,bu]
  exact QO (PA hw _) _)
theorem Bu {e1 e2 e3:CE} (h0:ρ[0]? =some (some (.v (lst L)))) (h1:(run aj n).e e1 ρ σ=some (.v (ai a),σ)) (h2:(run aj n).e e2 ρ σ=some (.v (ay z),σ)) (h3:(run aj (n+1)).e e3 ρ σ=some (.v (ai b),σ)) (ha:a≤L.length) (hb:b≤L.length) (hz:L.length≤1000):
  (run aj (n+3)).e (.bin .add (.bin .add (.slc (.var 0) none (some e1)) (.lst [e2])) (.slc (.var 0) (some e3) none)) ρ σ=some (.v (lst (L.take a++z::L.drop b)),σ):=by
 have v0:∀m,eO (run aj (m+1)) (.var 0) ρ σ=some (lst L,σ):=fun m=>cC (show ρ[0]?.join.map _=_ by rw [h0];rfl) rfl
 have s1:(run aj (n+1)).e (.slc (.var 0) none (some e1)) ρ σ=some (.v (lst (L.take a)),σ):=by
  rw [iY,d6]
  cases n with
  |zero=>cases h1
  |succ n=>
   rw [v0]
   show (NT (Pr _ (eO _ e1 ρ σ)) _)=_
   rw [cC h1 rfl]
   show (i9 (lst L) none (some (ai a))).map (fun v=>(aA.v v,σ))=_
   rw [tu ha];rfl
 have s2:(run aj (n+1)).e (.lst [e2]) ρ σ=some (.own (.lst [ay z]),σ):=by
  rw [iY,dS,et,aZ,h2];rfl
 have s3:(run aj (n+2)).e (.slc (.var 0) (some e3) none) ρ σ=some (.v (lst (L.drop b)),σ):=by
  rw [iY,d6,v0]
  show (NT (Pr _ (eO _ e3 ρ σ)) _)=_
  rw [cC h3 rfl]
  show (i9 (lst L) (some (ai b)) none).map (fun v=>(aA.v v,σ))=_
  rw [mC hb];rfl
 have l1:(L.take a).length≤1000:=Nt (Qk _ _) (Nt ha hz)
 have l2:(L.drop b).length≤1000:=Nt (N8 Pa) (Nt (QC _ _) hz)
 have:=bW (n:=n+2) (o:= .add) (aK (bW (n:=n+1) (o:= .add) (aK s1 rfl s2 rfl) (qF (A:=L.take a) (B:=[z]) (Nt (OK l1 1) (by decide)))) rfl s3 rfl)
  (qF (A:=L.take a++[z]) (B:=L.drop b) (by rw [Nu];exact Nt (Of (OK l1 1) l2) (by decide)))
 rw [NR] at this
 exact this
theorem Gm {p q:List Sg} (h:p.length+q.length≤1000):oJ (.tup (p.map .str)) (.tup (q.map .str))=some (.tup ((p++q).map .str)):=by
 show (if cX ((p.map V.str).length+(q.map V.str).length)=true then _ else _)=_
 rw [Nw,Nw,NP (eV (Nt h (by decide))),N1]
theorem K4 (S:bX L) (h:L[a]? =some x) (h':L[a+1]? =some y):x.labs.length+y.labs.length≤1000:=by
 have:=S.labs
 rw [qh h h',jt,Nu] at this
 have e:aq (x::y::L.drop (a+2))=x.labs++(y.labs++aq (L.drop (a+2))):=rfl
 rw [e,Nu,Nu] at this
 omega
theorem fV {i:Nat} (h:ρ[i]? =some (some (.v (ai a)))) (c:Nat):(run aj (n+2)).e (.bin .add (.var i) (.cst (.int (c:Int)))) ρ σ=some (.v (ai (a+c)),σ):=
 bW (n:=n+1) (o:= .add) (aK (σ1:=σ) (U:= .v (ai a)) (W:= .v (.int c)) (show ρ[i]?.join.map _=_ by rw [h];rfl) rfl rfl rfl) (Ku a c)
theorem rH (S:bX L) (h:L[a]? =some x) (h':L[a+1]? =some y):oo 20 23 [lst L,ai a] (lst (cut L a ⟨x.labs++y.labs,y.ins⟩)):=fun n=>by
 have la:=(NA.mp h').1
 have s1:(run aj (n+19)).s (.assign 2 (.idx (.var 0) (.bin .add (.var 1) (.cst (.int 1))))) [some (.v (lst L)),some (.v (ai a)),none] []=some (.next,[some (.v (lst L)),some (.v (ai a)),some (.v (ay y))],[]):=
  aD (n:=n+18) rfl (fN (n:=n+17) (cM (U:= .v (lst L)) (W:= .v (ai (a+1))) rfl (fV (n:=n+15) rfl 1) rfl rfl) (iG h')) rfl
 have m:(run aj (n+15)).e (.mk .line [(.bin .add (.attr (.idx (.var 0) (.var 1)) .labels) (.attr (.var 2) .labels)),(.attr (.var 2) .instruction)]) [some (.v (lst L)),some (.v (ai a)),some (.v (ay y))] []=some (.v (ay ⟨x.labs++y.labs,y.ins⟩),[]):=
  qV (n:=n+14) (aK (bW (n:=n+13) (o:= .add) (aK (gH (n:=n+12) (ur (n:=n+10) rfl rfl h) rfl rfl) rfl (W:= .v (.tup (y.labs.map .str))) rfl rfl) (Gm (K4 S h h'))) rfl (W:= .v (aS y.ins)) rfl rfl) rfl
 exact bV (n:=n+19) (fn:=pQ) (W:= .v _) rfl rfl (av s1 (dW (n:=n+18) (Bu (n:=n+15) (e1:= .var 1) rfl rfl m (fV (n:=n+14) rfl 2) (NY (O8 la)) la S.len'))) rfl
end
section
variable {P0:List Itm} {L L' L2 A:List ah} {x y z:ah} {a b n:Nat} {ρ:Loc} {σ:ag} {i:cq}
structure FT (P0:List Itm) (f:Nat) (B:List CS) (St:List ah→Loc→Prop) (L:List ah) (a:Nat) (L':List ah):Prop where
 pass:eH P0 L L'
 len:L.length≤L'.length+1
 ok:∀n ρ,St L ρ→∃o ρ',bd (run aj (n+f)) (.one 1) B (ai a) ρ []=some (o,ρ',[])∧o.turns=true∧St L' ρ'
theorem ng {f c:Nat} {B:List CS} {St:List ah→Loc→Prop} (turn:∀L a,Inv P0 L→nlab L≤100→a+c <L.length→∃L',FT P0 f B St L a L'):
  ∀k L,Inv P0 L→nlab L≤100→k=0∨k+c≤L.length→∃L',eH P0 L L'∧∀n ρ,St L ρ→∃ρ',fm (bd (run aj (n+f)) (.one 1) B) ((Pf k).reverse.map ai) ρ []=some (.next,ρ',[])∧St L' ρ':=by
 intro k
 induction k with
 |zero=>exact fun L I _ _=>⟨L,.refl I,fun n ρ s=>⟨ρ,rfl,s⟩⟩
 |succ k ih=>
  intro L I hn hk
  have hk:k+1+c≤L.length:=hk.resolve_left (S8 k)
  refine Np fun nG=> ?_
  obtain ⟨L1,T⟩:=turn L k I hn (On (PA (OM k) c) hk)
  obtain ⟨L2,p,ok⟩:=ih L1 T.pass.inv (Nt T.pass.nlab hn) (.inr (PY (Nt (N8 (Ph k c).symm) (Nt hk T.len))))
  refine nG ?_
  refine ⟨L2,T.pass.trans p,fun n ρ s=> ?_⟩
  refine Np fun nG=> ?_
  obtain ⟨o,ρ1,e,t,s1⟩:=T.ok n ρ s
  refine nG ?_
  rw [Tt,T9,List.reverse_singleton,List.singleton_append,NJ,aQ,e]
  show∃ρ',(bif o.turns then _ else _)=_∧_
  rw [t]
  exact ok n ρ1 s1
noncomputable def GH:cq→Bool
 | .jump m _=>match m with
  | .jmp=>true
  | .jrcxz=>true
  | .je=>true
  | .jne=>true
  | .jae=>true
  | .jb=>true
  | .call=>false
  | .loop=>false
  | .loope=>false
  | .loopne=>false
 | .ret=>false
 | .mov _ _ _=>false
noncomputable def LY:CE:= .or [(.cmp (.attr (.var 2) .name) .in_ (.tup [(.cst (.str [106,109,112])),(.cst (.str [106,114,99,120,122]))])),(.cmp (.callF 6 [(.var 2)]) .ne (.cst (.str [])))]
noncomputable def MR:List CS:=[.assign 2 (.attr (.idx (.var 0) (.var 1)) .instruction),
  .ite (.cmp (.callF 5 [(.var 2)]) .nin (.attr (.idx (.var 0) (.bin .add (.var 1) (.cst (.int 1)))) .labels)) [.cont] [],
  .ite LY [.assign 0 (.callF 23 [(.var 0),(.var 1)])] []]
noncomputable def DA (L:List ah) (r1 r2:Nr aA):Loc:=[some (.v (lst L)),r1,r2]
theorem JH (i:cq) {r1:Nr aA}:cv (run aj (n+50)) LY (DA L r1 (some (.v (aP i)))) []=some (GH i,[]):=by
 cases i with
 |jump m t=>cases m<;>kernel_rfl
 |ret=>kernel_rfl
 |mov=>kernel_rfl
theorem LJ {r2:Nr aA} {l:ah} (h:L[a]? =some l):(run aj (n+60)).s (.assign 2 (.attr (.idx (.var 0) (.var 1)) .instruction)) (DA L (some (.v (ai a))) r2) []=some (.next,DA L (some (.v (ai a))) (some (.v (aS l.ins))),[]):=
 aD (n:=n+59) rfl (lG (n:=n+56) rfl rfl h) rfl
theorem wh {j:Nat} (h0:ρ[0]? =some (some (.v (lst L)))) (hj:ρ[j]? =some (some (.v (ai a)))) (c:Nat) (h:L[a+c]? =some y):(run aj (n+4)).e (.attr (.idx (.var 0) (.bin .add (.var j) (.cst (.int (c:Int))))) .labels) ρ σ=some (.v (.tup (y.labs.map .str)),σ):=
 gH (n:=n+3) (fN (n:=n+2) (cM (U:= .v (lst L)) (show ρ[0]?.join.map _=_ by rw [h0];rfl) (fV (n:=n) hj c) rfl rfl) (iG h)) rfl rfl
theorem Js (o:Nr cq) (h:L[a+1]? =some y):cv (run aj (n+59)) (.cmp (.callF 5 [(.var 2)]) .nin (.attr (.idx (.var 0) (.bin .add (.var 1) (.cst (.int 1)))) .labels)) (DA L (some (.v (ai a))) (some (.v (aS o)))) []=some (!decide (bg o∈y.labs),[]):=
 bJ (n:=n+58) (o:= .nin) (mo (n:=n+38) rfl) rfl (wh (n:=n+54) rfl rfl 1 h) rfl (by rw [bH,bo];rfl)
theorem FI (I:Inv P0 L) (hn:nlab L≤100) (ha:a+1 <L.length):∃L',FT P0 60 MR (fun L ρ=>∃r1 r2,ρ=DA L r1 r2) L a L':=by
 refine Np fun nG=> ?_
 obtain ⟨ls,i,h⟩:=I.sh.row a ha
 refine nG ?_
 have h':=NB ha
 generalize L[a+1]=y at h'
 have S:=I.small hn
 have run3:∀n r1 r2 {r},aH (run aj (n+60)) [.ite (.cmp (.callF 5 [(.var 2)]) .nin (.attr (.idx (.var 0) (.bin .add (.var 1) (.cst (.int 1)))) .labels)) [.cont] [],.ite LY [.assign 0 (.callF 23 [(.var 0),(.var 1)])] []] (DA L (some (.v (ai a))) (some (.v (aP i)))) []=some r→bd (run aj (n+60)) (.one 1) MR (ai a) (DA L r1 r2) []=some r:=
  fun n r1 r2 r e=>av (LJ (r2:=r2) h) e
 by_cases hm:i.tgt∈y.labs
 ·have go2:∀n,(run aj (n+60)).s (.ite (.cmp (.callF 5 [(.var 2)]) .nin (.attr (.idx (.var 0) (.bin .add (.var 1) (.cst (.int 1)))) .labels)) [.cont] []) (DA L (some (.v (ai a))) (some (.v (aP i)))) []=some (.next,DA L (some (.v (ai a))) (some (.v (aP i))),[]):=fun n=>
   bc (n:=n+59) (Js (some i) h') (by rw [show decide (bg (some i)∈y.labs)=true from NF hm];rfl)
  cases hb:GH i with
  |true=>exact ⟨_,.drop I h h',N8 (mI h h').symm,fun n ρ ⟨r1,r2,e⟩=>e▸⟨.next,_,run3 n r1 r2 (av (go2 n) (bk (bc (n:=n+59) (JH i) (by
    rw [hb];exact bk (aD (n:=n+58) rfl (aB (n:=n+57) (us:=[lst L,ai a]) (Us:=[.v (lst L),.v (ai a)]) rfl rfl (rH S h h' (n+37)) rfl) rfl))))),rfl,_,_,rfl⟩⟩
  |false=>exact ⟨L,.refl I,NZ _,fun n ρ ⟨r1,r2,e⟩=>e▸⟨.next,_,run3 n r1 r2 (av (go2 n) (bk (bc (n:=n+59) (JH i) (by rw [hb];rfl)))),rfl,_,_,rfl⟩⟩
 ·exact ⟨L,.refl I,NZ _,fun n ρ ⟨r1,r2,e⟩=>e▸⟨.cont,_,run3 n r1 r2 (eg (bc (n:=n+59) (Js (some i) h') (by rw [show decide (bg (some i)∈y.labs)=false from N0 hm];rfl)) rfl),rfl,_,_,rfl⟩⟩
theorem He (I:Inv P0 L) (hn:nlab L≤100):∃L',oo 70 24 [lst L] (lst L')∧eH P0 L L':=by
 refine Np fun nG=> ?_
 obtain ⟨k,hk⟩:∃k,L.length=k+1:=Oi (PH I.sh.pos)
 obtain ⟨L',p,ok⟩:=ng (c:=1) (fun L a I hn ha=>FI I hn ha) k L I hn (.inr (N8 hk.symm))
 refine nG ?_
 refine ⟨L',fun n=> ?_,p⟩
 refine Np fun nG=> ?_
 obtain ⟨ρ',e,r1,r2,q⟩:=ok (n+8) (DA L none none) ⟨_,_,rfl⟩
 subst q
 refine nG ?_
 exact bV (n:=n+69) (fn:=gy) (W:= .v _) rfl rfl (av (n:=n+69) (f8 (n:=n+68) (yF (n:=n+65) (c:=2) (L:=L) rfl (NC (· +1) hk) (Nt (NZ k) (Nt (N8 hk.symm) (Nt I.len (by decide))))) e) (dW (n:=n+68) rfl)) rfl
end
section
variable {P0:List Itm} {L L' L2 A:List ah} {x y z:ah} {a b n k:Nat} {ρ:Loc} {σ:ag} {i:cq}
theorem vE (h:ρ[0]? =some (some (.v (lst L)))) (hp:0 <L.length) (hz:L.length≤1000):∃k,(k=0∨k+2≤L.length)∧∀n,dN (run aj (n+3)) (.range [(.bin .sub (.callB .len [(.var 0)]) (.cst (.int 3))),(.neg 1),(.neg 1)]) ρ σ=some ((Pf k).reverse.map ai,σ):=by
 refine Np fun nG=> ?_
 obtain ⟨j,hj⟩:∃j,L.length=j+1:=Oi (PH hp)
 refine nG ?_
 cases j with
 |zero=>
  refine ⟨0,.inl rfl,fun n=> ?_⟩
  have e1:(run aj (n+3)).e (.bin .sub (.callB .len [(.var 0)]) (.cst (.int 3))) ρ σ=some (.v (.int (-2)),σ):=
   bW (n:=n+2) (o:= .sub) (aK (σ1:=σ) (W:= .v (.int 3)) (u9 h) rfl rfl rfl) (by rw [hj];rfl)
  rw [oQ]
  show ((((NT ((run aj (n+3)).e _ _ _) _).bind _).bind _))=_
  rw [e1];rfl
 |succ j=>exact ⟨j,.inr (N8 hj.symm),fun n=>yF (c:=3) (L:=L) h (NC (· +1) hj) (Nt (NZ j) (Nt (NZ _) (Nt (N8 hj.symm) hz)))⟩
theorem kC {i j:Nat} {p q:CE} {U W:aA} {u w:V} (h1:(run aj n).e p ρ σ=some (U,σ)) (k1:U.toV=some u) (h2:(run aj n).e q ρ σ=some (W,σ)) (k2:W.toV=some w):(run aj (n+1)).s (.assignT [(i,false),(j,false)] [p,q]) ρ σ=some (.next,(ρ.set i (some (.v u))).set j (some (.v w)),σ):=by
 rw [iU,aI,gw,h1]
 show NT (NT (U.toV) fun u=>(xg (run aj n) [(j,false)] [q] ρ σ).map fun q=>(aA.v u::q.1,q.2)) _=_
 rw [k1,gw,h2]
 show NT (Pr _ (NT (W.toV) fun u=>(xg (run aj n) [] [] ρ σ).map fun q=>(aA.v u::q.1,q.2))) _=_
 rw [k2];rfl
theorem rW {b:Bool} (h:(!b)=false):b=true:=by
 cases b with
 |true=>rfl
 |false=>cases h
theorem K5 {p q r:CE} {u v w:Bool} (h1:cv (run aj n) p ρ σ=some (u,σ)) (h2:u=false→cv (run aj n) q ρ σ=some (v,σ)) (h3:u=false→v=false→cv (run aj n) r ρ σ=some (w,σ)):cv (run aj (n+1)) (.or [p,q,r]) ρ σ=some (u||(v||w),σ):=by
 refine gB ?_
 rw [iY,ig,cB,h1]
 cases u with
 |true=>rfl
 |false=>
  show (eW _ false [q,r] ρ σ).map _=_
  rw [cB,h2 rfl]
  cases v with
  |true=>rfl
  |false=>show (eW _ false [r] ρ σ).map _=_;rw [cz,h3 rfl rfl];rfl
theorem vU {p q r:CE} {U:aA} {u w v:V} (h1:(run aj n).e p ρ σ=some (U,σ)) (k1:U.toV=some u) (h2:jw (run aj n) [q,r] ρ σ=some ([w,v],σ)):jw (run aj n) [p,q,r] ρ σ=some ([u,w,v],σ):=by
 have h:(kO (run aj n) [q,r] ρ σ).bind (fun r=>(toVs r.1).bind fun us=>some (us,r.2))=some ([w,v],σ):=h2
 show (((run aj n).e p ρ σ).bind _).bind _=_
 rw [h1]
 show ((kO (run aj n) [q,r] ρ σ).bind _).bind _=_
 cases e:kO (run aj n) [q,r] ρ σ with
 |none=>rw [e] at h;cases h
 |some t=>
  rw [e] at h
  obtain ⟨Us,σ'⟩:=t
  have h:(toVs Us).bind (fun us=>some (us,σ'))=some ([w,v],σ):=h
  show (toVs (U::Us)).bind _=_
  show ((U.toV).bind _).bind _=_
  rw [k1]
  show ((toVs Us).bind _).bind _=_
  cases e2:toVs Us with
  |none=>rw [e2] at h;cases h
  |some us=>rw [e2] at h;cases h;rfl
noncomputable def Cc.nm:Cc→Nm
 | .e=> .je| .ne=> .jne| .ae=> .jae| .b=> .jb
theorem Mi (c:Cc):([106]++c.s:Sg)=c.nm.s:=by cases c<;>rfl
theorem Ij {m:Nm} {c:Cc} (h:m.cc=some c):m=c.nm:=by cases m<;>cases h<;>rfl
theorem tF (c:Nr Cc):decide (ku c=[])=c.isNone:=by
 cases c with
 |none=>rfl
 |some c=>cases c<;>rfl
theorem yk {o:Nr cq} {c:Cc} (h:eG o=some c):∃t,o=some (.jump c.nm t):=by
 cases o with
 |none=>cases h
 |some i=>cases i with
  |jump m t=>exact ⟨t,by rw [Ij (show m.cc=some c from h)]⟩
  |ret=>cases h
  |mov=>cases h
theorem oX {o:Nr cq} (h:oE o=true):∃t,o=some (.jump .jmp t):=by
 cases o with
 |none=>cases h
 |some i=>cases i with
  |jump m t=>cases m<;>first|exact ⟨t,rfl⟩|cases h
  |ret=>cases h
  |mov=>cases h
theorem Da {j:Nat} {o:Nr cq} (h:ρ[j]? =some (some (.v (aS o)))):(run aj (n+30)).e (.callF 6 [(.var j)]) ρ σ=some (.v (.str (ku (eG o))),σ):=by
 have v:(run aj (n+29)).e (.var j) ρ σ=some (.v (aS o),σ):=by show ρ[j]?.join.map _=_;rw [h];rfl
 exact aB (n:=n+29) (us:=[aS o]) (Us:=[.v (aS o)]) (by rw [aZ,v];rfl) rfl (qj o (n+9)) rfl
theorem yr {e:CE} {p:List Sg} (h:(run aj n).e e ρ σ=some (.v (.tup (p.map .str)),σ)):cv (run aj (n+2)) (.cmp (.callB .len [e]) .gt (.cst (.int 0))) ρ σ=some (!p.isEmpty,σ):=by
 cases n with
 |zero=>cases h
 |succ n=>
 refine bJ (n:=n+2) (o:= .gt) (U:= .v (.int (p.length:Nat))) (W:= .v (.int 0)) (eQ (n:=n+1) (us:=[.tup (p.map .str)]) ?_ (show some (V.int ((p.map V.str).length:Nat))=_ by rw [Nw])) rfl rfl rfl ?_
 ·rw [en,aZ,h];rfl
 ·cases p with
  |nil=>rfl
  |cons s p=>exact NC some (NF (QV.mpr (OJ _)))
noncomputable def kB (L:List ah) (r1 r2 r3 r4 r5:Nr aA):Loc:=[some (.v (lst L)),r1,r2,r3,r4,r5]
noncomputable def LN:CE:= .or [(.cmp (.var 4) .eq (.cst (.str []))),(.not (.callF 7 [(.var 3)])),(.cmp (.callB .len [(.attr (.idx (.var 0) (.bin .add (.var 1) (.cst (.int 1)))) .labels)]) .gt (.cst (.int 0)))]
noncomputable def MH:List CS:=[.assign 5 (.mk .ins [(.bin .add (.cst (.str [106])) (.callF 2 [(.var 4)])),(.attr (.var 3) .operands),(.cst (.str []))]),
   .assign 0 (.bin .add (.bin .add (.slc (.var 0) none (some (.var 1))) (.lst [(.mk .line [(.attr (.idx (.var 0) (.var 1)) .labels),(.var 5)])])) (.slc (.var 0) (some (.bin .add (.var 1) (.cst (.int 2)))) none))]
noncomputable def Ms:List CS:=[.assignT [(2,false),(3,false)] [(.attr (.idx (.var 0) (.var 1)) .instruction),(.attr (.idx (.var 0) (.bin .add (.var 1) (.cst (.int 1)))) .instruction)],
  .assign 4 (.callF 6 [(.var 2)]),
  .ite LN [.cont] [],
  .ite (.cmp (.callF 5 [(.var 2)]) .in_ (.attr (.idx (.var 0) (.bin .add (.var 1) (.cst (.int 2)))) .labels)) MH []]
variable {r1 r2 r3 r4 r5:Nr aA} {c:Cc} {t:Sg}
theorem Fe {j:Nat} (h0:ρ[0]? =some (some (.v (lst L)))) (hj:ρ[j]? =some (some (.v (ai a)))) (c:Nat) (h:L[a+c]? =some y):(run aj (n+4)).e (.attr (.idx (.var 0) (.bin .add (.var j) (.cst (.int (c:Int))))) .instruction) ρ σ=some (.v (aS y.ins),σ):=
 gH (n:=n+3) (fN (n:=n+2) (cM (U:= .v (lst L)) (show ρ[0]?.join.map _=_ by rw [h0];rfl) (fV (n:=n) hj c) rfl rfl) (iG h)) rfl rfl
theorem Mp (h:L[a]? =some x) (h':L[a+1]? =some y):(run aj (n+80)).s (.assignT [(2,false),(3,false)] [(.attr (.idx (.var 0) (.var 1)) .instruction),(.attr (.idx (.var 0) (.bin .add (.var 1) (.cst (.int 1)))) .instruction)]) (kB L (some (.v (ai a))) r2 r3 r4 r5) []=
  some (.next,kB L (some (.v (ai a))) (some (.v (aS x.ins))) (some (.v (aS y.ins))) r4 r5,[]):=
 kC (n:=n+79) (lG (n:=n+76) rfl rfl h) rfl (Fe (n:=n+75) rfl rfl 1 h') rfl
theorem Le (h':L[a+1]? =some y):cv (run aj (n+79)) LN (kB L (some (.v (ai a))) r2 (some (.v (aS y.ins))) (some (.v (.str (ku (eG x.ins))))) r5) []=some ((eG x.ins).isNone||(!oE y.ins|| !y.labs.isEmpty),[]):=
 K5 (n:=n+78) (bJ (n:=n+77) (o:= .eq) (U:= .v (.str (ku (eG x.ins)))) (W:= .v (.str [])) rfl rfl rfl rfl (by rw [cu,bE,tF]))
  (fun _=>vm (n:=n+77) (gB (aB (n:=n+76) (us:=[aS y.ins]) (Us:=[.v (aS y.ins)]) rfl rfl (x6 y.ins (n+51)) rfl)))
  fun _ _=>yr (n:=n+76) (wh (n:=n+72) rfl rfl 1 h')
theorem MA:(run aj (n+79)).s (.assign 5 (.mk .ins [(.bin .add (.cst (.str [106])) (.callF 2 [(.var 4)])),(.attr (.var 3) .operands),(.cst (.str []))])) (kB L r1 r2 (some (.v (aP (.jump .jmp t)))) (some (.v (.str c.s))) r5) []=
  some (.next,kB L r1 r2 (some (.v (aP (.jump .jmp t)))) (some (.v (.str c.s))) (some (.v (aP (.jump c.opp.nm t)))),[]):=by
 have e1:(run aj (n+77)).e (.bin .add (.cst (.str [106])) (.callF 2 [(.var 4)])) (kB L r1 r2 (some (.v (aP (.jump .jmp t)))) (some (.v (.str c.s))) r5) []=some (.v (.str c.opp.nm.s),[]):=by
  rw [←Mi]
  exact bW (n:=n+76) (o:= .add) (aK (U:= .v (.str [106])) rfl rfl (aB (n:=n+75) (us:=[.str c.s]) (Us:=[.v (.str c.s)]) rfl rfl (GJ c (n+45)) rfl) rfl) (by cases c<;>rfl)
 exact aD (n:=n+78) rfl (qV (n:=n+77) (vU e1 rfl (show jw (run aj (n+77)) [(.attr (.var 3) .operands),(.cst (.str []))] _ []=some ([.tup [.inst .rel [.str [114,101,108],.int 0,.str t]],.str []],[]) from rfl)) rfl) rfl
theorem LF (h:L[a]? =some x) (h':a+2≤L.length) (hz:L.length≤1000):(run aj (n+79)).s (.assign 0 (.bin .add (.bin .add (.slc (.var 0) none (some (.var 1))) (.lst [(.mk .line [(.attr (.idx (.var 0) (.var 1)) .labels),(.var 5)])])) (.slc (.var 0) (some (.bin .add (.var 1) (.cst (.int 2)))) none))) (kB L (some (.v (ai a))) r2 r3 r4 (some (.v (aP i)))) []=
  some (.next,kB (cut L a ⟨x.labs,some i⟩) (some (.v (ai a))) r2 r3 r4 (some (.v (aP i))),[]):=
 aD (n:=n+78) rfl (Bu (n:=n+75) (e1:= .var 1) rfl rfl (qV (n:=n+74) (aK (gH (n:=n+73) (ur (n:=n+71) rfl rfl h) rfl rfl) rfl (W:= .v (aP i)) rfl rfl) rfl) (fV (n:=n+74) rfl 2) (PQ (PQ h')) h' hz) rfl
theorem eH.turn (I:Inv P0 L) {ls:List Sg} {t':Sg} (h:L[a]? =some ⟨ls,some (.jump c.nm t)⟩) (h':L[a+1]? =some ⟨[],some (.jump .jmp t')⟩):eH P0 L (cut L a ⟨ls,some (.jump c.opp.nm t')⟩):=by
 have p:=eH.drop I h h'
 have hc:(cut L a ⟨ls++[],some (.jump .jmp t')⟩)[a]? =some ⟨ls++[],some (.jump .jmp t')⟩:=by
  unfold cut
  rw [OG (Qk _ _),OV (NY (NA.mp h).1),PZ];rfl
 have e:cut L a ⟨ls,some (.jump c.opp.nm t')⟩=(cut L a ⟨ls++[],some (.jump .jmp t')⟩).set a ⟨ls,some (.jump c.opp.nm t')⟩:=by
  unfold cut
  rw [List.set_append_right _ _ (Qk _ _),OV (NY (NA.mp h).1),PZ];rfl
 have hi:jJ ⟨ls,some (.jump c.opp.nm t')⟩=jJ ⟨ls++[],some (.jump .jmp t')⟩:=by
  rw [NQ];cases c<;>rfl
 have I':Inv P0 (cut L a ⟨ls,some (.jump c.opp.nm t')⟩):=by
  rw [e]
  exact ⟨by rw [ip hc hi];exact p.inv.core,(mN (l':=⟨ls,some (.jump c.opp.nm t')⟩) hc rfl).shape p.inv.sh,p.inv.tg.set fun m t e=>by cases e;exact I.tg _ (NN h') _ _ rfl,by rw [OC];exact p.inv.len⟩
 refine ⟨I',Nt (gJ (by rw [e,ip hc hi];exact Pw _)) p.nlab,.inr ?_⟩
 conv=>rhs;rw [qh h h']
 unfold cut
 rw [bO,bO,bu,bu,bu]
 refine QO ?_ _
 rw [←OA]
 exact PA (by cases c<;>exact PR (n:=3) (k:=2) (OJ 1)) _
theorem Fj (I:Inv P0 L) (hn:nlab L≤100) (ha:a+2 <L.length):∃L',FT P0 80 Ms (fun L ρ=>∃r1 r2 r3 r4 r5,ρ=kB L r1 r2 r3 r4 r5) L a L':=by
 have ha1:=O8 ha
 have h:=NB (O8 ha1)
 generalize L[a]=x at h
 have h':=NB ha1
 generalize L[a+1]=y at h'
 have h2:=NB ha
 generalize L[a+2]=z at h2
 have run4:∀n r1 r2 r3 r4 r5 {r},aH (run aj (n+80)) [.ite LN [.cont] [],.ite (.cmp (.callF 5 [(.var 2)]) .in_ (.attr (.idx (.var 0) (.bin .add (.var 1) (.cst (.int 2)))) .labels)) MH []] (kB L (some (.v (ai a))) (some (.v (aS x.ins))) (some (.v (aS y.ins))) (some (.v (.str (ku (eG x.ins))))) r5) []=some r→bd (run aj (n+80)) (.one 1) Ms (ai a) (kB L r1 r2 r3 r4 r5) []=some r:=
  fun n r1 r2 r3 r4 r5 r e=>av (Mp h h') (av (aD (n:=n+79) rfl (Da (n:=n+49) rfl) rfl) e)
 cases hb:((eG x.ins).isNone||(!oE y.ins|| !y.labs.isEmpty)) with
 |true=>exact ⟨L,.refl I,NZ _,fun n ρ ⟨r1,r2,r3,r4,r5,e⟩=>e▸⟨.cont,_,run4 n r1 r2 r3 r4 r5 (eg (bc (n:=n+79) (Le h') (by rw [hb];rfl)) rfl),rfl,_,_,_,_,_,rfl⟩⟩
 |false=>
  refine Np fun nG=> ?_
  obtain ⟨b1,b2⟩:=PL.mp hb
  obtain ⟨b2,b3⟩:=PL.mp b2
  obtain ⟨c,hc⟩:∃c,eG x.ins=some c:=by
   cases q:eG x.ins with
   |none=>rw [q] at b1;cases b1
   |some c=>exact ⟨c,rfl⟩
  obtain ⟨t,ht⟩:=yk hc
  obtain ⟨t',ht'⟩:=oX (rW b2)
  have hl:=Rt.mp (rW b3)
  obtain ⟨ls,o⟩:=x
  obtain ⟨ly,o'⟩:=y
  cases ht;cases ht';cases hl
  refine nG ?_
  have go2:∀n r1 r2 r3 r4 r5 {r},aH (run aj (n+80)) [.ite (.cmp (.callF 5 [(.var 2)]) .in_ (.attr (.idx (.var 0) (.bin .add (.var 1) (.cst (.int 2)))) .labels)) MH []] (kB L (some (.v (ai a))) (some (.v (aP (.jump c.nm t)))) (some (.v (aP (.jump .jmp t')))) (some (.v (.str (ku (eG (some (.jump c.nm t))))))) r5) []=some r→bd (run aj (n+80)) (.one 1) Ms (ai a) (kB L r1 r2 r3 r4 r5) []=some r:=
   fun n r1 r2 r3 r4 r5 r e=>run4 n r1 r2 r3 r4 r5 (av (bc (n:=n+79) (Le (x:=⟨ls,some (.jump c.nm t)⟩) h') (by rw [hb];rfl)) e)
  have test:∀n r5,cv (run aj (n+79)) (.cmp (.callF 5 [(.var 2)]) .in_ (.attr (.idx (.var 0) (.bin .add (.var 1) (.cst (.int 2)))) .labels)) (kB L (some (.v (ai a))) (some (.v (aP (.jump c.nm t)))) (some (.v (aP (.jump .jmp t')))) (some (.v (.str (ku (eG (some (.jump c.nm t))))))) r5) []=some (decide (t∈z.labs),[]):=fun n r5=>
   bJ (n:=n+78) (o:= .in_) (mo (n:=n+58) (o:=some (.jump c.nm t)) rfl) rfl (wh (n:=n+74) rfl rfl 2 h2) rfl (bo _ _)
  by_cases hm:t∈z.labs
  ·refine ⟨_,eH.turn (c:=c) I h h',N8 (mI h h').symm,fun n ρ ⟨r1,r2,r3,r4,r5,e⟩=>e▸⟨.next,_,go2 n r1 r2 r3 r4 r5 (bk (bc (n:=n+79) (test n r5) (by
    rw [NF hm,show ku (eG (some (.jump c.nm t)))=c.s from NC ku hc]
    exact av MA (bk (LF (i:= .jump c.opp.nm t') h (NY ha) (I.small hn).len'))))),rfl,_,_,_,_,_,rfl⟩⟩
  ·exact ⟨L,.refl I,NZ _,fun n ρ ⟨r1,r2,r3,r4,r5,e⟩=>e▸⟨.next,_,go2 n r1 r2 r3 r4 r5 (bk (bc (n:=n+79) (test n r5) (by rw [N0 hm];rfl))),rfl,_,_,_,_,_,rfl⟩⟩
theorem Be (I:Inv P0 L) (hn:nlab L≤100):∃L',oo 90 25 [lst L] (lst L')∧eH P0 L L':=by
 refine Np fun nG=> ?_
 obtain ⟨k,hk,hi⟩:=vE (L:=L) (ρ:=kB L none none none none none) (σ:=[]) rfl I.sh.pos (I.small hn).len'
 obtain ⟨L',p,ok⟩:=ng (c:=2) (fun L a I hn ha=>Fj I hn ha) k L I hn hk
 refine nG ?_
 refine ⟨L',fun n=> ?_,p⟩
 refine Np fun nG=> ?_
 obtain ⟨ρ',e,r1,r2,r3,r4,r5,q⟩:=ok (n+8) (kB L none none none none none) ⟨_,_,_,_,_,rfl⟩
 subst q
 refine nG ?_
 exact bV (n:=n+89) (fn:=jM) (W:= .v _) rfl rfl (av (n:=n+89) (f8 (n:=n+88) (hi (n+85)) e) (dW (n:=n+88) rfl)) rfl
end
section
variable {P0:List Itm} {L L' L2 A:List ah} {x y z:ah} {a b n k:Nat} {ρ:Loc} {σ:ag} {i:cq} {r1 r2 r3 r4 r5:Nr aA} {c:Cc} {t:Sg}
noncomputable def M7:CE:= .or [(.cmp (.var 2) .eq (.cst (.str []))),(.cmp (.callB .len [(.attr (.var 3) .labels)]) .gt (.cst (.int 0)))]
noncomputable def M2:List CS:=[.assign 0 (.callF 23 [(.var 0),(.bin .add (.var 1) (.cst (.int 1)))])]
noncomputable def LL:List CS:=[.assign 5 (.mk .ins [(.cst (.str [106,109,112])),(.attr (.attr (.var 3) .instruction) .operands),(.cst (.str []))]),
    .assign 0 (.bin .add (.bin .add (.slc (.var 0) none (some (.bin .add (.var 1) (.cst (.int 1))))) (.lst [(.mk .line [(.lst []),(.var 5)])])) (.slc (.var 0) (some (.bin .add (.var 1) (.cst (.int 2)))) none))]
noncomputable def Nb:List CS:=[.assign 4 (.callF 14 [(.callF 2 [(.var 2)]),(.callF 6 [(.attr (.var 3) .instruction)])]),
  .ite (.cmp (.var 4) .eq (.cst (.int 0))) M2 [.ite (.cmp (.var 4) .eq (.cst (.int 1))) LL []]]
noncomputable def Mv:List CS:= .assignT [(2,false),(3,false)] [(.callF 6 [(.attr (.idx (.var 0) (.var 1)) .instruction)]),(.idx (.var 0) (.bin .add (.var 1) (.cst (.int 1))))]:: .ite M7 [.cont] []::Nb
theorem JV (h:L[a]? =some x) (h':L[a+1]? =some y):(run aj (n+80)).s (.assignT [(2,false),(3,false)] [(.callF 6 [(.attr (.idx (.var 0) (.var 1)) .instruction)]),(.idx (.var 0) (.bin .add (.var 1) (.cst (.int 1))))]) (kB L (some (.v (ai a))) r2 r3 r4 r5) []=
  some (.next,kB L (some (.v (ai a))) (some (.v (.str (ku (eG x.ins))))) (some (.v (ay y))) r4 r5,[]):=
 kC (n:=n+79) (aB (n:=n+78) (us:=[aS x.ins]) (Us:=[.v (aS x.ins)]) (by rw [aZ,lG (n:=n+75) rfl rfl h];rfl) rfl (qj x.ins (n+58)) rfl) rfl
  (fN (n:=n+78) (cM (U:= .v (lst L)) (W:= .v (ai (a+1))) rfl (fV (n:=n+76) rfl 1) rfl rfl) (iG h')) rfl
theorem JP {o:Nr Cc}:cv (run aj (n+79)) M7 (kB L r1 (some (.v (.str (ku o)))) (some (.v (ay y))) r4 r5) []=some (o.isNone|| !y.labs.isEmpty,[]):=
 u7 (n:=n+78) (bJ (n:=n+77) (o:= .eq) (U:= .v (.str (ku o))) (W:= .v (.str [])) rfl rfl rfl rfl (by rw [cu,bE,tF])) fun _=>yr (n:=n+76) (gH (n:=n+75) (U:= .v (ay y)) rfl rfl rfl)
theorem LD:(run aj (n+80)).s (.assign 4 (.callF 14 [(.callF 2 [(.var 2)]),(.callF 6 [(.attr (.var 3) .instruction)])])) (kB L r1 (some (.v (.str c.s))) (some (.v (ay y))) r4 r5) []=
  some (.next,kB L r1 (some (.v (.str c.s))) (some (.v (ay y))) (some (.v (.int (jN (some c.opp) (eG y.ins))))) r5,[]):=by
 have e1:(run aj (n+78)).e (.callF 2 [(.var 2)]) (kB L r1 (some (.v (.str c.s))) (some (.v (ay y))) r4 r5) []=some (.v (.str c.opp.s),[]):=aB (n:=n+77) (us:=[.str c.s]) (Us:=[.v (.str c.s)]) rfl rfl (GJ c (n+47)) rfl
 have e2:(run aj (n+78)).e (.callF 6 [(.attr (.var 3) .instruction)]) (kB L r1 (some (.v (.str c.s))) (some (.v (ay y))) r4 r5) []=some (.v (.str (ku (eG y.ins))),[]):=aB (n:=n+77) (us:=[aS y.ins]) (Us:=[.v (aS y.ins)]) rfl rfl (qj y.ins (n+57)) rfl
 exact aD (n:=n+79) rfl (aB (n:=n+78) (us:=[.str c.opp.s,.str (ku (eG y.ins))]) (Us:=[.v (.str c.opp.s),.v (.str (ku (eG y.ins)))]) (by rw [aZ,e1];show NT (kO _ [_] _ []) _=_;rw [aZ,e2];rfl) rfl (Gh (some c.opp) (eG y.ins) (n+33)) rfl) rfl
theorem CQ {w v:Int} {b:Bool} (h:decide (w=v)=b):cv (run aj (n+70)) (.cmp (.var 4) .eq (.cst (.int v))) (kB L r1 r2 r3 (some (.v (.int w))) r5) []=some (b,[]):=
 bJ (n:=n+69) (o:= .eq) (U:= .v (.int w)) (W:= .v (.int v)) rfl rfl rfl rfl (by rw [cu,bh,h])
theorem My (h1:a+2≤L.length) (h':L[a+1]? =some x) (hz:L.length≤1000) (hy:y.ins=some (.jump c.nm t)):aH (run aj (n+78)) LL (kB L (some (.v (ai a))) r2 (some (.v (ay y))) r4 r5) []=
  some (.next,kB (L.set (a+1) ⟨[],some (.jump .jmp t)⟩) (some (.v (ai a))) r2 (some (.v (ay y))) r4 (some (.v (aP (.jump .jmp t)))),[]):=by
 obtain ⟨ly,o⟩:=y
 cases hy
 rw [ph h']
 exact av (ρ':=kB L (some (.v (ai a))) r2 (some (.v (ay ⟨ly,some (.jump c.nm t)⟩))) r4 (some (.v (aP (.jump .jmp t))))) (σ':=[]) (by kernel_rfl) (bk (aD (n:=n+77) rfl (Bu (n:=n+74) (L:=L) (a:=a+1) (z:=⟨[],some (.jump .jmp t)⟩) rfl (fV (n:=n+72) rfl 1) (by kernel_rfl) (fV (n:=n+73) rfl 2) (PQ h1) h1 hz) rfl))
theorem Eh (I:Inv P0 L) (hn:nlab L≤100) (ha:a+2 <L.length):∃L',FT P0 80 Mv (fun L ρ=>∃r1 r2 r3 r4 r5,ρ=kB L r1 r2 r3 r4 r5) L a L':=by
 have ha1:=O8 ha
 have S:=I.small hn
 have h:=NB (O8 ha1)
 generalize L[a]=x at h
 have h':=NB ha1
 generalize L[a+1]=y at h'
 have h2:=NB ha
 generalize L[a+2]=z at h2
 cases hb:((eG x.ins).isNone|| !y.labs.isEmpty) with
 |true=>exact ⟨L,.refl I,NZ _,fun n ρ ⟨r1,r2,r3,r4,r5,e⟩=>e▸⟨.cont,_,show aH _ Mv (kB L (some (.v (ai a))) r2 r3 r4 r5) []=_ from av (JV h h') (eg (bc (n:=n+79) JP (by rw [hb];rfl)) rfl),rfl,_,_,_,_,_,rfl⟩⟩
 |false=>
  obtain ⟨b1,b2⟩:=PL.mp hb
  have hl:=Rt.mp (rW b2)
  obtain ⟨c,hc⟩:∃c,eG x.ins=some c:=by
   cases q:eG x.ins with
   |none=>rw [q] at b1;cases b1
   |some c=>exact ⟨c,rfl⟩
  have go:∀n r1 r2 r3 r4 r5 {r},aH (run aj (n+80)) [.ite (.cmp (.var 4) .eq (.cst (.int 0))) M2 [.ite (.cmp (.var 4) .eq (.cst (.int 1))) LL []]] (kB L (some (.v (ai a))) (some (.v (.str c.s))) (some (.v (ay y))) (some (.v (.int (jN (some c.opp) (eG y.ins))))) r5) []=some r→bd (run aj (n+80)) (.one 1) Mv (ai a) (kB L r1 r2 r3 r4 r5) []=some r:=
   fun n r1 r2 r3 r4 r5 r e=>av (JV (r2:=r2) (r3:=r3) h h') (av (bc (n:=n+79) JP (by rw [hb];rfl)) (by rw [hc];exact av LD e))
  by_cases h0:jN (some c.opp) (eG y.ins)=0
  ·have e23:∀n r4 r5,(run aj (n+78)).e (.callF 23 [(.var 0),(.bin .add (.var 1) (.cst (.int 1)))]) (kB L (some (.v (ai a))) (some (.v (.str c.s))) (some (.v (ay y))) r4 r5) []=some (.v (lst (cut L (a+1) ⟨y.labs++z.labs,z.ins⟩)),[]):=fun n r4 r5=>
    aB (n:=n+77) (us:=[lst L,ai (a+1)]) (Us:=[.v (lst L),.v (ai (a+1))]) rfl rfl (rH S h' h2 (n+57)) rfl
   exact ⟨_,.drop I h' h2,N8 (mI h' h2).symm,fun n ρ ⟨r1,r2,r3,r4,r5,e⟩=>e▸⟨.next,_,go n r1 r2 r3 r4 r5 (bk (bc (n:=n+79) (CQ (n:=n+9) (NF h0)) (bk (aD (n:=n+78) rfl (e23 n _ _) rfl)))),rfl,_,_,_,_,_,rfl⟩⟩
  by_cases h1:jN (some c.opp) (eG y.ins)=1
  ·obtain ⟨t,ht⟩:=yk (Ge h1).symm
   have p:eH P0 L (L.set (a+1) ⟨[],some (.jump .jmp t)⟩):= .set I h' (by
    obtain ⟨ly,o⟩:=y
    cases ht;cases hl
    cases c<;>rfl) (by rw [ht];rfl) (fun m t' e=>by cases e;exact I.tg y (NN h') _ _ ht) (by rw [ht];cases c<;>exact OM 2)
   exact ⟨_,p,by rw [OC];exact NZ _,fun n ρ ⟨r1,r2,r3,r4,r5,e⟩=>e▸⟨.next,_,go n r1 r2 r3 r4 r5 (bk (bc (n:=n+79) (CQ (n:=n+9) (N0 h0)) (bk (bc (n:=n+78) (CQ (n:=n+8) (NF h1)) (My (NY ha) h' S.len' ht))))),rfl,_,_,_,_,_,rfl⟩⟩
  ·exact ⟨L,.refl I,NZ _,fun n ρ ⟨r1,r2,r3,r4,r5,e⟩=>e▸⟨.next,_,go n r1 r2 r3 r4 r5 (bk (bc (n:=n+79) (CQ (n:=n+9) (N0 h0)) (bk (bc (n:=n+78) (CQ (n:=n+8) (N0 h1)) rfl)))),rfl,_,_,_,_,_,rfl⟩⟩
theorem zd (I:Inv P0 L) (hn:nlab L≤100):∃L',oo 90 26 [lst L] (lst L')∧eH P0 L L':=by
 refine Np fun nG=> ?_
 obtain ⟨k,hk,hi⟩:=vE (L:=L) (ρ:=kB L none none none none none) (σ:=[]) rfl I.sh.pos (I.small hn).len'
 obtain ⟨L',p,ok⟩:=ng (c:=2) (fun L a I hn ha=>Eh I hn ha) k L I hn hk
 refine nG ?_
 refine ⟨L',fun n=> ?_,p⟩
 refine Np fun nG=> ?_
 obtain ⟨ρ',e,r1,r2,r3,r4,r5,q⟩:=ok (n+8) (kB L none none none none none) ⟨_,_,_,_,_,rfl⟩
 subst q
 refine nG ?_
 exact bV (n:=n+89) (fn:=iE) (W:= .v _) rfl rfl (av (n:=n+89) (f8 (n:=n+88) (hi (n+85)) e) (dW (n:=n+88) rfl)) rfl
end
section
variable {P0:List Itm} {L L':List ah} {l x:ah} {a b n k p:Nat} {ρ:Loc} {σ:ag} {r3 r4 r5:Nr aA} {acc:List ah}
noncomputable def rR:Nr cq→Bool
 |some .ret=>true
 |some (.jump _ _)=>false
 |some (.mov _ _ _)=>false
 |none=>false
noncomputable def uj (L:List ah) (o:Nr cq):Nr cq:=bif oE o then (place L (bg o)).bind fun p=>L[p]?.bind (·.ins) else none
noncomputable def AC (L:List ah) (o:Nr cq):Nr cq:=bif rR (uj L o) then some .ret else o
noncomputable def we (L:List ah) (l:ah):ah:=⟨l.labs,AC L l.ins⟩
noncomputable def wQ (L:List ah) (r3 r4 r5:Nr aA):Loc:=[some (.v (lst L)),some (.v (an L)),some (.cell 0),r3,r4,r5]
noncomputable def MW:CE:= .and [(.cmp (.var 5) .isnt (.cst .none)),(.cmp (.attr (.var 5) .name) .in_ (.callS .split (.glob [69,78,68,83]) []))]
noncomputable def Mw:CS:= .expr (.callS .append (.var 2) [(.mk .line [(.attr (.var 3) .labels),(.var 4)])])
noncomputable def M0:List CS:=[.assign 5 (.attr (.idx (.var 0) (.idx (.var 1) (.callF 5 [(.var 4)]))) .instruction),.ite MW [.assign 4 (.var 5)] []]
noncomputable def Lu:List CS:=[.assign 4 (.attr (.var 3) .instruction),.ite (.and [(.callF 7 [(.var 4)]),(.cmp (.callF 5 [(.var 4)]) .in_ (.var 1))]) M0 [],Mw]
theorem Mx (o:Nr cq):cv (run aj (n+50)) MW (wQ L r3 r4 (some (.v (aS o)))) σ=some (rR o,σ):=by
 cases o with
 |none=>kernel_rfl
 |some i=>cases i with
  |jump m t=>cases m<;>kernel_rfl
  |ret=>kernel_rfl
  |mov=>kernel_rfl
theorem I4 {o:Nr cq} (hz:acc.length <1000):(run aj (n+60)).s Mw (wQ L (some (.v (ay l))) (some (.v (aS o))) r5) [lst acc]=some (.next,wQ L (some (.v (ay l))) (some (.v (aS o))) r5,[lst (acc++[ah.mk l.labs o])]):=by
 have:=ke (n:=n+58) (e:= .var 2) (a:= .mk .line [(.attr (.var 3) .labels),(.var 4)]) (ρ:=wQ L (some (.v (ay l))) (some (.v (aS o))) r5) (σ:=[lst acc]) (k:=0) (ws:=acc.map ay) (us:=acc.map ay) (u:=ay ⟨l.labs,o⟩) (σ1:=[lst acc]) (σ2:=[lst acc]) rfl rfl
  (cC (qV (n:=n+57) (aK (U:= .v (.tup (l.labs.map .str))) (W:= .v (aS o)) rfl rfl rfl rfl) rfl) rfl) rfl (by rw [Nw];exact Nt hz (by decide))
 rw [show (Mw)= .expr (.callS .append (.var 2) [(.mk .line [(.attr (.var 3) .labels),(.var 4)])]) from rfl,this]
 show some (fc.next,_,[V.lst (acc.map ay++[ay (ah.mk l.labs o)])])=some (fc.next,_,[V.lst ((acc++[ah.mk l.labs o]).map ay)])
 rw [N1];rfl
theorem GB (o:Nr cq):cv (run aj (n+60)) (.and [(.callF 7 [(.var 4)]),(.cmp (.callF 5 [(.var 4)]) .in_ (.var 1))]) (wQ L r3 (some (.v (aS o))) r5) σ=some (oE o&&(place L (bg o)).isSome,σ):=
 ru (n:=n+59) (gB (aB (n:=n+58) (us:=[aS o]) (Us:=[.v (aS o)]) rfl rfl (x6 o (n+33)) rfl)) fun _=>bJ (n:=n+58) (o:= .in_) (W:= .v (an L)) (mo (n:=n+38) rfl) rfl rfl rfl vp
theorem ME {o:Nr cq} (hp:place L (bg o)=some p) (h:L[p]? =some x):(run aj (n+60)).s (.assign 5 (.attr (.idx (.var 0) (.idx (.var 1) (.callF 5 [(.var 4)]))) .instruction)) (wQ L r3 (some (.v (aS o))) r5) σ=some (.next,wQ L r3 (some (.v (aS o))) (some (.v (aS x.ins))),σ):=
 aD (n:=n+59) rfl (gH (n:=n+58) (fN (n:=n+57) (cM (U:= .v (lst L)) rfl (fN (n:=n+56) (cM (U:= .v (an L)) (W:= .v (.str (bg o))) rfl (mo (n:=n+36) rfl) rfl rfl) (pT hp)) rfl rfl) (iG h)) rfl rfl) rfl
theorem IX (o:Nr cq):∃r5',(run aj (n+61)).s (.ite (.and [(.callF 7 [(.var 4)]),(.cmp (.callF 5 [(.var 4)]) .in_ (.var 1))]) M0 []) (wQ L r3 (some (.v (aS o))) r5) σ=some (.next,wQ L r3 (some (.v (aS (AC L o)))) r5',σ):=by
 cases hb:(oE o&&(place L (bg o)).isSome) with
 |false=>
  have:AC L o=o:=by
   unfold AC uj
   cases e:oE o with
   |false=>rfl
   |true=>
    rw [e] at hb
    cases e2:place L (bg o) with
    |none=>rfl
    |some p=>rw [e2] at hb;cases hb
  exact ⟨r5,bc (n:=n+60) (GB o) (by rw [hb,this];rfl)⟩
 |true=>
  obtain ⟨j,q⟩:=Nz.mp hb
  obtain ⟨p,hp⟩:=Oq.mp q
  have lt:=fi hp
  have h:=NB lt
  have hw:AC L o=bif rR L[p].ins then some .ret else o:=by
   unfold AC uj
   rw [j,hp]
   show (bif rR (L[p]?.bind (·.ins)) then _ else _)=_
   rw [h];rfl
  refine ⟨some (.v (aS L[p].ins)),bc (n:=n+60) (GB o) ?_⟩
  rw [hb,hw]
  refine av (ME hp h) (bk (bc (n:=n+59) (Mx (n:=n+9) _) ?_))
  cases hr:rR L[p].ins with
  |false=>rfl
  |true=>
   generalize L[p].ins=g at hr
   cases g with
   |none=>cases hr
   |some i=>cases i with
    |ret=>rfl
    |jump=>cases hr
    |mov=>cases hr
theorem Fl:∀(xs acc:List ah) r3 r4 r5,acc.length+xs.length≤1000→∃r3' r4' r5',fm (bd (run aj (n+61)) (.one 3) Lu) (xs.map ay) (wQ L r3 r4 r5) [lst acc]=some (.next,wQ L r3' r4' r5',[lst (acc++xs.map (we L))]):=by
 intro xs
 induction xs with
 |nil=>exact fun acc r3 r4 r5 _=>⟨r3,r4,r5,by rw [Os,Os,NQ];rfl⟩
 |cons x xs ih=>
  intro acc r3 r4 r5 hz
  have hz:acc.length+1+xs.length≤1000:=by rw [OA,O2 1];exact hz
  refine Np fun nG=> ?_
  obtain ⟨s5,e⟩:=IX (n:=n) (L:=L) (r3:=some (.v (ay x))) (r5:=r5) (σ:=[lst acc]) x.ins
  have:bd (run aj (n+61)) (.one 3) Lu (ay x) (wQ L r3 r4 r5) [lst acc]=some (.next,wQ L (some (.v (ay x))) (some (.v (aS (AC L x.ins)))) s5,[lst (acc++[we L x])]):=
   show aH _ Lu (wQ L (some (.v (ay x))) r4 r5) _=_ from av (aD (n:=n+60) (U:= .v (aS x.ins)) rfl rfl rfl) (av e (bk (I4 (n:=n+1) (On (OM _) (Nt (Oj _ _) hz)))))
  obtain ⟨a,b,c,e2⟩:=ih (acc++[we L x]) _ _ _ (by rw [Nu];exact hz)
  refine nG ?_
  refine ⟨a,b,c,?_⟩
  rw [NJ,aQ,this,NJ,Qr acc (we L x) (xs.map (we L))]
  exact e2
theorem HN (S:bX L):mH 70 27 [lst L] (lst (L.map (we L))):=fun n=>by
 refine Np fun nG=> ?_
 obtain ⟨a,b,c,e⟩:=Fl (n:=n+7) (L:=L) L [] none none none (by rw [RL,Ow];exact S.len')
 refine nG ?_
 have s1:(run aj (n+69)).s (.assignT [(1,false),(2,true)] [(.callF 10 [(.var 0)]),(.lst [])]) [some (.v (lst L)),none,none,none,none,none] []=some (.next,wQ L none none none,[lst []]):=by
  rw [iU,aI,gw,aB (n:=n+67) (us:=[lst L]) (Us:=[.v (lst L)]) rfl rfl (jm S.nodup (Nt S.labs (by decide)) (n+27)) rfl];rfl
 exact bV (n:=n+69) (fn:=mh) (W:= .cell 0) rfl rfl (av s1 (av (f8 (n:=n+68) (t:= .one 3) (it:= .seq (.var 0)) (body:=Lu) rfl e) (dW (n:=n+68) rfl))) rfl
theorem HE (o:Nr cq):AC L o=o∨(AC L o=some .ret∧∃t,o=some (.jump .jmp t)):=by
 cases h:rR (uj L o) with
 |false=>exact .inl (by unfold AC;rw [h];rfl)
 |true=>
  refine .inr ⟨by unfold AC;rw [h];rfl,?_⟩
  unfold uj at h
  cases j:oE o with
  |true=>exact oX j
  |false=>rw [j] at h;cases h
theorem eH.map {f:ah→ah} (I:Inv P0 L) (hi:∀l,jJ (f l)=jJ l) (hs:∀l,(f l).ins.isSome=l.ins.isSome) (ht:∀l∈L,∀m t,(f l).ins=some (.jump m t)→t≠[]) (hw:∀l,f l=l∨wt (f l).ins <wt l.ins):eH P0 L (L.map f):=by
 have e:items (L.map f)=items L:=by
  unfold items
  rw [Vo]
  exact NC (List.flatMap · L) (funext hi)
 have sm:lq L (L.map f):=by unfold lq;rw [OP];exact NC (S7 · L) (funext hs)
 refine ⟨⟨by rw [e];exact I.core,sm.shape I.sh,fun l m=> ?_,sm.len▸I.len⟩,gJ (by rw [e];exact Pw _),?_⟩
 ·obtain ⟨l',m',rfl⟩:=Op.mp m
  exact ht l' m'
 ·clear e sm ht I
  have le:∀l,wt (f l).ins≤wt l.ins:=fun l=>(hw l).elim (fun e=>by rw [e];exact NI _) NY
  have:wts (L.map f)≤wts L∧(L.map f=L∨wts (L.map f) <wts L):=by
   induction L with
   |nil=>exact ⟨NI _,.inl rfl⟩
   |cons l L ih=>
    rw [NJ,bu,bu]
    refine ⟨Of (le l) ih.1,?_⟩
    rcases hw l with h|h
    ·rcases ih.2 with q|q
     ·exact .inl (by rw [h,q])
     ·exact .inr (Nat.add_lt_add_of_le_of_lt (le l) q)
    ·exact .inr (Nat.add_lt_add_of_lt_of_le h ih.1)
  exact this.2
theorem zz (I:Inv P0 L):eH P0 L (L.map (we L)):=by
 have cases':∀l:ah,we L l=l∨((we L l).ins=some .ret∧∃t,l.ins=some (.jump .jmp t)):=fun l=>(HE l.ins).imp (fun e=>by unfold we;rw [e]) id
 refine .map I (fun l=> ?_) (fun l=> ?_) (fun l m k t e=> ?_) fun l=> ?_
 ·rcases cases' l with h|⟨h1,t,h2⟩
  ·rw [h]
  ·unfold jJ;rw [h1,h2];rfl
 ·rcases cases' l with h|⟨h1,t,h2⟩
  ·rw [h]
  ·rw [h1,h2];rfl
 ·rcases cases' l with h|⟨h1,t,h2⟩
  ·rw [h] at e;exact I.tg l m k _ e
  ·rw [h1] at e;cases e
 ·rcases cases' l with h|⟨h1,t,h2⟩
  ·exact .inl h
  ·exact .inr (by rw [h1,h2];exact OM 1)
end
section
variable {P0 P P':List Itm} {L L' A M Bt C X Y Z W:List ah} {J b0 l:ah} {a b e s i j:Nat}
theorem GW {p q r:Itm} {W1 K W2:List Itm} (h:[p,q,r].Sublist (W1++(K++W2))) (n1:p∉W1) (n2:r∉W2):[p,q,r].Sublist K:=by
 obtain ⟨s1,s2,e,h1,h2⟩:=Q7.mp h
 cases s1 with
 |cons x s1=>exact (n1 ((OX e).1.symm▸h1.mem (.head _))).elim
 |nil=>
  rw [Qv] at e
  subst e
  obtain ⟨t1,t2,e,h3,h4⟩:=Q7.mp h2
  rcases Qz t2 with h|⟨t,x,h⟩
  ·rw [h,NQ] at e;rw [e];exact h3
  ·rw [h,P9,←NR] at e
   have:r=x:=by
    have:=NC List.getLast? e
    rw [RH] at this
    exact Nq this
   exact (n2 (h4.mem (by rw [h,P9,this];exact NG.mpr (.inr (.head _))))).elim
theorem An {n:Nm} {x:Sg} {P:List Itm} (h: .lp n x∈P):n∈P.filterMap Itm.lp?:=Pk.mpr ⟨_,h,rfl⟩
theorem Gr {α β:Type} {f:α→Nr β} {W1 K W2:List α} {g g':α} {v:β} (hn:((W1++(K++W2)).filterMap f).Nodup) (h:g∈K) (e:f g=some v) (e':f g'=some v):g'∉W1∧g'∉W2:=by
 rw [OF,OF] at hn
 have m:v∈K.filterMap f:=Pk.mpr ⟨g,h,e⟩
 have hn:=OU.mp hn
 exact ⟨fun z=>hn.2.2 v (Pk.mpr ⟨g',z,e'⟩) v (NG.mpr (.inl m)) rfl,fun z=>(OU.mp hn.2.1).2.2 v m v (Pk.mpr ⟨g',z,e'⟩) rfl⟩
theorem kN.move (C:kN P0 P) (hp:P'.Perm P) (h:∀n x,.lp n x∈P→ .lab x∈P→∃W1 K W2,P'=W1++(K++W2)∧K.Sublist P∧ .lp n x∈K∧ .lab x∈K):kN P0 P' where
 labs:=(hp.filterMap _).nodup_iff.mpr C.labs
 lps:=(hp.filterMap _).nodup_iff.mpr C.lps
 call:=fun t m q=>C.call t (hp.mem_iff.mp m) (hp.mem_iff.mp q)
 old:=fun t m=>C.old t (hp.mem_iff.mp m)
 span:=fun n x w i y b=>C.span n x w i y (by
  have hm:Itm.lp n x∈P'∧Itm.lab x∈P':=b.elim (fun s=>⟨s.mem (.head _),s.mem (.tail _ (.tail _ (.head _)))⟩) fun s=>⟨s.mem (.tail _ (.tail _ (.head _))),s.mem (.head _)⟩
  refine Np fun nG=> ?_
  obtain ⟨W1,K,W2,e,hk,k1,k2⟩:=h n x (hp.mem_iff.mp hm.1) (hp.mem_iff.mp hm.2)
  refine nG ?_
  have n1:((W1++(K++W2)).filterMap Itm.lab?).Nodup:=e▸(hp.filterMap _).nodup_iff.mpr C.labs
  have n2:((W1++(K++W2)).filterMap Itm.lp?).Nodup:=e▸(hp.filterMap _).nodup_iff.mpr C.lps
  have a1:=Gr (g:= .lab x) (g':= .lab x) n1 k2 rfl rfl
  have a2:=Gr (g:= .lp n x) (g':= .lp n x) n2 k1 rfl rfl
  rw [e] at b
  exact b.imp (fun s=>(GW s a2.1 a1.2).trans hk) fun s=>(GW s a1.1 a2.2).trans hk)
 mvs:=fun w i y m=>C.mvs w i y (hp.mem_iff.mp m)
 nil:=fun m=>C.nil (hp.mem_iff.mp m)
theorem kG (h:i≤j) (hj:j≤L.length):L.drop i=(L.take j).drop i++L.drop j:=by
 conv=>lhs;rw [←QA j L]
 rw [PM (by rw [OV hj];exact h)]
theorem Db (h:L[i]? =some l):L.drop i=l::L.drop (i+1):=by
 obtain ⟨ha,q⟩:=NA.mp h
 rw [←q,Rp]
theorem gu (h:L[s]? =some l) (h1:i≤s) (h2:s <j):l∈(L.take j).drop i:=by
 have:((L.take j).drop i)[s -i]? =some l:=by
  rw [PK,Qi h1,QR h2];exact h
 exact NN this
theorem mG (h:L[s]? =some l) (h1:i≤s):l∈L.drop i:=by
 have:(L.drop i)[s -i]? =some l:=by rw [PK,Qi h1];exact h
 exact NN this
theorem eh {g:Itm} (m:l∈X) (h:g∈jJ l):g∈items X:=Po.mpr ⟨l,m,h⟩
structure lB (L:List ah) (a b e:Nat) (J b0:ah):Prop where
 atJ:L[a]? =some J
 atB:L[b]? =some b0
 be:b≤e
 el:e+1 <L.length
 al:a+1 <L.length
 jmp:oE J.ins=true
 str:∀s l n x g,L[s]? =some l→ .lp n x∈jV l.ins→place L x=some g→(b≤s∧s≤e∧b≤g∧g≤e)∨((s <b∨e <s)∧(g <b∨e <g)∧((s≤a∧g≤a)∨(a <s∧a <g)))
theorem lB.silent (B:lB L a b e J b0):jJ ⟨J.labs++b0.labs,b0.ins⟩=jJ J++jJ b0:=by
 obtain ⟨t,h⟩:=oX B.jmp
 unfold jJ
 rw [h,N1]
 show _=(S7 Itm.lab J.labs++[])++_
 rw [NQ,NR]
theorem lB.wtJ (B:lB L a b e J b0):wt J.ins=2:=by
 obtain ⟨t,h⟩:=oX B.jmp
 rw [h];rfl
theorem lB.find (B:lB L a b e J b0) {n:Nm} {x:Sg} (h1: .lp n x∈items L) (h2: .lab x∈items L):∃s l g l',L[s]? =some l∧ .lp n x∈jJ l∧L[g]? =some l'∧ .lab x∈jJ l'∧((b≤s∧s≤e∧b≤g∧g≤e)∨((s <b∨e <s)∧(g <b∨e <g)∧((s≤a∧g≤a)∨(a <s∧a <g)))):=by
 refine Np fun nG=> ?_
 obtain ⟨l,m1,m2⟩:=Po.mp h1
 obtain ⟨s,hs⟩:=Oy.mp m1
 have m3:Itm.lp n x∈jV l.ins:=(NG.mp m2).resolve_left fun z=>let ⟨y,_,e⟩:=Op.mp z;nomatch e
 have q:=ik (x:=x) (L:=L)
 rw [NF (eS.mp h2)] at q
 obtain ⟨g,hg⟩:=Oq.mp q.symm
 obtain ⟨l',p1,p2⟩:=iC hg
 refine nG ?_
 exact ⟨s,l,g,l',hs,m2,p1,NG.mpr (.inl (O1 p2)),B.str s l n x g hs m3 hg⟩
noncomputable def GI (L:List ah) (a b e:Nat) (z:ah):List ah:=L.take a++(z::(L.take (e+1)).drop (b+1))++(L.take b).drop (a+1)++L.drop (e+1)
noncomputable def Ga (L:List ah) (a b e:Nat) (z:ah):List ah:=L.take b++(L.take a).drop (e+1)++(z::(L.take (e+1)).drop (b+1))++L.drop (a+1)
theorem mq (h:L[i]? =some l):L.take (i+1)=L.take i++[l]:=by
 obtain ⟨ha,q⟩:=NA.mp h
 rw [←q,List.take_append_getElem]
theorem oZ (h:L[b]? =some b0) (be:b≤e):(L.take (e+1)).drop b=b0::(L.take (e+1)).drop (b+1):=
 Db (by rw [QR (Pi be)];exact h)
theorem lB.eqB (B:lB L a b e J b0) (h:a <b):L=L.take (a+1)++((L.take b).drop (a+1)++((L.take (e+1)).drop b++L.drop (e+1))):=by
 have lb:=(NA.mp B.atB).1
 rw [←kG (PO B.be) (NY B.el),←kG h (NY lb),QA]
theorem lB.eqF (B:lB L a b e J b0) (h:e <a):L=L.take b++((L.take (e+1)).drop b++((L.take (a+1)).drop (e+1)++L.drop (a+1))):=by
 rw [←kG (PO h) (NY B.al),←kG (PO B.be) (NY B.el),QA]
theorem lB.itB (B:lB L a b e J b0):items (GI L a b e ⟨J.labs++b0.labs,b0.ins⟩)=items (L.take (a+1))++(items ((L.take (e+1)).drop b)++(items ((L.take b).drop (a+1))++items (L.drop (e+1)))):=by
 unfold GI
 rw [mq B.atJ,oZ B.atB B.be,aJ,aJ,aJ,aR,aJ,aR,aR,B.silent]
 show _=(_++(jJ J++[]))++_
 rw [NQ]
 simp only [NR]
theorem lB.itF (B:lB L a b e J b0) (h:e <a):items (Ga L a b e ⟨J.labs++b0.labs,b0.ins⟩)=items (L.take b)++(items ((L.take (a+1)).drop (e+1))++(items ((L.take (e+1)).drop b)++items (L.drop (a+1)))):=by
 have ha:=(NA.mp B.atJ).1
 have e1:(L.take (a+1)).drop (e+1)=(L.take a).drop (e+1)++[J]:=by
  rw [mq B.atJ,PM (by rw [OV (NY ha)];exact h)]
 unfold Ga
 rw [e1,oZ B.atB B.be,aJ,aJ,aJ,aR,aJ,aR,aR,B.silent]
 show _=_++((_++(jJ J++[]))++_)
 rw [NQ]
 simp only [NR]
theorem kF (X Y Z W:List Itm):(X++(Y++(Z++W))).Perm (X++(Z++(Y++W))):=by
 refine List.Perm.append_left X ?_
 rw [←NR,←NR]
 exact List.Perm.append_right W List.perm_append_comm
theorem lB.coreB (B:lB L a b e J b0) (C:kN P0 (items L)) (h:a <b):kN P0 (items (GI L a b e ⟨J.labs++b0.labs,b0.ins⟩)):=by
 have eL:items L=items (L.take (a+1))++(items ((L.take b).drop (a+1))++(items ((L.take (e+1)).drop b)++items (L.drop (e+1)))):=(NC items (B.eqB h)).trans (by rw [aJ,aJ,aJ])
 have hp:=kF (items (L.take (a+1))) (items ((L.take (e+1)).drop b)) (items ((L.take b).drop (a+1))) (items (L.drop (e+1)))
 rw [←eL] at hp
 refine C.move (B.itB▸hp) fun n x h1 h2=> ?_
 obtain ⟨s,l,g,l',hs,m1,hg,m2,q⟩:=B.find h1 h2
 rw [B.itB]
 rcases q with ⟨q1,q2,q3,q4⟩|⟨q1,q2,⟨q3,q4⟩|⟨q3,q4⟩⟩
 ·refine ⟨_,_,_,rfl,?_,eh (gu hs q1 (Pi q2)) m1,eh (gu hg q3 (Pi q4)) m2⟩
  rw [eL]
  exact (Qg _ _).trans ((Oh _ _).trans (Oh _ _))
 ·refine ⟨[],_,_,rfl,?_,eh (gu (i:=0) hs (Oe _) (Pi q3)) m1,eh (gu (i:=0) hg (Oe _) (Pi q4)) m2⟩
  rw [eL]
  exact Qg _ _
 ·have side:∀{s l} {k:Itm},L[s]? =some l→k∈jJ l→(s <b∨e <s)→a <s→k∈items ((L.take b).drop (a+1))++items (L.drop (e+1)):=fun hs m w q=>NG.mpr (w.imp (fun w=>eh (gu hs q w) m) fun w=>eh (mG hs w) m)
  refine ⟨items (L.take (a+1))++items ((L.take (e+1)).drop b),_,[],by rw [NQ,NR],?_,side hs m1 q1 q3,side hg m2 q2 q4⟩
  rw [eL]
  exact ((Pw _).append (Oh _ _)).trans (Oh _ _)
theorem lB.coreF (B:lB L a b e J b0) (C:kN P0 (items L)) (h:e <a):kN P0 (items (Ga L a b e ⟨J.labs++b0.labs,b0.ins⟩)):=by
 have eL:items L=items (L.take b)++(items ((L.take (e+1)).drop b)++(items ((L.take (a+1)).drop (e+1))++items (L.drop (a+1)))):=(NC items (B.eqF h)).trans (by rw [aJ,aJ,aJ])
 have hp:=kF (items (L.take b)) (items ((L.take (a+1)).drop (e+1))) (items ((L.take (e+1)).drop b)) (items (L.drop (a+1)))
 rw [←eL] at hp
 refine C.move (B.itF h▸hp) fun n x h1 h2=> ?_
 obtain ⟨s,l,g,l',hs,m1,hg,m2,q⟩:=B.find h1 h2
 rw [B.itF h]
 rcases q with ⟨q1,q2,q3,q4⟩|⟨q1,q2,⟨q3,q4⟩|⟨q3,q4⟩⟩
 ·refine ⟨items (L.take b)++items ((L.take (a+1)).drop (e+1)),_,items (L.drop (a+1)),by rw [NR],?_,eh (gu hs q1 (Pi q2)) m1,eh (gu hg q3 (Pi q4)) m2⟩
  rw [eL]
  exact (Qg _ _).trans (Oh _ _)
 ·have side:∀{s l} {k:Itm},L[s]? =some l→k∈jJ l→(s <b∨e <s)→s≤a→k∈items (L.take b)++items ((L.take (a+1)).drop (e+1)):=fun hs m w q=>NG.mpr (w.imp (fun w=>eh (gu (i:=0) hs (Oe _) w) m) fun w=>eh (gu hs w (Pi q)) m)
  refine ⟨[],_,items ((L.take (e+1)).drop b)++items (L.drop (a+1)),by rw [Qv,NR],?_,side hs m1 q1 q3,side hg m2 q2 q4⟩
  rw [eL]
  exact (Pw _).append ((Qg _ _).trans (Oh _ _))
 ·refine ⟨items (L.take b)++(items ((L.take (a+1)).drop (e+1))++items ((L.take (e+1)).drop b)),items (L.drop (a+1)),[],by rw [NQ,NR,NR],?_,eh (mG hs q3) m1,eh (mG hg q4) m2⟩
  rw [eL]
  exact (Oh _ _).trans ((Oh _ _).trans (Oh _ _))
end
section
variable {P0 P P':List Itm} {L L' D:List ah} {J b0 l z:ah} {a b e s i j k:Nat}
theorem io (S:cK L) (m:l∈L.take k) (h:k <L.length):l.ins.isSome=true:=by
 obtain ⟨i,hi,q⟩:=Pd m
 rw [OV (NY h)] at hi
 obtain ⟨ls,x,e⟩:=S.row i (NL hi h)
 rw [UX] at q
 rw [NB (PE hi h),q] at e
 cases e;rfl
theorem qc (S:cK L) (hk:k <L.length) (hD:∀x∈D,x.ins.isSome=true):cK (D++L.drop k):=by
 obtain ⟨A,l,rfl,hl,hA⟩:=S.ex
 rw [Nu] at hk
 rw [PM (ON hk),←NR]
 exact .mk' hl fun x m=>(NG.mp m).elim (hD x) fun m=>hA x (OB m)
theorem lB.lt (B:lB L a b e J b0):b <L.length:=NL B.be (O8 B.el)
theorem lB.b0some (B:lB L a b e J b0) (S:cK L):b0.ins.isSome=true:=by
 obtain ⟨ls,x,q⟩:=S.row b (NL (NX B.be) B.el)
 rw [B.atB] at q
 cases q;rfl
theorem lB.len2 (B:lB L a b e J b0):((L.take (e+1)).drop b).length=((L.take (e+1)).drop (b+1)).length+1:=by rw [oZ B.atB B.be];rfl
theorem lB.wts2 (B:lB L a b e J b0):wts ((L.take (e+1)).drop b)=wt b0.ins+wts ((L.take (e+1)).drop (b+1)):=by rw [oZ B.atB B.be,bu]
theorem rF (h:(items L').Perm (items L)):nlab L'≤nlab L:=by
 unfold nlab
 rw [←cG,←cG]
 exact N8 (h.filterMap _).length_eq
theorem lB.passB (B:lB L a b e J b0) (I:Inv P0 L) (h:a <b):eH P0 L (GI L a b e ⟨J.labs++b0.labs,b0.ins⟩):=by
 have ha:=(NA.mp B.atJ).1
 have eq:=B.eqB h
 have l1:=NC P1 eq
 have w1:=NC wts eq
 rw [Nu,Nu,Nu,B.len2,OV ha] at l1
 rw [bO,bO,bO,B.wts2,mq B.atJ,bO,bu,B.wtJ] at w1
 have hp:=kF (items (L.take (a+1))) (items ((L.take (e+1)).drop b)) (items ((L.take b).drop (a+1))) (items (L.drop (e+1)))
 rw [←B.itB,←aJ,←aJ,←aJ,←eq] at hp
 refine ⟨⟨B.coreB I.core h,qc I.sh B.el fun x m=> ?_,fun x m=> ?_,?_⟩,rF hp,.inr ?_⟩
 ·rcases NG.mp m with m|m
  ·rcases NG.mp m with m|m
   ·exact io I.sh m ha
   ·rcases NW.mp m with rfl|m
    ·exact B.b0some I.sh
    ·exact io I.sh (OB m) B.el
  ·exact io I.sh (OB m) B.lt
 ·unfold GI at m
  rcases NG.mp m with m|m
  ·rcases NG.mp m with m|m
   ·rcases NG.mp m with m|m
    ·exact I.tg x (Pj m)
    ·rcases NW.mp m with rfl|m
     ·exact I.tg b0 (NN B.atB)
     ·exact I.tg x (Pj (OB m))
   ·exact I.tg x (Pj (OB m))
  ·exact I.tg x (OB m)
 ·refine Nt ?_ I.len
  unfold GI
  rw [Nu,Nu,Nu,O5,OV (NY ha)]
  omega
 ·unfold GI
  rw [bO,bO,bO,bu]
  have e0:wts ([]:List ah)=0:=rfl
  show _+(wt b0.ins+_)+_+_ <_
  omega
theorem lB.passF (B:lB L a b e J b0) (I:Inv P0 L) (h:e <a):eH P0 L (Ga L a b e ⟨J.labs++b0.labs,b0.ins⟩):=by
 have ha:=(NA.mp B.atJ).1
 have eq:=B.eqF h
 have e1:(L.take (a+1)).drop (e+1)=(L.take a).drop (e+1)++[J]:=by
  rw [mq B.atJ,PM (by rw [OV (NY ha)];exact h)]
 have l1:=NC P1 eq
 have w1:=NC wts eq
 rw [Nu,Nu,Nu,B.len2,e1,Nu] at l1
 rw [bO,bO,bO,B.wts2,e1,bO,bu,B.wtJ] at w1
 have hp:=kF (items (L.take b)) (items ((L.take (a+1)).drop (e+1))) (items ((L.take (e+1)).drop b)) (items (L.drop (a+1)))
 rw [←B.itF h,←aJ,←aJ,←aJ,←eq] at hp
 refine ⟨⟨B.coreF I.core h,qc I.sh B.al fun x m=> ?_,fun x m=> ?_,?_⟩,rF hp,.inr ?_⟩
 ·rcases NG.mp m with m|m
  ·rcases NG.mp m with m|m
   ·exact io I.sh m B.lt
   ·exact io I.sh (OB m) ha
  ·rcases NW.mp m with rfl|m
   ·exact B.b0some I.sh
   ·exact io I.sh (OB m) B.el
 ·unfold Ga at m
  rcases NG.mp m with m|m
  ·rcases NG.mp m with m|m
   ·rcases NG.mp m with m|m
    ·exact I.tg x (Pj m)
    ·exact I.tg x (Pj (OB m))
   ·rcases NW.mp m with rfl|m
    ·exact I.tg b0 (NN B.atB)
    ·exact I.tg x (Pj (OB m))
  ·exact I.tg x (OB m)
 ·refine Nt ?_ I.len
  unfold Ga
  rw [Nu,Nu,Nu,O5]
  have e2:[J].length=1:=rfl
  omega
 ·unfold Ga
  rw [bO,bO,bO,bu]
  have e0:wts ([]:List ah)=0:=rfl
  show _+_+(wt b0.ins+_)+_ <_
  omega
end
section
variable {P0:List Itm} {L L':List ah} {l x:ah} {a b e s g n k:Nat} {ρ:Loc} {σ:ag} {i:cq}
noncomputable def ID:Nr Nat→V
 |some e=>ai e
 |none=> .int (-1)
noncomputable def Nk:Nr Nat→fc
 |some e=> .ret (.v (ai e))
 |none=> .next
noncomputable def DD (L:List ah) (b:Nat) (r2:Nr aA):Loc:=[some (.v (lst L)),some (.v (ai b)),r2]
noncomputable def L5:List CS:=[.ite (.not (.callF 9 [(.attr (.idx (.var 0) (.var 2)) .instruction)])) [.ret (.var 2)] []]
theorem xZ {ls:List Sg} {r2:Nr aA} (h:L[a]? =some ⟨ls,some i⟩):bd (run aj (n+50)) (.one 2) L5 (ai a) (DD L b r2) []=some (bif fU i then .next else .ret (.v (ai a)),DD L b (some (.v (ai a))),[]):=by
 have q:(run aj (n+50)).s (.ite (.not (.callF 9 [(.attr (.idx (.var 0) (.var 2)) .instruction)])) [.ret (.var 2)] []) (DD L b (some (.v (ai a)))) []=some (bif fU i then .next else .ret (.v (ai a)),DD L b (some (.v (ai a))),[]):=
  bc (n:=n+49) (vm (n:=n+48) (gB (aB (n:=n+47) (us:=[aP i]) (Us:=[.v (aP i)]) (by rw [aZ,lG (n:=n+44) rfl rfl h];rfl) rfl (tz i (n+17)) rfl))) (by cases fU i<;>rfl)
 show aH _ [_] (DD L b (some (.v (ai a)))) []=_
 rw [iV];exact q
theorem Ex (S:cK L) (b:Nat):∀k a,a+k+1=L.length→∃r:Nr Nat,(∀e,r=some e→a≤e∧e <a+k)∧∀n r2,∃r2',fm (bd (run aj (n+50)) (.one 2) L5) ((P3 a k).map ai) (DD L b r2) []=some (Nk r,DD L b r2',[]):=by
 intro k
 induction k with
 |zero=>exact fun a _=>⟨none,fun _ h=>(nomatch h),fun n r2=>⟨r2,rfl⟩⟩
 |succ k ih=>
  intro a hk
  refine Np fun nG=> ?_
  obtain ⟨ls,i,h⟩:=S.row a (by rw [←hk];exact PA (PR (OJ k)) 1)
  refine nG ?_
  cases hf:fU i with
  |false=>
   refine ⟨some a,fun e q=>by cases q;exact ⟨NI _,PR (OJ k)⟩,fun n r2=>⟨some (.v (ai a)),?_⟩⟩
   rw [QD,NJ,aQ,xZ h,hf];rfl
  |true=>
   obtain ⟨r,p,q⟩:=ih (a+1) (by rw [←hk];exact NC (· +1) (Ph a k))
   refine ⟨r,fun e h=>⟨PQ (p e h).1,by have:=(p e h).2;rw [Ph] at this;exact this⟩,fun n r2=> ?_⟩
   obtain ⟨r2',e2⟩:=q n (some (.v (ai a)))
   refine ⟨r2',?_⟩
   rw [QD,NJ,aQ,xZ h,hf]
   exact e2
theorem wA (S:bX L) (hb:b <L.length):∃r:Nr Nat,(∀e,r=some e→b≤e∧e+1 <L.length)∧oo 60 28 [lst L,ai b] (ID r):=by
 refine Np fun nG=> ?_
 obtain ⟨k,hk⟩:=Nat.exists_eq_add_of_lt hb
 obtain ⟨r,p,q⟩:=Ex S.sh b k b hk.symm
 refine nG ?_
 refine ⟨r,fun e h=>⟨(p e h).1,hk▸P5 (p e h).2⟩,fun n=> ?_⟩
 obtain ⟨r2,e⟩:=q (n+8) none
 have e1:(run aj (n+58)).e (.bin .sub (.callB .len [(.var 0)]) (.cst (.int 1))) (DD L b none) []=some (.v (ai (b+k)),[]):=
  bW (n:=n+57) (o:= .sub) (aK (σ1:=[]) (W:= .v (.int 1)) (u9 (n:=n+55) (L:=L) rfl) rfl rfl rfl) (by rw [hk,BD _ (OJ _)];rfl)
 have hi:dN (run aj (n+58)) (.range [(.var 1),(.bin .sub (.callB .len [(.var 0)]) (.cst (.int 1)))]) (DD L b none) []=some ((P3 b k).map ai,[]):=by
  rw [oQ,aK (U:= .v (ai b)) (σ1:=[]) rfl rfl e1 rfl]
  show (iA [ai b,ai (b+k)]).map _=_
  rw [v9 (Nt (Nt (NZ _) (N8 hk.symm)) S.len') (Oj b k),Q5];rfl
 have f:=f8 (n:=n+58) (t:= .one 2) (body:=L5) hi e
 refine bV (n:=n+59) (fn:=me) (ρ:=DD L b r2) (σ2:=[]) (W:= .v (ID r)) rfl rfl ?_ rfl
 cases r with
 |none=>exact av f rfl
 |some e=>exact eg f rfl
noncomputable def H6 (L:List ah) (a b e:Nat) (l:ah) (s:Nat):Prop:=∀n x g,.lp n x∈jV l.ins→place L x=some g→(b≤s∧s≤e∧b≤g∧g≤e)∨((s <b∨e <s)∧(g <b∨e <g)∧((s≤a∧g≤a)∨(a <s∧a <g)))
noncomputable def xG (L:List ah) (a b e:Nat) (r5 r6 r7 r8 r9:Nr aA):Loc:=[some (.v (lst L)),some (.v (an L)),some (.v (ai a)),some (.v (ai b)),some (.v (ai e)),r5,r6,r7,r8,r9]
noncomputable def E2:Nr Nat→V
 |some g=>ai g
 |none=> .int (-1)
noncomputable def Hw:CE:= .or [(.cmp (.var 8) .lt (.cst (.int 0))),(.cmp (.callF 4 [(.attr (.var 7) .name)]) .ne (.cst (.str [98,114,97,110,99,104]))),(.cmp (.callF 6 [(.var 7)]) .ne (.cst (.str [])))]
noncomputable def Fp:CE:= .or [(.cmp (.var 9) .ne (.cmp2 (.var 3) .le (.var 8) .le (.var 4))),(.and [(.not (.var 9)),(.cmp2 (.callB .min_ [(.var 5),(.var 8)]) .le (.var 2) .lt (.callB .max_ [(.var 5),(.var 8)]))])]
noncomputable def Jk:List CS:=[.assign 7 (.attr (.var 6) .instruction),
  .assign 8 (.callS .get (.var 1) [(.callF 5 [(.var 7)]),(.neg 1)]),
  .ite Hw [.cont] [],
  .assign 9 (.cmp2 (.var 3) .le (.var 5) .le (.var 4)),
  .ite Fp [.ret (.cst (.bool true))] []]
variable {r5 r6 r7 r8 r9:Nr aA}
theorem G8 {e1 e2 e3:CE} {x:Sg} (h1:(run aj n).e e1 ρ σ=some (.v (an L),σ)) (h2:(run aj n).e e2 ρ σ=some (.v (.str x),σ)) (h3:(run aj n).e e3 ρ σ=some (.v (.int (-1)),σ)):(run aj (n+1)).e (.callS .get e1 [e2,e3]) ρ σ=some (.v (E2 (place L x)),σ):=by
 have e:GO aj .get (an L) [.str x,.int (-1)]=some (E2 (place L x)):=by
  show some ((f0 (aq L) ((cE 0 L).map ai) x).getD (.int (-1)))=_
  rw [lF]
  cases place L x with
  |none=>rfl
  |some g=>show some (ai (0+g))=some (ai g);rw [Ow]
 show ((run aj n).e e1 ρ σ).bind _=_
 rw [h1]
 show (jw (run aj n) [e2,e3] ρ σ).bind _=_
 rw [aK h2 rfl h3 rfl]
 show (if some (an L)=some (an L) then (GO aj .get (an L) [.str x,.int (-1)]).map _ else none)=_
 rw [NP rfl,e];rfl
noncomputable def Ly (i:cq):Bool:=match i with
 | .jump m _=>match m with
  | .jmp=>false
  | .call=>false
  | .jrcxz=>true
  | .loop=>true
  | .loope=>true
  | .loopne=>true
  | .je=>true
  | .jne=>true
  | .jae=>true
  | .jb=>true
 | .ret=>false
 | .mov _ _ _=>false
theorem Hn (i:cq):cv (run aj (n+60)) (.cmp (.callF 4 [(.attr (.var 7) .name)]) .ne (.cst (.str [98,114,97,110,99,104]))) (xG L a b e r5 r6 (some (.v (aP i))) r8 r9) []=some (!Ly i,[]):=by
 cases i with
 |jump m t=>cases m<;>kernel_rfl
 |ret=>kernel_rfl
 |mov=>kernel_rfl
theorem IY (i:cq):cv (run aj (n+60)) (.cmp (.callF 6 [(.var 7)]) .ne (.cst (.str []))) (xG L a b e r5 r6 (some (.v (aP i))) r8 r9) []=some ((eG (some i)).isSome,[]):=
 bJ (n:=n+59) (o:= .ne) (W:= .v (.str [])) (Da (n:=n+29) (o:=some i) rfl) rfl rfl rfl (by rw [bN,bE,tF];cases eG (some i)<;>rfl)
theorem GY {n:Nm} {x:Sg} {i:cq} (h: .lp n x∈qQ i):Ly i=true∧eG (some i)=none∧i.tgt=x:=
 mX (o:=some i) h (fun m t e1 e2 hl=>by rw [Nq e1,(Itm.lp.inj e2).2];cases m<;>first|exact ⟨rfl,rfl,rfl⟩|cases hl) (fun _ _ e=>nomatch e) fun _ _ _ _ e=>nomatch e
theorem Az {e1 e2 e3:CE} {o o':uQ} {x y z:V} {p q:Bool} (h1:(run aj n).e e1 ρ σ=some (.v x,σ)) (h2:(run aj n).e e2 ρ σ=some (.v y,σ)) (h3:(run aj n).e e3 ρ σ=some (.v z,σ)) (k1:gC o x y=some p) (k2:gC o' y z=some q):(run aj (n+1)).e (.cmp2 e1 o e2 o' e3) ρ σ=some (.v (.bool (p&&q)),σ):=by
 rw [iY,cQ,aK h1 rfl h2 rfl,cD,bQ,k1,cD]
 cases p with
 |false=>rfl
 |true=>rw [Pc,cC h3 rfl,cD,k2];rfl
theorem Fh (u v:Nat):gC .le (ai u) (ai v)=some (decide (u≤v)):=NC some (O4.mpr U7)
theorem MC (u v:Nat):gC .lt (ai u) (ai v)=some (decide (u <v)):=NC some (O4.mpr PC)
theorem C3 {e1 e2 e3:CE} {x y z:Nat} (h1:(run aj n).e e1 ρ σ=some (.v (ai x),σ)) (h2:(run aj n).e e2 ρ σ=some (.v (ai y),σ)) (h3:(run aj n).e e3 ρ σ=some (.v (ai z),σ)):(run aj (n+1)).e (.cmp2 e1 .le e2 .le e3) ρ σ=some (.v (.bool (decide (x≤y)&&decide (y≤z))),σ):=Az h1 h2 h3 (Fh x y) (Fh y z)
theorem IZ {e1 e2 e3:CE} {x y z:Nat} (h1:(run aj n).e e1 ρ σ=some (.v (ai x),σ)) (h2:(run aj n).e e2 ρ σ=some (.v (ai y),σ)) (h3:(run aj n).e e3 ρ σ=some (.v (ai z),σ)):(run aj (n+1)).e (.cmp2 e1 .le e2 .lt e3) ρ σ=some (.v (.bool (decide (x≤y)&&decide (y <z))),σ):=Az h1 h2 h3 (Fh x y) (MC y z)
theorem Kp (x y:Nat):vO .min_ [ai x,ai y]=some (ai (if y <x then y else x)):=by
 show some (V.int (if (y:Int) <x then y else x))=_
 by_cases h:y <x
 ·rw [NP h,NP (PC.mpr h)];rfl
 ·rw [N4 h,N4 fun z=>h (PC.mp z)];rfl
theorem KD (x y:Nat):vO .max_ [ai x,ai y]=some (ai (if y>x then y else x)):=by
 show some (V.int (if (y:Int)>x then y else x))=_
 by_cases h:y>x
 ·rw [NP h,NP (PC.mpr h)];rfl
 ·rw [N4 h,N4 fun z=>h (PC.mp z)];rfl
noncomputable def Ln (a b e s g:Nat):Bool:=(!(decide ((decide (b≤s)&&decide (s≤e))=(decide (b≤g)&&decide (g≤e)))))||(!(decide (b≤s)&&decide (s≤e))&&(decide ((if g <s then g else s)≤a)&&decide (a <if g>s then g else s)))
theorem C0 (p q:Bool):EA (.bool p) (.bool q)=some (decide (p=q)):=by cases p<;>cases q<;>rfl
theorem F0:cv (run aj (n+60)) Fp (xG L a b e (some (.v (ai s))) r6 r7 (some (.v (ai g))) (some (.v (.bool (decide (b≤s)&&decide (s≤e)))))) []=some (Ln a b e s g,[]):=
 u7 (n:=n+59) (bJ (n:=n+58) (o:= .ne) (U:= .v (.bool (decide (b≤s)&&decide (s≤e)))) rfl rfl (C3 (n:=n+57) (x:=b) (y:=g) (z:=e) rfl rfl rfl) rfl (by rw [bN,C0];rfl))
  fun _=>ru (n:=n+58) (vm (n:=n+57) rfl) fun _=>gB (IZ (n:=n+57) (y:=a) (eQ (n:=n+56) (us:=[ai s,ai g]) rfl (Kp s g)) rfl (eQ (n:=n+56) (us:=[ai s,ai g]) rfl (KD s g)))
theorem Bn (h:Ln a b e s g=false):(b≤s∧s≤e∧b≤g∧g≤e)∨((s <b∨e <s)∧(g <b∨e <g)∧((s≤a∧g≤a)∨(a <s∧a <g))):=by
 refine Np fun nG=> ?_
 obtain ⟨h1,h2⟩:=PL.mp h
 refine nG ?_
 have h1:=ND (rW h1)
 cases q:(decide (b≤s)&&decide (s≤e)) with
 |true=>
  have p:=Nz.mp q
  have p':=Nz.mp (h1.symm.trans q)
  exact .inl ⟨ND p.1,ND p.2,ND p'.1,ND p'.2⟩
 |false=>
  have out:∀{x:Nat},(decide (b≤x)&&decide (x≤e))=false→x <b∨e <x:=fun z=>(Rs.mp z).imp (fun z=>QF (P7 z)) fun z=>QF (P7 z)
  refine .inr ⟨out q,out (h1.symm.trans q),?_⟩
  rw [q] at h2
  have h2:(decide ((if g <s then g else s)≤a)&&decide (a <if g>s then g else s))=false:=h2
  by_cases z:g <s
  ·rw [NP z,N4 (Nat.lt_asymm z)] at h2
   rcases Rs.mp h2 with w|w
   ·have:=QF (P7 w);exact .inr ⟨PE this z,this⟩
   ·have:=QG (P7 w);exact .inl ⟨this,Nt (NY z) this⟩
  ·rw [N4 z] at h2
   have z:=QG z
   have e1:(if g>s then g else s)=g:=by
    by_cases w:g>s
    ·exact NP w
    ·rw [N4 w];exact Tn z (QG w)
   rw [e1] at h2
   rcases Rs.mp h2 with w|w
   ·have:=QF (P7 w);exact .inr ⟨this,On this z⟩
   ·have:=QG (P7 w);exact .inl ⟨Nt z this,this⟩
end
section
variable {P0:List Itm} {L L' A:List ah} {l x y z:ah} {a b e s g n k p:Nat} {ρ:Loc} {σ:ag} {i:cq} {r2 r3 r4 r5 r6 r7 r8 r9:Nr aA}
theorem j3 {E:Ev} {p q:CE} {es:List CE} {u v:Bool} (h:cv E p ρ σ=some (u,σ)) (k:u=false→eW E false (q::es) ρ σ=some (v,σ)):eW E false (p::q::es) ρ σ=some (u||v,σ):=by
 rw [cB,h]
 cases u with
 |true=>rfl
 |false=>exact k rfl
theorem F6 {E:Ev} {p:CE} {u:Bool} (h:cv E p ρ σ=some (u,σ)):eW E false [p] ρ σ=some (u,σ):=cz false p▸h
theorem x9 {es:List CE} {u:Bool} (h:eW (run aj n) false es ρ σ=some (u,σ)):cv (run aj (n+1)) (.or es) ρ σ=some (u,σ):=by
 refine gB ?_
 rw [iY,ig,h];rfl
theorem Gu (o:Nr Nat):cv (run aj (n+61)) Hw (xG L a b e r5 r6 (some (.v (aP i))) (some (.v (E2 o))) r9) []=some (o.isNone||(!Ly i||(eG (some i)).isSome),[]):=
 x9 (n:=n+60) (j3 (bJ (n:=n+59) (o:= .lt) (U:= .v (E2 o)) (W:= .v (.int 0)) rfl rfl rfl rfl (by
  cases o with
  |none=>rfl
  |some g=>exact NC some (N0 (VN.mpr (Ot g))))) fun _=>j3 (Hn i) fun _=>F6 (IY i))
theorem Eo {ls:List Sg} (l:ah) (s:Nat) (h:l=⟨ls,some i⟩):∃v:Bool,(v=false→H6 L a b e l s)∧∀n r5 r6 r7 r8 r9,∃o r5' r6' r7' r8' r9',bd (run aj (n+70)) (.two 5 6) Jk (qf (l,s)) (xG L a b e r5 r6 r7 r8 r9) []=some (o,xG L a b e r5' r6' r7' r8' r9',[])∧bif v then o= .ret (.v (.bool true)) else o.turns=true:=by
 subst h
 have pre:∀{n r5 r6 r7 r8 r9 r},aH (run aj (n+70)) [.ite Hw [.cont] [],.assign 9 (.cmp2 (.var 3) .le (.var 5) .le (.var 4)),.ite Fp [.ret (.cst (.bool true))] []] (xG L a b e (some (.v (ai s))) (some (.v (ay ⟨ls,some i⟩))) (some (.v (aP i))) (some (.v (E2 (place L i.tgt)))) r9) []=some r→bd (run aj (n+70)) (.two 5 6) Jk (qf (⟨ls,some i⟩,s)) (xG L a b e r5 r6 r7 r8 r9) []=some r:=fun {n r5 r6 r7 r8 r9 r} h=>
  show aH _ Jk (xG L a b e (some (.v (ai s))) (some (.v (ay ⟨ls,some i⟩))) r7 r8 r9) []=_ from av (aD (n:=n+69) (U:= .v (aP i)) rfl rfl rfl) (av (aD (n:=n+69) rfl (G8 (n:=n+68) rfl (mo (n:=n+48) (o:=some i) rfl) rfl) rfl) h)
 cases hb:((place L i.tgt).isNone||(!Ly i||(eG (some i)).isSome)) with
 |true=>
  refine ⟨false,fun _ m x g h1 h2=> ?_,fun n r5 r6 r7 r8 r9=>⟨.cont,_,_,_,_,_,pre (eg (bc (n:=n+69) (Gu (n:=n+8) _) (by rw [hb];rfl)) rfl),rfl⟩⟩
  obtain ⟨q1,q2,q3⟩:=GY h1
  rw [q1,q2,q3,h2] at hb
  cases hb
 |false=>
  refine Np fun nG=> ?_
  obtain ⟨h1,h2⟩:=PL.mp hb
  obtain ⟨g,hg⟩:∃g,place L i.tgt=some g:=by
   cases q:place L i.tgt with
   |none=>rw [q] at h1;cases h1
   |some g=>exact ⟨g,rfl⟩
  refine nG ?_
  have go:∀{n r5 r6 r7 r8 r9 r},aH (run aj (n+70)) [.ite Fp [.ret (.cst (.bool true))] []] (xG L a b e (some (.v (ai s))) (some (.v (ay ⟨ls,some i⟩))) (some (.v (aP i))) (some (.v (ai g))) (some (.v (.bool (decide (b≤s)&&decide (s≤e)))))) []=some r→bd (run aj (n+70)) (.two 5 6) Jk (qf (⟨ls,some i⟩,s)) (xG L a b e r5 r6 r7 r8 r9) []=some r:=fun {n r5 r6 r7 r8 r9 r} h=>
   pre (r9:=r9) (av (bc (n:=n+69) (Gu (n:=n+8) _) (by rw [hb];rfl)) (by rw [hg];exact av (aD (n:=n+69) rfl (C3 (n:=n+68) (x:=b) (y:=s) (z:=e) rfl rfl rfl) rfl) h))
  refine ⟨Ln a b e s g,fun q m x g' k1 k2=> ?_,fun n r5 r6 r7 r8 r9=> ?_⟩
  ·obtain ⟨_,_,q3⟩:=GY k1
   rw [←q3,hg] at k2
   cases k2
   exact Bn q
  ·cases hv:Ln a b e s g with
   |true=>exact ⟨_,_,_,_,_,_,go (eg (bc (n:=n+69) (F0 (n:=n+9)) (by rw [hv];exact dW (n:=n+68) rfl)) rfl),rfl⟩
   |false=>exact ⟨.next,_,_,_,_,_,go (bk (bc (n:=n+69) (F0 (n:=n+9)) (by rw [hv];rfl))),rfl⟩
theorem D6:∀(xs:List ah) (s:Nat),(∀l∈xs,∃i,l.ins=some i)→∃v:Bool,(v=false→∀j l,xs[j]? =some l→H6 L a b e l (s+j))∧∀n r5 r6 r7 r8 r9,∃r5' r6' r7' r8' r9',fm (bd (run aj (n+70)) (.two 5 6) Jk) ((xs.zipIdx s).map qf) (xG L a b e r5 r6 r7 r8 r9) []=some (bif v then .ret (.v (.bool true)) else .next,xG L a b e r5' r6' r7' r8' r9',[]):=by
 intro xs
 induction xs with
 |nil=>exact fun s _=>⟨false,fun _ j l h=>(nomatch h),fun n r5 r6 r7 r8 r9=>⟨_,_,_,_,_,rfl⟩⟩
 |cons l xs ih=>
  intro s hx
  refine Np fun nG=> ?_
  obtain ⟨i,hi⟩:=hx l (.head _)
  obtain ⟨v,g1,rr⟩:=Eo (L:=L) (a:=a) (b:=b) (e:=e) (i:=i) (ls:=l.labs) l s (by rw [←hi])
  refine nG ?_
  cases v with
  |true=>
   refine ⟨true,fun h=>(nomatch h),fun n r5 r6 r7 r8 r9=> ?_⟩
   refine Np fun nG=> ?_
   obtain ⟨o,s5,s6,s7,s8,s9,e1,e2⟩:=rr n r5 r6 r7 r8 r9
   have e2:o= .ret (.v (.bool true)):=e2
   subst e2
   refine nG ?_
   refine ⟨s5,s6,s7,s8,s9,?_⟩
   rw [Qs,NJ,aQ,e1];rfl
  |false=>
   refine Np fun nG=> ?_
   obtain ⟨v,g2,rr2⟩:=ih (s+1) fun l m=>hx l (.tail _ m)
   refine nG ?_
   refine ⟨v,fun h j l' q=> ?_,fun n r5 r6 r7 r8 r9=> ?_⟩
   ·cases j with
    |zero=>cases q;exact g1 rfl
    |succ j=>
     have:=g2 h j l' q
     rw [Ph] at this
     exact this
   ·obtain ⟨o,s5,s6,s7,s8,s9,e1,e2⟩:=rr n r5 r6 r7 r8 r9
    refine Np fun nG=> ?_
    obtain ⟨t5,t6,t7,t8,t9,e3⟩:=rr2 n s5 s6 s7 s8 s9
    refine nG ?_
    refine ⟨t5,t6,t7,t8,t9,?_⟩
    have e2:o.turns=true:=e2
    rw [Qs,NJ,aQ,e1]
    show (bif o.turns then _ else _)=_
    rw [e2];exact e3
theorem HI {j:Nat} (h:ρ[j]? =some (some (.v (lst L)))):(run aj (n+3)).e (.slc (.var j) none (some (.neg 1))) ρ σ=some (.v (.lst (L.dropLast.map ay)),σ):=by
 have h1:eO (run aj (n+2)) (.var j) ρ σ=some (lst L,σ):=by
  show ((ρ[j]?.join.map _).bind _)=_
  rw [h];rfl
 show (eO (run aj (n+2)) (.var j) ρ σ).bind _=_
 rw [h1]
 show (i9 (lst L) none (some (V.int (-1)))).map (fun v=>(aA.v v,σ))=_
 rw [lst,vG,Ss];rfl
theorem Ab (S:bX L) (a b e:Nat):∃v:Bool,(v=false→∀s l,L[s]? =some l→s+1 <L.length→H6 L a b e l s)∧oo 80 29 [lst L,an L,ai a,ai b,ai e] (.bool v):=by
 refine Np fun nG=> ?_
 obtain ⟨v,g1,rr⟩:=D6 (L:=L) (a:=a) (b:=b) (e:=e) L.dropLast 0 S.rows
 refine nG ?_
 refine ⟨v,fun h s l q hs=> ?_,fun n=> ?_⟩
 ·have:=g1 h s l (by rw [List.getElem?_dropLast,NP (Nat.lt_sub_of_add_lt hs)];exact q)
  rw [Ow] at this;exact this
 ·obtain ⟨r5,r6,r7,r8,r9,e1⟩:=rr (n+8) none none none none none
  have hi:dN (run aj (n+78)) (.enum (.slc (.var 0) none (some (.neg 1)))) (xG L a b e none none none none none) []=some ((L.dropLast.zipIdx 0).map qf,[]):=by
   rw [BS,cC (HI (n:=n+75) (L:=L) rfl) rfl]
   show some (jh 0 (L.dropLast.map ay),_)=_
   rw [mQ]
  have f:=f8 (n:=n+78) (t:= .two 5 6) (body:=Jk) hi e1
  refine bV (n:=n+79) (fn:=qg) (ρ:=xG L a b e r5 r6 r7 r8 r9) (σ2:=[]) (W:= .v (.bool v)) rfl rfl ?_ rfl
  cases v with
  |true=>exact eg f rfl
  |false=>exact av f (dW (n:=n+78) rfl)
noncomputable def kQ (L:List ah) (r2 r3 r4 r5 r6:Nr aA):Loc:=[some (.v (lst L)),some (.v (an L)),r2,r3,r4,r5,r6]
noncomputable def MV:CE:= .or [(.not (.callF 7 [(.var 3)])),(.cmp (.callF 5 [(.var 3)]) .nin (.var 1))]
noncomputable def M5:CE:= .or [(.cmp (.var 4) .eq (.cst (.int 0))),(.cmp (.var 5) .lt (.cst (.int 0))),(.cmp2 (.var 4) .le (.var 2) .le (.var 5)),(.callF 9 [(.attr (.idx (.var 0) (.bin .sub (.var 4) (.cst (.int 1)))) .instruction)])]
noncomputable def MP:CE:= .callF 29 [(.var 0),(.var 1),(.var 2),(.var 4),(.var 5)]
noncomputable def MQ:CS:= .assign 6 (.bin .add (.lst [(.mk .line [(.bin .add (.attr (.idx (.var 0) (.var 2)) .labels) (.attr (.idx (.var 0) (.var 4)) .labels)),(.attr (.idx (.var 0) (.var 4)) .instruction)])]) (.slc (.var 0) (some (.bin .add (.var 4) (.cst (.int 1)))) (some (.bin .add (.var 5) (.cst (.int 1))))))
noncomputable def K7:CE:= .bin .add (.bin .add (.bin .add (.slc (.var 0) none (some (.var 2))) (.var 6)) (.slc (.var 0) (some (.bin .add (.var 2) (.cst (.int 1)))) (some (.var 4)))) (.slc (.var 0) (some (.bin .add (.var 5) (.cst (.int 1)))) none)
noncomputable def KV:CE:= .bin .add (.bin .add (.bin .add (.slc (.var 0) none (some (.var 4))) (.slc (.var 0) (some (.bin .add (.var 5) (.cst (.int 1)))) (some (.var 2)))) (.var 6)) (.slc (.var 0) (some (.bin .add (.var 2) (.cst (.int 1)))) none)
noncomputable def CC:List CS:=[.assign 3 (.attr (.idx (.var 0) (.var 2)) .instruction),.ite MV [.cont] [],.assign 4 (.idx (.var 1) (.callF 5 [(.var 3)])),.assign 5 (.callF 28 [(.var 0),(.var 4)]),.ite M5 [.cont] [],.ite MP [.cont] [],MQ,.ite (.cmp (.var 4) .gt (.var 2)) [.ret K7] [],.ret KV]
theorem KM (o:Nr cq):cv (run aj (n+99)) MV (kQ L r2 (some (.v (aS o))) r4 r5 r6) []=some (!oE o|| !(place L (bg o)).isSome,[]):=
 u7 (n:=n+98) (vm (n:=n+97) (gB (aB (n:=n+96) (us:=[aS o]) (Us:=[.v (aS o)]) rfl rfl (x6 o (n+71)) rfl))) fun _=>bJ (n:=n+97) (o:= .nin) (W:= .v (an L)) (mo (n:=n+77) rfl) rfl rfl rfl (NC (Pr (!·)) vp)
theorem Mq {o:Nr cq} (hp:place L (bg o)=some p):(run aj (n+100)).s (.assign 4 (.idx (.var 1) (.callF 5 [(.var 3)]))) (kQ L r2 (some (.v (aS o))) r4 r5 r6) []=some (.next,kQ L r2 (some (.v (aS o))) (some (.v (ai p))) r5 r6,[]):=
 aD (n:=n+99) rfl (fN (n:=n+98) (cM (U:= .v (an L)) (W:= .v (.str (bg o))) rfl (mo (n:=n+78) rfl) rfl rfl) (pT hp)) rfl
theorem MD {v:V} (h:oo 60 28 [lst L,ai p] v):(run aj (n+100)).s (.assign 5 (.callF 28 [(.var 0),(.var 4)])) (kQ L r2 r3 (some (.v (ai p))) r5 r6) []=some (.next,kQ L r2 r3 (some (.v (ai p))) (some (.v v)) r6,[]):=
 aD (n:=n+99) rfl (aB (n:=n+98) (us:=[lst L,ai p]) (Us:=[.v (lst L),.v (ai p)]) rfl rfl (h (n+38)) rfl) rfl
theorem LQ (S:cK L) (hp:p <L.length) (a:Nat) (r3:Nr aA) (r:Nr Nat):∃u:Bool,(∀n r6,cv (run aj (n+99)) M5 (kQ L (some (.v (ai a))) r3 (some (.v (ai p))) (some (.v (ID r))) r6) []=some (u,[]))∧(u=false→∃e,r=some e∧1≤p∧¬(p≤a∧a≤e)):=by
 have t1:∀n r6,cv (run aj (n+98)) (.cmp (.var 4) .eq (.cst (.int 0))) (kQ L (some (.v (ai a))) r3 (some (.v (ai p))) (some (.v (ID r))) r6) []=some (decide ((p:Int)=0),[]):=fun n r6=>bJ (n:=n+97) (o:= .eq) (U:= .v (ai p)) (W:= .v (.int 0)) rfl rfl rfl rfl (bh _ _)
 have t2:∀n r6,cv (run aj (n+98)) (.cmp (.var 5) .lt (.cst (.int 0))) (kQ L (some (.v (ai a))) r3 (some (.v (ai p))) (some (.v (ID r))) r6) []=some (r.isNone,[]):=fun n r6=>bJ (n:=n+97) (o:= .lt) (U:= .v (ID r)) (W:= .v (.int 0)) rfl rfl rfl rfl (by
  cases r with
  |none=>rfl
  |some g=>exact NC some (N0 (VN.mpr (Ot g))))
 cases p with
 |zero=>exact ⟨true,fun n r6=>x9 (n:=n+98) (j3 (v:=true) (t1 n r6) fun h=>(nomatch h)),fun h=>nomatch h⟩
 |succ p=>
  rw [show decide (((p+1:Nat):Int)=0)=false from N0 (Uc.mpr (S8 p))] at t1
  cases r with
  |none=>exact ⟨true,fun n r6=>x9 (n:=n+98) (j3 (t1 n r6) fun _=>j3 (v:=true) (t2 n r6) fun h=>(nomatch h)),fun h=>nomatch h⟩
  |some e=>
   refine Np fun nG=> ?_
   obtain ⟨ls,i,hr⟩:=S.row p hp
   refine nG ?_
   have t4:∀n r6,cv (run aj (n+98)) (.callF 9 [(.attr (.idx (.var 0) (.bin .sub (.var 4) (.cst (.int 1)))) .instruction)]) (kQ L (some (.v (ai a))) r3 (some (.v (ai (p+1)))) (some (.v (ai e))) r6) []=some (fU i,[]):=fun n r6=>by
    have e1:(run aj (n+97)).e (.attr (.idx (.var 0) (.bin .sub (.var 4) (.cst (.int 1)))) .instruction) (kQ L (some (.v (ai a))) r3 (some (.v (ai (p+1)))) (some (.v (ai e))) r6) []=some (.v (aP i),[]):=
     gH (n:=n+96) (fN (n:=n+95) (cM (U:= .v (lst L)) (W:= .v (ai p)) rfl (bW (n:=n+94) (o:= .sub) (l:= .var 4) (r:= .cst (.int 1)) (x:=ai (p+1)) (y:= .int 1) rfl (BD _ (OJ p))) rfl rfl) (iG hr)) rfl rfl
    exact gB (aB (n:=n+97) (us:=[aP i]) (Us:=[.v (aP i)]) (by rw [aZ,e1];rfl) rfl (tz i (n+67)) rfl)
   refine ⟨_,fun n r6=>x9 (n:=n+98) (j3 (t1 n r6) fun _=>j3 (t2 n r6) fun _=>j3 (gB (C3 (n:=n+97) (x:=p+1) (y:=a) (z:=e) rfl rfl rfl)) fun _=>F6 (t4 n r6)),fun h=>⟨e,rfl,OJ p,fun q=> ?_⟩⟩
   rw [NF q.1,NF q.2] at h
   cases h
end
section
variable {P0:List Itm} {L L' A:List ah} {l x y z:ah} {a b e s g n k p:Nat} {ρ:Loc} {σ:ag} {i:cq} {r2 r3 r4 r5 r6:Nr aA}
theorem xR {e1:CE} (h0:(run aj (n+1)).e (.var 0) ρ σ=some (.v (lst L),σ)) (h1:(run aj (n+1)).e e1 ρ σ=some (.v (ai a),σ)) (ha:a≤L.length):(run aj (n+2)).e (.slc (.var 0) none (some e1)) ρ σ=some (.v (lst (L.take a)),σ):=by
 rw [iY,d6,cC h0 rfl]
 show (NT (Pr _ (eO _ e1 ρ σ)) _)=_
 rw [cC h1 rfl]
 show (i9 (lst L) none (some (ai a))).map (fun v=>(aA.v v,σ))=_
 rw [tu ha];rfl
theorem rq {e1:CE} (h0:(run aj (n+1)).e (.var 0) ρ σ=some (.v (lst L),σ)) (h1:(run aj (n+1)).e e1 ρ σ=some (.v (ai a),σ)) (ha:a≤L.length):(run aj (n+2)).e (.slc (.var 0) (some e1) none) ρ σ=some (.v (lst (L.drop a)),σ):=by
 rw [iY,d6,cC h0 rfl]
 show (NT (Pr _ (eO _ e1 ρ σ)) _)=_
 rw [cC h1 rfl]
 show (i9 (lst L) (some (ai a)) none).map (fun v=>(aA.v v,σ))=_
 rw [mC ha];rfl
theorem tD {e1 e2:CE} (h0:(run aj (n+1)).e (.var 0) ρ σ=some (.v (lst L),σ)) (h1:(run aj (n+1)).e e1 ρ σ=some (.v (ai a),σ)) (h2:(run aj (n+1)).e e2 ρ σ=some (.v (ai b),σ)) (ha:a≤L.length) (hb:b≤L.length):(run aj (n+2)).e (.slc (.var 0) (some e1) (some e2)) ρ σ=some (.v (lst ((L.take b).drop a)),σ):=by
 rw [iY,d6,cC h0 rfl]
 show (NT (Pr _ (eO _ e1 ρ σ)) _)=_
 rw [cC h1 rfl]
 show (NT (Pr _ (eO _ e2 ρ σ)) _)=_
 rw [cC h2 rfl]
 show (i9 (lst L) (some (ai a)) (some (ai b))).map (fun v=>(aA.v v,σ))=_
 rw [Hz ha hb];rfl
theorem mU {e1 e2:CE} {A B:List ah} (h1:(run aj n).e e1 ρ σ=some (.v (lst A),σ)) (h2:(run aj n).e e2 ρ σ=some (.v (lst B),σ)) (hA:A.length≤1000) (hB:B.length≤1000):(run aj (n+1)).e (.bin .add e1 e2) ρ σ=some (.v (lst (A++B)),σ):=
 bW (o:= .add) (aK h1 rfl h2 rfl) (qF (Nt (Of hA hB) (by decide)))
theorem wP (S:bX L) (h:L[a]? =some x):x.labs.length≤100:=by
 have:=S.labs
 rw [gR h,jt,Nu] at this
 have e:aq (x::L.drop (a+1))=x.labs++aq (L.drop (a+1)):=rfl
 rw [e,Nu] at this
 exact Nt (Oj _ _) (Nt (Qd _ _) this)
theorem gQ (i j:Nat) (S:bX L):((L.take j).drop i).length≤20:=Nt (N8 Pa) (Nt (QC _ _) (Nt (RI _ _) S.len))
noncomputable def tL (L:List ah) (p e:Nat) (z:ah):List ah:=z::(L.take (e+1)).drop (p+1)
theorem Me (S:bX L) (hx:L[a]? =some x) (hy:L[p]? =some y) (he:e+1 <L.length) (pe:p≤e):(run aj (n+100)).s MQ (kQ L (some (.v (ai a))) r3 (some (.v (ai p))) (some (.v (ai e))) r6) []=
  some (.next,kQ L (some (.v (ai a))) r3 (some (.v (ai p))) (some (.v (ai e))) (some (.v (lst (tL L p e ⟨x.labs++y.labs,y.ins⟩)))),[]):=by
 have m:(run aj (n+97)).e (.mk .line [(.bin .add (.attr (.idx (.var 0) (.var 2)) .labels) (.attr (.idx (.var 0) (.var 4)) .labels)),(.attr (.idx (.var 0) (.var 4)) .instruction)]) (kQ L (some (.v (ai a))) r3 (some (.v (ai p))) (some (.v (ai e))) r6) []=some (.v (ay ⟨x.labs++y.labs,y.ins⟩),[]):=
  qV (n:=n+96) (aK (bW (n:=n+95) (o:= .add) (aK (gH (n:=n+94) (ur (n:=n+92) rfl rfl hx) rfl rfl) rfl (gH (n:=n+94) (ur (n:=n+92) rfl rfl hy) rfl rfl) rfl) (Gm (Nt (Of (wP S hx) (wP S hy)) (by decide)))) rfl (lG (n:=n+93) rfl rfl hy) rfl) rfl
 have b1:(run aj (n+98)).e (.lst [(.mk .line [(.bin .add (.attr (.idx (.var 0) (.var 2)) .labels) (.attr (.idx (.var 0) (.var 4)) .labels)),(.attr (.idx (.var 0) (.var 4)) .instruction)])]) (kQ L (some (.v (ai a))) r3 (some (.v (ai p))) (some (.v (ai e))) r6) []=some (.own (lst [⟨x.labs++y.labs,y.ins⟩]),[]):=by
  rw [iY,dS,et,aZ,m];rfl
 have b2:=tD (n:=n+96) (L:=L) (ρ:=kQ L (some (.v (ai a))) r3 (some (.v (ai p))) (some (.v (ai e))) r6) (σ:=[]) rfl (fV (n:=n+95) (i:=4) rfl 1) (fV (n:=n+95) (i:=5) rfl 1) (Nt (NX pe) (NY he)) (NY he)
 exact aD (n:=n+99) rfl (bW (n:=n+98) (o:= .add) (aK b1 rfl b2 rfl) (qF (A:=[⟨x.labs++y.labs,y.ins⟩]) (Nt (N2 (gQ _ _ S) 1) (by decide)))) rfl
theorem Jz (S:bX L) (ha:a+1 <L.length) (hp:p <L.length) (he:e+1 <L.length):(run aj (n+98)).e K7 (kQ L (some (.v (ai a))) r3 (some (.v (ai p))) (some (.v (ai e))) (some (.v (lst (tL L p e z))))) []=some (.v (lst (GI L a p e z)),[]):=by
 have hb:(tL L p e z).length≤21:=NX (gQ _ _ S)
 have h1:(L.take a).length≤20:=Nt (RI _ _) S.len
 refine mU (n:=n+97) (A:=L.take a++tL L p e z++(L.take p).drop (a+1)) (mU (n:=n+96) (A:=L.take a++tL L p e z) (mU (n:=n+95) (A:=L.take a) (xR (n:=n+93) rfl rfl (NY (O8 ha))) rfl (Nt h1 (by decide)) (Nt hb (by decide)))
  (tD (n:=n+94) rfl (fV (n:=n+93) (i:=2) rfl 1) rfl (NY ha) (NY hp)) ?_ (Nt (gQ _ _ S) (by decide))) (rq (n:=n+95) rfl (fV (n:=n+94) (i:=5) rfl 1) (NY he)) ?_ ?_
 ·rw [Nu];exact Nt (Of h1 hb) (by decide)
 ·rw [Nu,Nu];exact Nt (Of (Of h1 hb) (gQ _ _ S)) (by decide)
 ·exact Nt (N8 Pa) (Nt (QC _ _) S.len')
theorem KC (S:bX L) (ha:a+1 <L.length) (hp:p <L.length) (he:e+1 <L.length):(run aj (n+99)).e KV (kQ L (some (.v (ai a))) r3 (some (.v (ai p))) (some (.v (ai e))) (some (.v (lst (tL L p e z))))) []=some (.v (lst (Ga L a p e z)),[]):=by
 have hb:(tL L p e z).length≤21:=NX (gQ _ _ S)
 have h1:(L.take p).length≤20:=Nt (RI _ _) S.len
 refine mU (n:=n+98) (A:=L.take p++(L.take a).drop (e+1)++tL L p e z) (mU (n:=n+97) (A:=L.take p++(L.take a).drop (e+1)) (mU (n:=n+96) (A:=L.take p) (xR (n:=n+94) rfl rfl (NY hp)) (tD (n:=n+94) rfl (fV (n:=n+93) (i:=5) rfl 1) rfl (NY he) (NY (O8 ha))) (Nt h1 (by decide)) (Nt (gQ _ _ S) (by decide)))
  rfl ?_ (Nt hb (by decide))) (rq (n:=n+96) rfl (fV (n:=n+95) (i:=2) rfl 1) (NY ha)) ?_ ?_
 ·rw [Nu];exact Nt (Of h1 (gQ _ _ S)) (by decide)
 ·rw [Nu,Nu];exact Nt (Of (Of h1 (gQ _ _ S)) hb) (by decide)
 ·exact Nt (N8 Pa) (Nt (QC _ _) S.len')
noncomputable def Ld:Nr (List ah)→fc→Prop
 |none,o=>o.turns=true
 |some L',o=>o= .ret (.v (lst L'))
noncomputable def A2 (L:List ah) (a:Nat) (r:Nr (List ah)):Prop:=∀n r2 r3 r4 r5 r6,∃o r3' r4' r5' r6',bd (run aj (n+100)) (.one 2) CC (ai a) (kQ L r2 r3 r4 r5 r6) []=some (o,kQ L (some (.v (ai a))) r3' r4' r5' r6',[])∧Ld r o
noncomputable def pD (P0:List Itm) (L:List ah) (a:Nat):Prop:=∃r:Nr (List ah),(∀L',r=some L'→eH P0 L L')∧A2 L a r
theorem pD.on (h:A2 L a none):pD P0 L a:=⟨none,fun _ h=>(nomatch h),h⟩
theorem pD.to (p:eH P0 L L') (h:A2 L a (some L')):pD P0 L a:=⟨some L',fun _ h=>Nq h▸p,h⟩
theorem EE (I:Inv P0 L) (hn:nlab L≤100) (ha:a+1 <L.length):pD P0 L a:=by
 have S:=I.small hn
 have hx:=NB (O8 ha)
 generalize L[a]=x at hx
 have go1:∀{n r2 r3 r4 r5 r6 r},aH (run aj (n+100)) (CC.drop 1) (kQ L (some (.v (ai a))) (some (.v (aS x.ins))) r4 r5 r6) []=some r→bd (run aj (n+100)) (.one 2) CC (ai a) (kQ L r2 r3 r4 r5 r6) []=some r:=fun {n r2 r3 r4 r5 r6 r} h=>av (aD (n:=n+99) rfl (lG (n:=n+96) rfl rfl hx) rfl) h
 cases ht:(!oE x.ins|| !(place L (bg x.ins)).isSome) with
 |true=>exact .on fun n r2 r3 r4 r5 r6=>⟨.cont,_,_,_,_,go1 (eg (bc (n:=n+99) (KM x.ins) (by rw [ht];rfl)) rfl),rfl⟩
 |false=>
  obtain ⟨j,q⟩:=PL.mp ht
  have j:=rW j
  obtain ⟨p,hp⟩:=Oq.mp (rW q)
  have lp:=fi hp
  have hy:=NB lp
  generalize L[p]=y at hy
  obtain ⟨r,re,hr⟩:=wA S lp
  have go2:∀{n r2 r3 r4 r5 r6 w},aH (run aj (n+100)) (CC.drop 4) (kQ L (some (.v (ai a))) (some (.v (aS x.ins))) (some (.v (ai p))) (some (.v (ID r))) r6) []=some w→bd (run aj (n+100)) (.one 2) CC (ai a) (kQ L r2 r3 r4 r5 r6) []=some w:=fun {n r2 r3 r4 r5 r6 w} h=>
   go1 (av (bc (n:=n+99) (KM x.ins) (by rw [ht];rfl)) (av (Mq hp) (av (MD hr) h)))
  obtain ⟨u,hu,hu2⟩:=LQ I.sh lp a (some (.v (aS x.ins))) r
  cases u with
  |true=>exact .on fun n r2 r3 r4 r5 r6=>⟨.cont,_,_,_,_,go2 (eg (bc (n:=n+99) (hu n _) rfl) rfl),rfl⟩
  |false=>
   obtain ⟨e,he,_,no⟩:=hu2 rfl
   subst he
   obtain ⟨pe,el⟩:=re e rfl
   obtain ⟨v,gv,hv⟩:=Ab S a p e
   have go3:∀{n r2 r3 r4 r5 r6 w},aH (run aj (n+100)) (CC.drop 5) (kQ L (some (.v (ai a))) (some (.v (aS x.ins))) (some (.v (ai p))) (some (.v (ai e))) r6) []=some w→bd (run aj (n+100)) (.one 2) CC (ai a) (kQ L r2 r3 r4 r5 r6) []=some w:=fun {n r2 r3 r4 r5 r6 w} h=>
    go2 (av (bc (n:=n+99) (hu n _) rfl) h)
   have tw:∀n r6,cv (run aj (n+99)) MP (kQ L (some (.v (ai a))) (some (.v (aS x.ins))) (some (.v (ai p))) (some (.v (ai e))) r6) []=some (v,[]):=fun n r6=>
    gB (aB (n:=n+98) (us:=[lst L,an L,ai a,ai p,ai e]) (Us:=[.v (lst L),.v (an L),.v (ai a),.v (ai p),.v (ai e)]) rfl rfl (hv (n+18)) rfl)
   cases v with
   |true=>exact .on fun n r2 r3 r4 r5 r6=>⟨.cont,_,_,_,_,go3 (eg (bc (n:=n+99) (tw n _) rfl) rfl),rfl⟩
   |false=>
    have B:lB L a p e x y:=⟨hx,hy,pe,el,ha,j,fun s l m x g q k1 k2=>gv rfl s l q (by
     obtain ⟨ls,o⟩:=l
     cases o with
     |none=>cases k1
     |some i=>exact I.sh.next q) m x g k1 k2⟩
    have gt:∀n r6 bb,decide (a <p)=bb→cv (run aj (n+99)) (.cmp (.var 4) .gt (.var 2)) (kQ L (some (.v (ai a))) (some (.v (aS x.ins))) (some (.v (ai p))) (some (.v (ai e))) r6) []=some (bb,[]):=fun n r6 bb h=>
     bJ (n:=n+98) (o:= .gt) (U:= .v (ai p)) (W:= .v (ai a)) rfl rfl rfl rfl (by rw [←h];exact NC some (O4.mpr PC))
    have go4:∀{n r2 r3 r4 r5 r6 w},aH (run aj (n+100)) (CC.drop 7) (kQ L (some (.v (ai a))) (some (.v (aS x.ins))) (some (.v (ai p))) (some (.v (ai e))) (some (.v (lst (tL L p e ⟨x.labs++y.labs,y.ins⟩))))) []=some w→bd (run aj (n+100)) (.one 2) CC (ai a) (kQ L r2 r3 r4 r5 r6) []=some w:=fun {n r2 r3 r4 r5 r6 w} h=>
     go3 (r6:=r6) (av (bc (n:=n+99) (tw n _) rfl) (av (Me S hx hy el pe) h))
    by_cases z:a <p
    ·exact .to (B.passB I z) fun n r2 r3 r4 r5 r6=>⟨_,_,_,_,_,go4 (eg (bc (n:=n+99) (gt n _ true (NF z)) (dW (n:=n+98) (Jz S ha lp el))) rfl),rfl⟩
    ·have z2:e <a:=QF fun w=>no ⟨QG z,w⟩
     exact .to (B.passF I z2) fun n r2 r3 r4 r5 r6=>⟨_,_,_,_,_,go4 (av (bc (n:=n+99) (gt n _ false (N0 z)) rfl) (dW (n:=n+99) (KC S ha lp el))),rfl⟩
theorem DZ (I:Inv P0 L) (hn:nlab L≤100):∀k a,a+k+1=L.length→∃r:Nr (List ah),(∀L',r=some L'→eH P0 L L')∧∀n r2 r3 r4 r5 r6,∃o r2' r3' r4' r5' r6',fm (bd (run aj (n+100)) (.one 2) CC) ((P3 a k).map ai) (kQ L r2 r3 r4 r5 r6) []=some (o,kQ L r2' r3' r4' r5' r6',[])∧(match r with|none=>o= .next|some L'=>o= .ret (.v (lst L'))):=by
 intro k
 induction k with
 |zero=>exact fun a _=>⟨none,fun _ h=>(nomatch h),fun n r2 r3 r4 r5 r6=>⟨.next,_,_,_,_,_,rfl,rfl⟩⟩
 |succ k ih=>
  intro a hk
  refine Np fun nG=> ?_
  obtain ⟨r,p,q⟩:=EE I hn (a:=a) (by rw [←hk];exact PA (PR (OJ k)) 1)
  refine nG ?_
  cases r with
  |some L'=>
   refine ⟨some L',p,fun n r2 r3 r4 r5 r6=> ?_⟩
   refine Np fun nG=> ?_
   obtain ⟨o,s3,s4,s5,s6,e1,e2⟩:=q n r2 r3 r4 r5 r6
   have e2:o= .ret (.v (lst L')):=e2
   subst e2
   refine nG ?_
   refine ⟨.ret (.v (lst L')),some (.v (ai a)),s3,s4,s5,s6,?_,rfl⟩
   rw [QD,NJ,aQ,e1];rfl
  |none=>
   obtain ⟨r,p2,q2⟩:=ih (a+1) (by rw [←hk];exact NC (· +1) (Ph a k))
   refine ⟨r,p2,fun n r2 r3 r4 r5 r6=> ?_⟩
   refine Np fun nG=> ?_
   obtain ⟨o,s3,s4,s5,s6,e1,e2⟩:=q n r2 r3 r4 r5 r6
   obtain ⟨o2,t2,t3,t4,t5,t6,e3,e4⟩:=q2 n (some (.v (ai a))) s3 s4 s5 s6
   refine nG ?_
   have e2:o.turns=true:=e2
   refine ⟨o2,t2,t3,t4,t5,t6,?_,e4⟩
   rw [QD,NJ,aQ,e1]
   show (bif o.turns then _ else _)=_
   rw [e2];exact e3
theorem uH (I:Inv P0 L) (hn:nlab L≤100):∃L',oo 110 30 [lst L] (lst L')∧eH P0 L L':=by
 have S:=I.small hn
 refine Np fun nG=> ?_
 obtain ⟨k,hk⟩:∃k,L.length=k+1:=Oi (PH I.sh.pos)
 obtain ⟨r,p,q⟩:=DZ I hn k 0 (by rw [Ow,hk])
 refine nG ?_
 have s1:∀n,(run aj (n+109)).s (.assign 1 (.callF 10 [(.var 0)])) [some (.v (lst L)),none,none,none,none,none,none] []=some (.next,kQ L none none none none none,[]):=fun n=>
  aD (n:=n+108) rfl (aB (n:=n+107) (us:=[lst L]) (Us:=[.v (lst L)]) rfl rfl (jm S.nodup (Nt S.labs (by decide)) (n+67)) rfl) rfl
 refine ⟨r.getD L,fun n=> ?_,?_⟩
 ·obtain ⟨o,s2,s3,s4,s5,s6,e1,e2⟩:=q (n+8) none none none none none
  have f:=f8 (n:=n+108) (t:= .one 2) (body:=CC) (GU (n:=n+105) rfl hk S.len') e1
  refine bV (n:=n+109) (fn:=kg) (ρ:=kQ L s2 s3 s4 s5 s6) (σ2:=[]) (W:= .v (lst (r.getD L))) rfl rfl ?_ rfl
  cases r with
  |none=>have e2:o= .next:=e2;subst e2;exact av (s1 n) (av f (dW (n:=n+108) rfl))
  |some L'=>have e2:o= .ret (.v (lst L')):=e2;subst e2;exact av (s1 n) (eg f rfl)
 ·cases r with
  |none=>exact .refl I
  |some L'=>exact p L' rfl
end
section
variable {P0:List Itm} {L L' L2:List ah} {l x y z:ah} {n j:Nat}
theorem vq (us:List Sg):(L.map (mA us)).map (·.ins)=L.map (·.ins):=by rw [OP];rfl
theorem z9 (h:L'.map (·.ins)=L.map (·.ins)):named L'=named L:=by
 have e:∀L:List ah,named L=(L.map (·.ins)).dropLast.flatMap B0:=fun L=>by rw [←Ss,Vo];rfl
 rw [e,e,h]
theorem CN (h:L'.map (·.ins)=L.map (·.ins)):used L'=used L:=by
 have e:∀L:List ah,(L.map fun l=>bg l.ins)=(L.map (·.ins)).map bg:=fun L=>by rw [OP];rfl
 unfold used
 rw [z9 h,e,e,h]
theorem zR:used (kept L)=used L:=CN (vq _)
theorem nN:kept (kept L)=kept L:=by
 show (kept L).map (mA (used (kept L)))=kept L
 rw [zR]
 unfold kept
 rw [OP]
 refine PJ fun l _=> ?_
 show ah.mk ((l.labs.filter _).filter _) l.ins=ah.mk (l.labs.filter _) l.ins
 rw [List.filter_filter]
 simp only [Bool.and_self]
theorem sG:lq L (kept L):=by
 unfold lq kept
 rw [OP];rfl
theorem pR:(items (kept L)).Sublist (items L):=by
 unfold kept
 generalize used L=us
 induction L with
 |nil=>exact .slnil
 |cons l L ih=>
  rw [NJ,aR,aR]
  exact (((Ub (p:=fun x=>decide (x∈us))).map Itm.lab).append (Pw _)).append ih
theorem ue:wts (kept L)=wts L:=by
 unfold wts kept
 rw [OP];rfl
theorem CI (m:l∈L):bg l.ins∈used L:=NG.mpr (.inr (O1 m))
theorem wE {x:Sg} (us:List Sg) (h:x∈us):place (L.map (mA us)) x=place L x:=by
 induction L with
 |nil=>rfl
 |cons l L ih=>
  show (if x∈l.labs.filter (fun x=>decide (x∈us)) then some 0 else _)=if x∈l.labs then some 0 else _
  rw [ih]
  by_cases m:x∈l.labs
  ·rw [NP m,NP (QW.mpr ⟨m,NF h⟩)]
  ·rw [N4 m,N4 fun z=>m (QW.mp z).1]
theorem wa:iT L (kept L) where
 ins:=fun j=>by
  have:=NC (·[j]?) (vq (L:=L) (used L))
  simp only [OO] at this
  unfold kept
  rw [OO];exact this
 plc:=fun l m=>wE _ (CI m)
theorem iT.fixed (A:iT L L') (f:iv L j):iv L' j:=fun ls m t p q hl hp=>by
 have:=A.ins j
 rw [q] at this
 cases e:L[j]? with
 |none=>rw [e] at this;cases this
 |some l=>
  rw [e] at this
  obtain ⟨ls3,o⟩:=l
  have z:some (cq.jump m t)=o:=Nq this
  subst z
  rw [A.fol]
  exact f _ _ _ _ e hl ((A.plc _ (NN e)).symm.trans hp)
theorem Inv.kept (I:Inv P0 L):Inv P0 (kept L):=
 ⟨I.core.sub pR,sG.shape I.sh,fun l m=>by obtain ⟨l',m',rfl⟩:=Op.mp m;exact I.tg l' m',Nt (N8 sG.len) I.len⟩
theorem sr (I:Inv P0 L):nlab (kept L)≤40:=by
 have h:=Rx (I.kept.nodup) fun x m=>by
  obtain ⟨l,m1,m2⟩:=Po.mp m
  obtain ⟨l',_,rfl⟩:=Op.mp m1
  exact ND (QW.mp m2).2
 refine Nt h ?_
 unfold used
 rw [Nu,Nw]
 exact Of (Nt (jn L) I.len) I.len
theorem Inv.sz (I:Inv P0 L) (hn:nlab L≤100):Sz L:=
 ⟨Nt I.len (by decide),fun l m=>by
  obtain ⟨i,hi,e⟩:=Pd m
  exact Nt (wP (I.small hn) (a:=i) (by rw [NB hi,e])) (by decide),Nt (jn L) (Nt I.len (by decide))⟩
theorem mK (I:Inv P0 L) (hn:nlab L≤100):mH 60 20 [lst L,.tup []] (lst (kept L)):=IW (I.small hn).rows (I.sz hn)
structure yO (P0:List Itm) (L L':List ah):Prop where
 inv:Inv P0 L'
 nlab:nlab L'≤nlab L
 or:wts L' <wts L∨(wts L'=wts L∧Internal.kept L'=Internal.kept L)
theorem eH.weak (p:eH P0 L L'):yO P0 L L':=⟨p.inv,p.nlab,p.or.elim (fun e=> .inr (by rw [e];exact ⟨rfl,rfl⟩)) .inl⟩
theorem yO.trans (p:yO P0 L L') (q:yO P0 L' L2):yO P0 L L2:=⟨q.inv,Nt q.nlab p.nlab,by
 rcases p.or with a|⟨a,b⟩
 ·rcases q.or with c|⟨c,d⟩
  ·exact .inl (PE c a)
  ·exact .inl (c▸a)
 ·rcases q.or with c|⟨c,d⟩
  ·exact .inl (a▸c)
  ·exact .inr ⟨c.trans a,d.trans b⟩⟩
theorem Inv.weak (I:Inv P0 L):yO P0 L (Internal.kept L):=⟨I.kept,gJ pR,.inr ⟨ue,nN⟩⟩
structure AK (P0:List Itm) (L L':List ah):Prop where
 inv:Inv P0 L'
 kept:kept L'=L'
 or:wts L' <wts L∨(wts L'=wts L∧(∀j,iv L' j)∧((∀j,iv L j)→L'=L))
theorem xU (I:Inv P0 L) (K:kept L=L):∃L',mH 180 31 [lst L,.tup []] (lst L')∧AK P0 L L':=by
 have hL:nlab L≤40:=K▸sr I
 refine Np fun nG=> ?_
 obtain ⟨L1,r1,R,F⟩:=sJ I (Nt (Of hL I.len) (by decide))
 have n1:nlab L1≤100:=Nt R.nlab (Nt (Of hL I.len) (by decide))
 have w2:=(nZ R.inv).weak
 have n2:=Nt w2.nlab n1
 have w3:=w2.inv.weak
 have n3:=Nt w3.nlab n2
 obtain ⟨L4,r4,p4⟩:=zd w3.inv n3
 have w4:=p4.weak
 have n4:=Nt w4.nlab n3
 have w5:=w4.inv.weak
 have n5:=Nt w5.nlab n4
 obtain ⟨L6,r6,p6⟩:=Be w5.inv n5
 have w6:=p6.weak
 have n6:=Nt w6.nlab n5
 obtain ⟨L7,r7,p7⟩:=He w6.inv n6
 have w7:=p7.weak
 have n7:=Nt w7.nlab n6
 have w8:=(zz w7.inv).weak
 have n8:=Nt w8.nlab n7
 have w9:=(nZ w8.inv).weak
 have n9:=Nt w9.nlab n8
 obtain ⟨L10,r10,p10⟩:=uH w9.inv n9
 refine nG ?_
 have Jh:=p10.weak
 have n10:=Nt Jh.nlab n9
 have W:=w2.trans (w3.trans (w4.trans (w5.trans (w6.trans (w7.trans (w8.trans (w9.trans Jh)))))))
 refine ⟨Internal.kept L10,fun n=> ?_,Jh.inv.kept,nN,?_⟩
 ·have st:∀{e:CE} {A B:V} {U:aA},(run aj (n+178)).e e [some (.v A),some (.v (.tup []))] []=some (U,[])→U.toV=some B→e.comp?=none→(run aj (n+179)).s (.assign 0 e) [some (.v A),some (.v (.tup []))] []=some (.next,[some (.v B),some (.v (.tup []))],[]):=fun h k hc=>aD (n:=n+178) hc h k
  have e1:(run aj (n+178)).e (.callF 22 [(.callF 18 [(.var 0),(.var 1)]),(.var 1)]) [some (.v (lst L)),some (.v (.tup []))] []=some (.own (lst (gI L1)),[]):=
   aB (n:=n+177) (us:=[lst L1,.tup []]) (Us:=[.v (lst L1),.v (.tup [])]) (by rw [aZ,aB (n:=n+176) (us:=[lst L,.tup []]) (Us:=[.v (lst L),.v (.tup [])]) rfl rfl (r1 (n+16)) rfl];rfl) rfl (uI (R.inv.small n1) (n+97)) rfl
  have e2:(run aj (n+178)).e (.callF 26 [(.callF 20 [(.var 0),(.var 1)])]) [some (.v (lst (gI L1))),some (.v (.tup []))] []=some (.v (lst L4),[]):=
   aB (n:=n+177) (us:=[lst (Internal.kept (gI L1))]) (Us:=[.own (lst (Internal.kept (gI L1)))]) (by rw [aZ,aB (n:=n+176) (us:=[lst (gI L1),.tup []]) (Us:=[.v (lst (gI L1)),.v (.tup [])]) rfl rfl (mK w2.inv n2 (n+116)) rfl];rfl) rfl (r4 (n+87)) rfl
  have e3:(run aj (n+178)).e (.callF 25 [(.callF 20 [(.var 0),(.var 1)])]) [some (.v (lst L4)),some (.v (.tup []))] []=some (.v (lst L6),[]):=
   aB (n:=n+177) (us:=[lst (Internal.kept L4)]) (Us:=[.own (lst (Internal.kept L4))]) (by rw [aZ,aB (n:=n+176) (us:=[lst L4,.tup []]) (Us:=[.v (lst L4),.v (.tup [])]) rfl rfl (mK w4.inv n4 (n+116)) rfl];rfl) rfl (r6 (n+87)) rfl
  have e4:(run aj (n+178)).e (.callF 27 [(.callF 24 [(.var 0)])]) [some (.v (lst L6)),some (.v (.tup []))] []=some (.own (lst (L7.map (we L7))),[]):=
   aB (n:=n+177) (us:=[lst L7]) (Us:=[.v (lst L7)]) (by rw [aZ,aB (n:=n+176) (us:=[lst L6]) (Us:=[.v (lst L6)]) rfl rfl (r7 (n+106)) rfl];rfl) rfl (HN (w7.inv.small n7) (n+107)) rfl
  have e5:(run aj (n+176)).e (.callF 22 [(.var 0),(.var 1)]) [some (.v (lst (L7.map (we L7)))),some (.v (.tup []))] []=some (.own (lst (gI (L7.map (we L7)))),[]):=
   aB (n:=n+175) (us:=[lst (L7.map (we L7)),.tup []]) (Us:=[.v (lst (L7.map (we L7))),.v (.tup [])]) rfl rfl (uI (w8.inv.small n8) (n+95)) rfl
  have e6:(run aj (n+177)).e (.callF 30 [(.callF 22 [(.var 0),(.var 1)])]) [some (.v (lst (L7.map (we L7)))),some (.v (.tup []))] []=some (.v (lst L10),[]):=
   aB (n:=n+176) (us:=[lst (gI (L7.map (we L7)))]) (Us:=[.own (lst (gI (L7.map (we L7))))]) (by rw [aZ,e5];rfl) rfl (r10 (n+66)) rfl
  have e7:(run aj (n+178)).e (.callF 20 [(.callF 30 [(.callF 22 [(.var 0),(.var 1)])]),(.var 1)]) [some (.v (lst (L7.map (we L7)))),some (.v (.tup []))] []=some (.own (lst (Internal.kept L10)),[]):=
   aB (n:=n+177) (us:=[lst L10,.tup []]) (Us:=[.v (lst L10),.v (.tup [])]) (by rw [aZ,e6];rfl) rfl (mK Jh.inv n10 (n+117)) rfl
  exact bV (n:=n+179) (fn:=mL) (W:= .own _) rfl rfl (av (st e1 rfl rfl) (av (st e2 rfl rfl) (av (st e3 rfl rfl) (av (st e4 rfl rfl) (dW (n:=n+178) e7))))) rfl
 ·rw [ue]
  rcases W.or with h|⟨h1,h2⟩
  ·exact .inl (R.wts▸h)
  ·refine .inr ⟨h1.trans R.wts,fun j=>h2▸wa.fixed (F j),fun f=> ?_⟩
   rw [h2,R.id f,K]
end
section
variable {P0:List Itm} {L L' L2:List ah} {l x y z:ah} {n j:Nat} {i:cq}
noncomputable def D0 (s:Sg):Nr Nm:=[Nm.jmp,.call,.jrcxz,.loop,.loope,.loopne,.je,.jne,.jae,.jb].find? fun m=>decide (m.s=s)
theorem wd (m:Nm):D0 m.s=some m:=by cases m<;>rfl
theorem Ie {m k:Nm} (h:m.s=k.s):m=k:=Nq ((wd m).symm.trans ((NC D0 h).trans (wd k)))
noncomputable def V.nth (v:V) (k:Nat):V:=match v with
 | .tup us=>(us[k]?).getD .none
 |_=> .none
noncomputable def V.sg (v:V):Sg:=match v with
 | .str s=>s
 |_=>[]
noncomputable def V.it (v:V):Int:=match v with
 | .int i=>i
 |_=>0
noncomputable def tV (v:V):Nr cq:=match D0 (v.nth 0).sg with
 |some m=>some (.jump m (((v.nth 2).nth 0).nth 2).sg)
 |none=>if v= .tup [] then none else if v.nth 2= .tup [] then some .ret else some (.mov (decide (((v.nth 2).nth 0).nth 1= .str [114,97,120])) (((v.nth 2).nth 1).nth 1).it (((v.nth 2).nth 1).nth 2).sg)
theorem oj (o:Nr cq):tV (jY o)=o:=by
 cases o with
 |none=>rfl
 |some i=>cases i with
  |jump m t=>
   have:tV (oz (.jump m t))=(match D0 m.s with
    |some m=>some (.jump m t)
    |none=>if oz (.jump m t)= .tup [] then none else if (oz (.jump m t)).nth 2= .tup [] then some .ret else some (.mov (decide ((((oz (.jump m t)).nth 2).nth 0).nth 1= .str [114,97,120])) ((((oz (.jump m t)).nth 2).nth 1).nth 1).it ((((oz (.jump m t)).nth 2).nth 1).nth 2).sg)):=rfl
   show tV (oz (.jump m t))=_
   rw [this,wd]
  |ret=>rfl
  |mov w i y=>cases w<;>kernel_rfl
theorem Dd (h:bT x=bT y):x=y:=by
 obtain ⟨a,o⟩:=x
 obtain ⟨b,p⟩:=y
 have h:=OX (V.tup.inj h)
 have h1:a.map V.str=b.map V.str:=V.tup.inj h.1
 have h2:jY o=jY p:=(OX h.2).1
 have e1:a=b:=by
  have:=NC (S7 V.sg) h1
  rw [OP,OP] at this
  have q:∀l:List Sg,l.map (V.sg∘V.str)=l:=fun l=>Vx l
  rw [q,q] at this;exact this
 have e2:o=p:=(oj o).symm.trans ((NC tV h2).trans (oj p))
 rw [e1,e2]
noncomputable def told (L:List ah):V:= .lst (L.map bT)
theorem BW:∀{L L':List ah},L.map bT=L'.map bT→L=L':=by
 intro L
 induction L with
 |nil=>intro L' h;cases L' with
  |nil=>rfl
  |cons=>cases h
 |cons l L ih=>intro L' h;cases L' with
  |nil=>cases h
  |cons l' L'=>have h:=OX h;rw [Dd h.1,ih h.2]
theorem zi (h:told L=told L'):L=L':=BW (V.lst.inj h)
theorem uY (l:ah):(bT l).dat=true∧(bT l).dep≤9:=by
 obtain ⟨ls,o⟩:=l
 have h1:(jY o).dat=true∧(jY o).dep≤8:=by
  cases o with
  |none=>exact ⟨rfl,OH rfl⟩
  |some i=>cases i with
   |jump m t=>exact ⟨rfl,OH rfl⟩
   |ret=>exact ⟨rfl,OH rfl⟩
   |mov w i y=>exact ⟨rfl,OH rfl⟩
 constructor
 ·show (V.dats (ls.map .str)&&((jY o).dat&&true))=true
  rw [pV,h1.1];rfl
 ·show max (V.deps (ls.map .str)+1) (max (jY o).dep 0)+1≤9
  rw [qB]
  exact NX (Uw.mpr ⟨OH rfl,Uw.mpr ⟨h1.2,Oe _⟩⟩)
theorem kI:∀L:List ah,(told L).dat=true∧V.deps (L.map bT)≤9
 |[]=>⟨rfl,Oe _⟩
 |l::L=>⟨by show ((bT l).dat&&V.dats (L.map bT))=true;rw [(uY l).1];exact (kI L).1,Uw.mpr ⟨(uY l).2,(kI L).2⟩⟩
theorem ug (L L':List ah):EA (told L) (told L')=some (decide (told L=told L')):=by
 have:mF (told L) (told L')=true:=by
  have h1:=kI L
  have h2:=kI L'
  show ((false&&false)||((told L).dat&&(told L').dat&&(decide (V.deps (L.map bT)+1≤60)&&decide (V.deps (L'.map bT)+1≤60))))=true
  rw [h1.1,h2.1,NF (Nt (NX h1.2) (by decide)),NF (Nt (NX h2.2) (by decide))];rfl
 unfold EA
 rw [NP this]
noncomputable def jS (L:List ah) (r1 r2 r3:Nr aA):Loc:=[some (.v (lst L)),r1,r2,r3]
noncomputable def EG:List CS:=[.ite (.cmp (.attr (.var 1) .instruction) .is_ (.cst .none)) [.raise_] [],
  .for_ (.one 2) (.seq (.attr (.attr (.var 1) .instruction) .operands))
   [.ite (.and [(.cmp (.attr (.var 2) .kind) .eq (.cst (.str [114,101,108]))),(.or [(.cmp (.attr (.var 2) .name) .eq (.cst (.str []))),(.cmp (.attr (.var 2) .worth) .ne (.cst (.int 0)))])]) [.raise_] [],
   .ite (.and [(.cmp (.attr (.var 2) .kind) .eq (.cst (.str [109,101,109]))),.stuck,(.cmp (.attr (.var 2) .name) .eq (.cst (.str [])))]) [.raise_] []]]
noncomputable def FD:List CS:=[.ite (.and [(.cmp (.callM (.var 2) .symbol) .in_ (.var 3)),(.cmp (.attr (.var 2) .worth) .ne (.cst (.int 0)))]) [.raise_] []]
noncomputable def qY:List CS:=[.for_ (.one 2) (.seq (.attr (.attr (.var 1) .instruction) .operands)) FD]
variable {r1 r2 r3:Nr aA}
theorem ED {ls:List Sg} (ht:∀m t,i= .jump m t→t≠[]):∃r2',bd (run aj (n+60)) (.one 1) EG (ay ⟨ls,some i⟩) (jS L r1 r2 r3) []=some (.next,jS L (some (.v (ay ⟨ls,some i⟩))) r2' r3,[]):=by
 cases i with
 |jump m t=>cases t with
  |nil=>exact (ht m [] rfl rfl).elim
  |cons s t=>exact ⟨some (.v (.inst .rel [.str [114,101,108],.int 0,.str (s::t)])),by kernel_rfl⟩
 |ret=>exact ⟨r2,by kernel_rfl⟩
 |mov w i y=>exact ⟨some (.v (.inst .imm [.str [105,109,109],.int i,.str y])),by kernel_rfl⟩
theorem AE:∀(xs:List ah) r1 r2 r3,(∀l∈xs,∃i,l.ins=some i∧∀m t,i= .jump m t→t≠[])→∃r1' r2',fm (bd (run aj (n+60)) (.one 1) EG) (xs.map ay) (jS L r1 r2 r3) []=some (.next,jS L r1' r2' r3,[]):=by
 intro xs
 induction xs with
 |nil=>exact fun r1 r2 r3 _=>⟨r1,r2,rfl⟩
 |cons l xs ih=>
  intro r1 r2 r3 h
  obtain ⟨i,h1,h2⟩:=h l (.head _)
  obtain ⟨ls,o⟩:=l
  cases h1
  obtain ⟨s,e⟩:=ED (n:=n) (L:=L) (ls:=ls) (r1:=r1) (r2:=r2) (r3:=r3) h2
  obtain ⟨a,b,e2⟩:=ih (some (.v (ay ⟨ls,some i⟩))) s r3 fun l m=>h l (.tail _ m)
  exact ⟨a,b,by rw [NJ,aQ,e];exact e2⟩
theorem ve {o:V} {x:Sg} {b:Bool} (hs:(run aj (n+57)).e (.callM (.var 2) .symbol) (jS L r1 (some (.v o)) (some (.v (an L)))) []=some (.v (.str x),[]))
  (hb:(place L x).isSome=true→∃w:Int,kW o .worth=some (.int w)∧(!decide (w=0))=b) (hn:(place L x).isSome=false→b=false):bd (run aj (n+60)) (.one 2) FD o (jS L r1 r2 (some (.v (an L)))) []=some (bif b then .exc else .next,jS L r1 (some (.v o)) (some (.v (an L))),[]):=by
 have q:(run aj (n+60)).s (.ite (.and [(.cmp (.callM (.var 2) .symbol) .in_ (.var 3)),(.cmp (.attr (.var 2) .worth) .ne (.cst (.int 0)))]) [.raise_] []) (jS L r1 (some (.v o)) (some (.v (an L)))) []=some (bif b then .exc else .next,jS L r1 (some (.v o)) (some (.v (an L))),[]):=by
  refine bc (n:=n+59) (b:=b) ?_ (by cases b<;>rfl)
  have e1:=bJ (n:=n+57) (o:= .in_) (b:= .var 3) (W:= .v (an L)) hs rfl rfl rfl vp
  cases hp:(place L x).isSome with
  |false=>rw [hn hp];rw [hp] at e1;exact ru (n:=n+58) (y:=false) e1 fun h=>nomatch h
  |true=>
   obtain ⟨w,h1,h2⟩:=hb hp
   rw [hp] at e1
   exact ru (n:=n+58) (y:=b) e1 fun _=>bJ (n:=n+57) (o:= .ne) (u:= .int w) (w:= .int 0) (W:= .v (.int 0)) (gH (n:=n+56) (U:= .v o) rfl rfl h1) rfl rfl rfl (by rw [bN,bh,←h2];rfl)
 show aH _ [_] (jS L r1 (some (.v o)) (some (.v (an L)))) []=_
 rw [iV];exact q
noncomputable def xb (L:List ah):Prop:=∀l∈L,∀w i y,l.ins=some (.mov w i y)→y∈aq L→i=0
theorem DX {ls:List Sg} (h0:[]∉aq L) (hf:∀w j y,i= .mov w j y→y∈aq L→j=0):∃r2',bd (run aj (n+70)) (.one 1) qY (ay ⟨ls,some i⟩) (jS L r1 r2 (some (.v (an L)))) []=some (.next,jS L (some (.v (ay ⟨ls,some i⟩))) r2' (some (.v (an L))),[]):=by
 have fin:∀{us:List V} {r2'},kW (aP i) .operands=some (.tup us)→fm (bd (run aj (n+69)) (.one 2) FD) us (jS L (some (.v (ay ⟨ls,some i⟩))) r2 (some (.v (an L)))) []=some (.next,jS L (some (.v (ay ⟨ls,some i⟩))) r2' (some (.v (an L))),[])→bd (run aj (n+70)) (.one 1) qY (ay ⟨ls,some i⟩) (jS L r1 r2 (some (.v (an L)))) []=some (.next,jS L (some (.v (ay ⟨ls,some i⟩))) r2' (some (.v (an L))),[]):=fun {us r2'} ha h=>by
  have hi:dN (run aj (n+69)) (.seq (.attr (.attr (.var 1) .instruction) .operands)) (jS L (some (.v (ay ⟨ls,some i⟩))) r2 (some (.v (an L)))) []=some (us,[]):=by
   rw [uD,cC (gH (n:=n+68) (U:= .v (aP i)) rfl rfl ha) rfl];rfl
  exact bk (f8 (n:=n+69) (t:= .one 2) (body:=FD) hi h)
 cases i with
 |ret=>exact ⟨r2,fin (us:=[]) rfl rfl⟩
 |jump m t=>
  have e:=ve (n:=n+9) (L:=L) (r1:=some (.v (ay ⟨ls,some (.jump m t)⟩))) (r2:=r2) (o:= .inst .rel [.str [114,101,108],.int 0,.str t]) (x:=t) (b:=false) rfl (fun _=>⟨0,rfl,rfl⟩) fun _=>rfl
  refine ⟨some (.v (.inst .rel [.str [114,101,108],.int 0,.str t])),fin (us:=[.inst .rel [.str [114,101,108],.int 0,.str t]]) rfl ?_⟩
  rw [aQ,e];rfl
 |mov w j y=>
  have e1:=ve (n:=n+9) (L:=L) (r1:=some (.v (ay ⟨ls,some (.mov w j y)⟩))) (r2:=r2) (o:= .inst .reg [.str [114,101,103],v4 w]) (x:=[]) (b:=false) rfl (fun h=>by rw [lQ h0] at h;cases h) fun _=>rfl
  have e2:=ve (n:=n+9) (L:=L) (r1:=some (.v (ay ⟨ls,some (.mov w j y)⟩))) (r2:=some (.v (.inst .reg [.str [114,101,103],v4 w]))) (o:= .inst .imm [.str [105,109,109],.int j,.str y]) (x:=y) (b:=false) rfl (fun h=>⟨j,rfl,by
   rw [←ik] at h
   rw [hf w j y rfl (ND h)];rfl⟩) fun _=>rfl
  refine ⟨some (.v (.inst .imm [.str [105,109,109],.int j,.str y])),fin (us:=[.inst .reg [.str [114,101,103],v4 w],.inst .imm [.str [105,109,109],.int j,.str y]]) rfl ?_⟩
  rw [aQ,e1]
  show fm (bd (run aj (n+69)) (.one 2) FD) [.inst .imm [.str [105,109,109],.int j,.str y]] _ _=_
  rw [aQ,e2];rfl
theorem Bl (h0:[]∉aq L):∀(xs:List ah) r1 r2,(∀l∈xs,∃i,l.ins=some i∧∀w j y,i= .mov w j y→y∈aq L→j=0)→∃r1' r2',fm (bd (run aj (n+70)) (.one 1) qY) (xs.map ay) (jS L r1 r2 (some (.v (an L)))) []=some (.next,jS L r1' r2' (some (.v (an L))),[]):=by
 intro xs
 induction xs with
 |nil=>exact fun r1 r2 _=>⟨r1,r2,rfl⟩
 |cons l xs ih=>
  intro r1 r2 h
  obtain ⟨i,h1,h2⟩:=h l (.head _)
  obtain ⟨ls,o⟩:=l
  cases h1
  obtain ⟨s,e⟩:=DX (n:=n) (ls:=ls) (r1:=r1) (r2:=r2) h0 h2
  obtain ⟨a,b,e2⟩:=ih (some (.v (ay ⟨ls,some i⟩))) s fun l m=>h l (.tail _ m)
  exact ⟨a,b,by rw [NJ,aQ,e];exact e2⟩
noncomputable def MU:CE:= .or [(.cmp (.callB .len [(.var 0)]) .eq (.cst (.int 0))),(.cmp (.attr (.idx (.var 0) (.neg 1)) .instruction) .isnt (.cst .none))]
theorem By {A:List ah}:i3 (lst (A++[l])) (.int (-1))=some (ay l):=by
 have h1:((A++[l]).map ay).length=A.length+1:=by rw [Nw,Nu];rfl
 have hp:lr ((A++[l]).map ay).length (-1)=some A.length:=by
  unfold lr
  rw [h1,N4 (by decide),NP (by rw [Qo];omega)]
  congr 1;omega
 show (lr ((A++[l]).map ay).length (-1)).bind _=_
 rw [hp]
 show ((A++[l]).map ay)[A.length]? =_
 rw [OO,OG (NI _),PZ];rfl
theorem FX (S:cK L):(run aj (n+60)).s (.ite MU [.raise_] []) (jS L r1 r2 r3) []=some (.next,jS L r1 r2 r3,[]):=by
 refine Np fun nG=> ?_
 obtain ⟨A,l,rfl,hl,_⟩:=S.ex
 refine nG ?_
 have hz:decide (((A++[l]).length:Int)=0)=false:=N0 (Uc.mpr (by rw [Nu];exact S8 _))
 refine bc (n:=n+59) (b:=false) (u7 (n:=n+58) (x:=false) (y:=false) (bJ (n:=n+57) (o:= .eq) (u:=ai (A++[l]).length) (W:= .v (.int 0)) (u9 (n:=n+55) (L:=A++[l]) rfl) rfl rfl rfl (by rw [←hz];exact bh _ _)) fun _=> ?_) rfl
 exact bJ (n:=n+57) (o:= .isnt) (u:= .none) (W:= .v .none) (gH (n:=n+56) (fN (n:=n+55) (cM (U:= .v (lst (A++[l]))) (W:= .v (.int (-1))) rfl rfl rfl rfl) By) rfl (by rw [bq,hl];rfl)) rfl rfl rfl rfl
theorem sT {k:Nat}:dN (run aj (n+3)) (.seq (.slc (.var 0) none (some (.neg 1)))) (jS L r1 r2 r3) []=some (L.dropLast.map ay,[]):=x7 (n:=n) (i:=0) rfl
theorem Df {cs:List CS} (S:bX L) (T:Tg L):∃r1' r2',∀r,aH (run aj (n+90)) cs (jS L r1' r2' (some (.v (an L)))) []=some r→aH (run aj (n+90)) (.ite MU [.raise_] []:: .for_ (.one 1) (.seq (.slc (.var 0) none (some (.neg 1)))) EG:: .assign 3 (.callF 10 [(.var 0)])::cs) (jS L none none none) []=some r:=by
 refine Np fun nG=> ?_
 obtain ⟨a,b,e⟩:=AE (n:=n+29) (L:=L) L.dropLast none none none fun l m=>let ⟨i,hi⟩:=S.rows l m;⟨i,hi,fun k t e=>T l ((Tz L).mem m) k t (e▸hi)⟩
 refine nG ?_
 exact ⟨a,b,fun r h=>av (FX (n:=n+30) S.sh) (av (f8 (n:=n+89) (t:= .one 1) (body:=EG) (sT (n:=n+86) (k:=0)) e) (av (aD (n:=n+89) rfl (aB (n:=n+88) (us:=[lst L]) (Us:=[.v (lst L)]) rfl rfl (jm S.nodup (Nt S.labs (by decide)) (n+48)) rfl) rfl) h))⟩
theorem yC (S:bX L) (T:Tg L) (h0:[]∉aq L) (F:xb L) (n:Nat):(run aj (n+100)).c 11 [.v (lst L)] []=some (.ok (.v .none),[]):=by
 refine Np fun nG=> ?_
 obtain ⟨a,b,h⟩:=Df (n:=n+9) (cs:=[.for_ (.one 1) (.seq (.slc (.var 0) none (some (.neg 1)))) qY]) S T
 obtain ⟨c,d,e⟩:=Bl (n:=n+28) h0 L.dropLast a b fun l m=>let ⟨i,hi⟩:=S.rows l m;⟨i,hi,fun w j y e=>F l ((Tz L).mem m) w j y (e▸hi)⟩
 refine nG ?_
 have:=h _ (bk (f8 (n:=n+98) (t:= .one 1) (body:=qY) (sT (n:=n+95) (k:=0)) e))
 show ((aH (run aj (n+99)) aU.body (jS L none none none) []).bind _)=_
 rw [show aH (run aj (n+99)) aU.body (jS L none none none) []=_ from this];rfl
end
section
variable {P0:List Itm} {L L' L2:List ah} {l x y z:ah} {n j:Nat} {i:cq}
noncomputable def HP (L:List ah):Prop:=∀j,iv L j
open Classical in
noncomputable def phi (L:List ah):Nat:=2*wts L+if HP L then 0 else 1
theorem yq (L:List ah):phi L≤2*wts L+1:=by
 unfold phi
 split
 ·exact NZ _
 ·exact NI _
theorem AK.phi (R:AK P0 L L') (h:L'≠L):phi L' <phi L:=by
 have top:=yq L'
 rcases R.or with e|⟨e,f,g⟩
 ·refine NL top (On (m:=2*wts L) ?_ (Oj _ _))
  exact On (OM _) (QK 2 e)
 ·have nf:¬HP L:=fun z=>h (g z)
  unfold Internal.phi
  rw [NP (show HP L' from f),N4 nf,e]
  exact OM _
theorem LH (o:Nr cq):wt o≤3:=by
 cases o with
 |none=>exact OH rfl
 |some i=>cases i with
  |jump m t=>cases m<;>exact OH rfl
  |ret=>exact OH rfl
  |mov=>exact OH rfl
theorem GR:∀L:List ah,wts L≤3*L.length
 |[]=>NI _
 |l::L=>by
  rw [bu,O5,Nat.mul_succ,O2]
  exact Of (GR L) (LH _)
theorem Ia (I:Inv P0 L):phi L≤121:=by
 have h:=Nt (GR L) (QK 3 I.len)
 exact Nt (yq L) (NX (QK 2 h))
noncomputable def DF (L0 L B:List ah):Loc:=[some (.v (lst L0)),some (.v (.tup [])),some (.v (lst L)),some (.v (told B))]
noncomputable def Ag:CE:= .cmp (.callF 33 [(.var 2)]) .ne (.var 3)
noncomputable def Fw:List CS:=[.assign 3 (.callF 33 [(.var 2)]),.assign 2 (.callF 31 [(.var 2),(.var 1)])]
theorem BC {L0 B:List ah} (I:Inv P0 L):(run aj (n+50)).e (.callF 33 [(.var 2)]) (DF L0 L B) []=some (.own (told L),[]):=
 aB (n:=n+49) (us:=[lst L]) (Us:=[.v (lst L)]) rfl rfl (wY (Nt I.len (by decide)) (n+9)) rfl
theorem jA {L0 B:List ah} (I:Inv P0 L) (b:Bool) (h:decide (told L=told B)=b):cv (run aj (n+51)) Ag (DF L0 L B) []=some (!b,[]):=
 bJ (n:=n+50) (o:= .ne) (W:= .v (told B)) (BC I) rfl rfl rfl (by rw [bN,ug,h];rfl)
theorem o7 {L0 B:List ah} (I:Inv P0 L) (h:mH 180 31 [lst L,.tup []] (lst L')):aH (run aj (n+190)) Fw (DF L0 L B) []=some (.next,DF L0 L' L,[]):=
 av (aD (n:=n+189) rfl (BC (n:=n+139) I) rfl) (bk (aD (n:=n+189) rfl (aB (n:=n+188) (us:=[lst L,.tup []]) (Us:=[.v (lst L),.v (.tup [])]) rfl rfl (h (n+8)) rfl) rfl))
structure Ig (P0:List Itm) (L:List ah):Prop where
 inv:Inv P0 L
 kept:kept L=L
 run:mH 180 31 [lst L,.tup []] (lst L)
theorem o4 (h:L≠L'):decide (told L=told L')=false:=N0 fun e=>h (zi e)
theorem FW:∀d (L B:List ah),phi L≤d→Inv P0 L→kept L=L→L≠B→∃Lf,Ig P0 Lf∧∀n M L0,d+1 <M→fW (cv (run aj (n+190)) Ag) (aH (run aj (n+190)) Fw) M (DF L0 L B) []=some (.next,DF L0 Lf Lf,[]):=by
 intro d
 induction d with
 |zero=>
  intro L B hd I K hB
  obtain ⟨L',r,R⟩:=xU I K
  have e:L'=L:=Np fun z=>absurd (R.phi z) (PD.mpr (Nt hd (Oe _)))
  subst e
  refine ⟨L',⟨I,K,r⟩,fun n M L0 hM=> ?_⟩
  obtain ⟨M,rfl⟩:∃j,M=j+2:=⟨M -2,(UI hM).symm⟩
  show (cv _ Ag _ _).bind _=_
  rw [jA (n:=n+139) I false (o4 hB)]
  show (aH _ Fw _ _).bind _=_
  rw [o7 I r]
  show (cv _ Ag _ _).bind _=_
  rw [jA (n:=n+139) I true (NF rfl)];rfl
 |succ d ih=>
  intro L B hd I K hB
  obtain ⟨L',r,R⟩:=xU I K
  by_cases e:L'=L
  ·subst e
   refine ⟨L',⟨I,K,r⟩,fun n M L0 hM=> ?_⟩
   obtain ⟨M,rfl⟩:∃j,M=j+2:=⟨M -2,(UI (Nt (Qd 2 d) (NY hM))).symm⟩
   show (cv _ Ag _ _).bind _=_
   rw [jA (n:=n+139) I false (o4 hB)]
   show (aH _ Fw _ _).bind _=_
   rw [o7 I r]
   show (cv _ Ag _ _).bind _=_
   rw [jA (n:=n+139) I true (NF rfl)];rfl
  ·obtain ⟨Lf,D,go⟩:=ih L' L (ON (On (R.phi e) hd)) R.inv R.kept e
   refine ⟨Lf,D,fun n M L0 hM=> ?_⟩
   obtain ⟨M,rfl⟩:∃j,M=j+1:=Oi (PH (NL (Oe _) hM))
   show (cv _ Ag _ _).bind _=_
   rw [jA (n:=n+139) I false (o4 hB)]
   show (aH _ Fw _ _).bind _=_
   rw [o7 I r]
   exact go n M L0 (OT hM)
theorem tA {ρ:Loc} {σ:ag} {f:Nat} {args:List CE} {us:List V} {Us:List aA} {U:aA} (ha:kO (run aj n) args ρ σ=some (Us,σ)) (hu:Us.map aA.bind=us.map aA.v) (hc:(run aj n).c f (us.map aA.v) []=some (.ok U,[])):(run aj (n+1)).s (.expr (.callF f args)) ρ σ=some (.next,ρ,σ):=by
 rw [iU,cP]
 show xO (run aj n) (f,args) ρ σ=_
 unfold xO
 rw [ha]
 show (cS (run aj n) f (Us.map aA.bind) σ).bind _=_
 rw [hu,j6 hc];rfl
theorem pL (I:Inv P0 L) (hn:nlab L≤100) (F:xb L):∃Lf,oo 210 32 [lst L] (lst Lf)∧Ig P0 Lf:=by
 have Ik:Inv P0 (kept L):=I.kept
 obtain ⟨Lf,D,go⟩:=FW 121 (kept L) [] (Ia Ik) Ik nN (fun z=>by have:=Ik.sh.pos;rw [z] at this;exact absurd this (OD 0))
 refine ⟨Lf,fun n=> ?_,D⟩
 have h0:[]∉aq L:=fun m=>I.core.nil (eS.mpr m)
 exact bV (n:=n+209) (fn:=iL) (ρ:=DF L Lf Lf) (σ2:=[]) (W:= .v (lst Lf)) rfl rfl
  (av (tA (n:=n+208) (us:=[lst L]) (Us:=[.v (lst L)]) rfl rfl (yC (I.small hn) I.tg h0 F (n+108)))
   (av (aD (n:=n+208) (u:=lst (kept L)) rfl (aB (n:=n+207) (us:=[lst L,.tup []]) (Us:=[.v (lst L),.v (.tup [])]) rfl rfl (mK I hn (n+147)) rfl) rfl)
    (av (aD (n:=n+208) (u:=told []) (U:= .own (told [])) rfl rfl rfl) (av (show (run aj (n+209)).s (.while_ Ag Fw) _ _=_ from go (n+18) turns L (by decide)) (dW (n:=n+208) rfl))))) rfl
theorem Ef (D:Ig P0 L) (hn:nlab L≤100) (F:xb L):oo 210 32 [lst L] (lst L):=fun n=>by
 have I:=D.inv
 have h0:[]∉aq L:=fun m=>I.core.nil (eS.mpr m)
 have hB:L≠[]:=fun z=>by have:=I.sh.pos;rw [z] at this;exact absurd this (OD 0)
 have e:fW (cv (run aj (n+208)) Ag) (aH (run aj (n+208)) Fw) turns (DF L L []) []=some (.next,DF L L L,[]):=by
  show fW _ _ (99998+2) _ _=_
  show (cv _ Ag _ _).bind _=_
  rw [jA (n:=n+157) I false (o4 hB)]
  show (aH _ Fw _ _).bind _=_
  rw [o7 (n:=n+18) I D.run]
  show (cv _ Ag _ _).bind _=_
  rw [jA (n:=n+157) I true (NF rfl)];rfl
 have hk:=mK I hn (n+147)
 rw [D.kept] at hk
 exact bV (n:=n+209) (fn:=iL) (ρ:=DF L L L) (σ2:=[]) (W:= .v (lst L)) rfl rfl
  (av (tA (n:=n+208) (us:=[lst L]) (Us:=[.v (lst L)]) rfl rfl (yC (I.small hn) I.tg h0 F (n+108)))
   (av (aD (n:=n+208) (u:=lst L) rfl (aB (n:=n+207) (us:=[lst L,.tup []]) (Us:=[.v (lst L),.v (.tup [])]) rfl rfl hk rfl) rfl)
    (av (aD (n:=n+208) (u:=told []) (U:= .own (told [])) rfl rfl rfl) (av (show (run aj (n+209)).s (.while_ Ag Fw) _ _=_ from e) (dW (n:=n+208) rfl))))) rfl
end
noncomputable def gm:Int:=1000000000000000000000000000057
theorem IE:oo 20 37 [] (.int gm):=fun n=>by kernel_rfl
section
variable {n:Nat} {s d c:Int} {ρ:Loc} {σ:ag}
noncomputable def d8 (s d c:Int):V:= .lst [.int s,.int d,.int c]
structure tK (k:Nat) (s d c:Int):Prop where
 s0:0≤s
 s1:s.natAbs <2^8192
 d0:0≤d
 d1:d <2147483648
 c0:0≤c
 c1:c+k≤1000
theorem tK.le {k j:Nat} (p:tK k s d c) (h:j≤k):tK j s d c:=⟨p.s0,p.s1,p.d0,p.d1,p.c0,RW (Int.add_le_add_left (U7.mpr h) c) p.c1⟩
theorem iO {i:Int} (h0:0≤i) (h:i <1099511627776):fZ i=true:=by
 refine NF (On (m:=1099511627776) (by omega) ?_)
 exact Nt (by decide:1099511627776≤2^40) (Nat.pow_le_pow_right (by decide) (by decide))
theorem Ca {a b:Int} (h1:fZ a=true) (h2:fZ b=true):oI .mul (.int a) (.int b)=some (.int (a*b)):=by
 show (if (fZ a&&fZ b)=true then some (a*b) else none).map V.int=_
 rw [h1,h2];rfl
theorem BO {a b:Int} (hb:b≠0) (h1:fZ a=true) (h2:fZ b=true):oI .fdiv (.int a) (.int b)=some (.int (a.fdiv b)):=by
 show (if (decide (b≠0)&&(fZ a&&fZ b))=true then some (a.fdiv b) else none).map V.int=_
 rw [h1,h2,NF hb];rfl
theorem uR {a b:Int} (hb:b≠0):oI .mod (.int a) (.int b)=some (.int (a.fmod b)):=by
 show (if b≠0 then some (a.fmod b) else none).map V.int=_
 rw [NP hb];rfl
theorem Cv (a b:Int):oI .add (.int a) (.int b)=some (.int (a+b)):=rfl
noncomputable def Af (m:Int) (r:Nr aA):Loc:=[some (.cell 0),some (.v (.int m)),r]
theorem jx (i:Int) (k:Nat) (u:V) (h:[V.int s,.int d,.int c][k]? =some u) (hi:i=k):(run aj (n+2)).e (.idx (.var 0) (.cst (.int i))) (Af m r) [d8 s d c]=some (.v u,[d8 s d c]):=by
 subst hi
 have hk:k <3:=(NA.mp h).1
 refine fN (n:=n+1) (cM (U:= .cell 0) (W:= .v (.int k)) rfl rfl rfl rfl) ?_
 show (lr 3 (k:Int)).bind _=_
 unfold lr
 rw [NP (Ot k),NP (PC.mpr hk)]
 exact h
structure sI (k:Nat) (many:Int) (s d c f s' d' c':Int):Prop where
 lo:0≤f
 hi:f <many
 pen:tK k s' d' c'
 run:∀n,(run aj (n+30)).c 39 [.cell 0,.v (.int many)] [d8 s d c]=some (.ok (.v (.int f)),[d8 s' d' c'])
theorem IB {k:Nat} {many:Int} (p:tK (k+1) s d c) (hs:0 <s) (hm:0 <many) (hz:many <1099511627776):sI k many s d c (s.fmod many) (s.fdiv many) d c where
 lo:=PI _ hm
 hi:=P8 _ hm
 pen:=⟨Int.fdiv_nonneg p.s0 (QH hm),by
  rw [Int.fdiv_eq_ediv_of_nonneg _ (QH hm)]
  refine NL ?_ p.s1
  have h1:=Int.ediv_le_self many p.s0
  have h2:=Int.ediv_nonneg p.s0 (QH hm)
  omega,p.d0,p.d1,p.c0,by have:=p.c1;omega⟩
 run:=fun n=>by
  have ne:many≠0:=U8 hm
  have ok1:fZ s=true:=NF p.s1
  have ok2:=iO (QH hm) hz
  have i0:∀m r,(run aj (m+2)).e (.idx (.var 0) (.cst (.int 0))) (Af many r) [d8 s d c]=some (.v (.int s),[d8 s d c]):=fun m r=>jx (n:=m) 0 0 (.int s) rfl rfl
  refine bV (n:=n+29) (fn:=jW) (ρ:=Af many (some (.v (.int (s.fmod many))))) (σ2:=[d8 (s.fdiv many) d c]) (W:= .v (.int (s.fmod many))) rfl rfl ?_ rfl
  refine eg (bc (n:=n+28) (b:=true) (bJ (n:=n+27) (o:= .gt) (W:= .v (.int 0)) (i0 (n+25) none) rfl rfl rfl (NC some (NF hs))) ?_) rfl
  refine av (aD (n:=n+27) (ρ:=Af many none) rfl (bW (n:=n+26) (o:= .mod) (aK (i0 (n+24) none) rfl (W:= .v (.int many)) rfl rfl) (uR ne)) rfl) ?_
  refine av (ρ':=Af many (some (.v (.int (s.fmod many))))) (σ':=[d8 (s.fdiv many) d c]) ?_ (dW (n:=n+27) rfl)
  have e1:eO (run aj (n+27)) (.bin .fdiv (.idx (.var 0) (.cst (.int 0))) (.var 1)) (Af many (some (.v (.int (s.fmod many))))) [d8 s d c]=some (.int (s.fdiv many),[d8 s d c]):=
   cC (bW (n:=n+26) (o:= .fdiv) (aK (i0 (n+24) _) rfl (W:= .v (.int many)) rfl rfl) (BO ne ok1 ok2)) rfl
  rw [iU,a0,show eO (run aj (n+27)) (.bin .fdiv (.idx (.var 0) (.cst (.int 0))) (.var 1)) (List.set (Af many none) 2 (some (.v (.int (s.fmod many))))) [d8 s d c]=_ from e1]
  rfl
theorem FA {k:Nat} {many:Int} (p:tK (k+1) s d c) (hs:¬0 <s) (hm:0 <many):sI k many s d c ((((d*48271+(c+1)*(c+1)).fmod 2147483647).fdiv 32).fmod many) s ((d*48271+(c+1)*(c+1)).fmod 2147483647) (c+1) where
 lo:=PI _ hm
 hi:=P8 _ hm
 pen:=⟨p.s0,p.s1,PI _ (by decide),U9 (P8 _ (by decide)) (by decide),RW p.c0 (V4 (RF c)),by have:=p.c1;omega⟩
 run:=fun n=>by
  have ne:many≠0:=U8 hm
  have h1:=p.c1
  have hc0:=p.c0
  have okd:fZ d=true:=iO p.d0 (U9 p.d1 (by decide))
  have okc:fZ (c+1)=true:=iO (RW hc0 (V4 (RF c))) (by omega)
  have okn:fZ ((d*48271+(c+1)*(c+1)).fmod 2147483647)=true:=iO (PI _ (by decide)) (U9 (P8 _ (by decide)) (by decide))
  refine bV (n:=n+29) (fn:=jW) (ρ:=Af many none) (σ2:=[d8 s ((d*48271+(c+1)*(c+1)).fmod 2147483647) (c+1)]) (W:= .v _) rfl rfl ?_ rfl
  refine av (bc (n:=n+28) (ρ:=Af many none) (b:=false) (bJ (n:=n+27) (o:= .gt) (W:= .v (.int 0)) (jx (n:=n+25) 0 0 (.int s) rfl rfl) rfl rfl rfl (NC some (N0 hs))) rfl) ?_
  refine av (ρ':=Af many none) (σ':=[d8 s d (c+1)]) ?_ (av (ρ':=Af many none) (σ':=[d8 s ((d*48271+(c+1)*(c+1)).fmod 2147483647) (c+1)]) ?_ (dW (n:=n+28) ?_))
  ·rw [iU,a0,cC (bW (n:=n+27) (o:= .add) (aK (jx (n:=n+25) 2 2 (.int c) rfl rfl) rfl (W:= .v (.int 1)) rfl rfl) rfl) rfl]
   rfl
  ·have e1:(run aj (n+28)).e (.bin .mod (.bin .add (.bin .mul (.idx (.var 0) (.cst (.int 1))) (.cst (.int 48271))) (.bin .mul (.idx (.var 0) (.cst (.int 2))) (.idx (.var 0) (.cst (.int 2))))) (.cst (.int 2147483647))) (Af many none) [d8 s d (c+1)]=some (.v (.int ((d*48271+(c+1)*(c+1)).fmod 2147483647)),[d8 s d (c+1)]):=
    bW (n:=n+27) (o:= .mod) (aK (bW (n:=n+26) (o:= .add) (aK (bW (n:=n+25) (o:= .mul) (aK (jx (n:=n+23) 1 1 (.int d) rfl rfl) rfl (W:= .v (.int 48271)) rfl rfl) (Ca okd (by decide+kernel))) rfl
     (bW (n:=n+25) (o:= .mul) (aK (jx (n:=n+23) 2 2 (.int (c+1)) rfl rfl) rfl (jx (n:=n+23) 2 2 (.int (c+1)) rfl rfl) rfl) (Ca okc okc)) rfl) (Cv _ _)) rfl (W:= .v (.int 2147483647)) rfl rfl) (uR (by decide))
   rw [iU,a0,cC e1 rfl]
   rfl
  ·exact bW (n:=n+27) (o:= .mod) (aK (bW (n:=n+26) (o:= .fdiv) (aK (jx (n:=n+24) 1 1 (.int ((d*48271+(c+1)*(c+1)).fmod 2147483647)) rfl rfl) rfl (W:= .v (.int 32)) rfl rfl) (BO (by decide) okn (by decide+kernel))) rfl (W:= .v (.int many)) rfl rfl) (uR ne)
theorem lN {k:Nat} {many:Int} (p:tK (k+1) s d c) (hm:0 <many) (hz:many <1099511627776):∃f s' d' c',sI k many s d c f s' d' c':=by
 by_cases hs:0 <s
 ·exact ⟨_,_,_,_,IB p hs hm hz⟩
 ·exact ⟨_,_,_,_,FA p hs hm⟩
end
section
set_option exponentiation.threshold 10000
section
variable {n:Nat} {s d c:Int} {ρ:Loc} {σ:ag}
noncomputable def MM:List CS:=[.assign 1 (.bin .add (.bin .mul (.var 1) (.callF 37 [])) (.bin .mod (.callB .int_ [(.var 2)]) (.callF 37 [])))]
noncomputable def Br (u:V) (s:Int) (r:Nr aA):Loc:=[some (.v u),some (.v (.int s)),r]
theorem A9:fZ gm=true:=by decide+kernel
theorem AO:(gm^40).natAbs <2^8192:=by decide+kernel
theorem gD:0 <gm:=by decide
structure Jm (j:Nat) (s:Int):Prop where
 lo:0≤s
 hi:s <gm^j
theorem Jm.next {j:Nat} (h:Jm j s) (x:Int):Jm (j+1) (s*gm+x.fmod gm) where
 lo:=Int.add_nonneg (Int.mul_nonneg h.lo (QH gD)) (PI _ gD)
 hi:=by
  have h1:=P8 x gD
  have h2:(s+1)*gm≤gm^j*gm:=Int.mul_le_mul_of_nonneg_right h.hi (QH gD)
  rw [Va]
  rw [Int.add_mul,Int.one_mul] at h2
  exact RZ (Int.add_lt_add_left h1 _) h2
theorem pa:∀j:Nat,0 <gm^j
 |0=>by decide
 |j+1=>by rw [Va];exact Int.mul_pos (pa j) gD
theorem Ff (j k:Nat):gm^j≤gm^(j+k):=by
 induction k with
 |zero=>exact RF _
 |succ k ih=>
  refine RW ih ?_
  rw [←OA,Va]
  have:=Int.mul_le_mul_of_nonneg_left (show (1:Int)≤gm from gD) (QH (pa (j+k)))
  rw [Vr] at this
  exact this
theorem Jm.ok {j:Nat} (h:Jm j s) (hj:j≤40):s.natAbs <2^8192:=by
 obtain ⟨k,hk⟩:=Q6 hj
 have h1:s <gm^40:=RZ h.hi (hk▸Ff j k)
 have h2:s.natAbs <(gm^40).natAbs:=by
  have h3:=h.lo
  omega
 exact PE h2 AO
theorem JQ {E:Ev} (e:CE):dT aj E (.rev e) ρ σ=(eO E e ρ σ).bind fun r=>r.1.lst?.map fun us=>(.v (.lst us.reverse),r.2):=rfl
theorem ET {u:V} {r:Nr aA} (x:Int) (h:fZ s=true):bd (run aj (n+50)) (.one 2) MM (.int x) (Br u s r) []=some (.next,Br u (s*gm+x.fmod gm) (some (.v (.int x))),[]):=by
 have b:∀ρ m,(run aj (m+22)).e (.callF 37 []) ρ []=some (.v (.int gm),[]):=fun ρ m=>aB (n:=m+21) (us:=[]) (Us:=[]) rfl rfl (IE (m+1)) rfl
 exact bk (aD (n:=n+49) (ρ:=Br u s (some (.v (.int x)))) rfl (bW (n:=n+48) (o:= .add) (aK (bW (n:=n+47) (o:= .mul) (aK (U:= .v (.int s)) rfl rfl (b _ (n+25)) rfl) (Ca h A9)) rfl
  (bW (n:=n+47) (o:= .mod) (aK (eQ (n:=n+46) (b:= .int_) (args:=[.var 2]) (us:=[.int x]) rfl rfl) rfl (b _ (n+25)) rfl) (uR (U8 gD))) rfl) (Cv _ _)) rfl)
theorem Fs {u:V}:∀(xs:List Int) (j:Nat) (s:Int),Jm j s→j+xs.length≤40→∃s',(0≤s'∧s'.natAbs <2^8192)∧∀n r,∃r',fm (bd (run aj (n+50)) (.one 2) MM) (xs.map .int) (Br u s r) []=some (.next,Br u s' r',[]):=by
 intro xs
 induction xs with
 |nil=>exact fun j s h hj=>⟨s,⟨h.lo,h.ok hj⟩,fun n r=>⟨r,rfl⟩⟩
 |cons x xs ih=>
  intro j s h hj
  have hj2:j+1+xs.length≤40:=by rw [OA,O2 1];exact hj
  refine Np fun nG=> ?_
  obtain ⟨s',q,go⟩:=ih (j+1) _ (h.next x) hj2
  refine nG ?_
  refine ⟨s',q,fun n r=> ?_⟩
  obtain ⟨r',e⟩:=go n (some (.v (.int x)))
  refine ⟨r',?_⟩
  rw [NJ,aQ,ET x (NF (h.ok (Nt (Oj _ _) (PQ (Nt (N8 (Ph j xs.length).symm) hj2)))))]
  exact e
theorem Lk (ns:List Int) (hz:ns.length≤63):∃s d c,tK 100 s d c∧mH 80 38 [.lst (ns.map .int)] (d8 s d c):=by
 refine Np fun nG=> ?_
 obtain ⟨s,⟨h1,h2⟩,go⟩:=Fs (u:= .lst (ns.map .int)) (ns.take 40).reverse 0 0 ⟨RF 0,pa 0⟩ (by rw [T7,Ow];exact Qk _ _)
 refine nG ?_
 have m0:(0:Int)≤((ns.length:Int)).fmod 1000:=PI _ (by decide)
 have m1:((ns.length:Int)).fmod 1000 <1000:=P8 _ (by decide)
 refine ⟨s,149+(ns.length:Int).fmod 1000,0,⟨h1,h2,by omega,by omega,RF 0,by decide⟩,fun n=> ?_⟩
 obtain ⟨r,e⟩:=go (n+28) none
 have hi:dN (run aj (n+78)) (.seq (.rev (.slc (.var 0) none (some (.cst (.int 40)))))) (Br (.lst (ns.map .int)) 0 none) []=some ((ns.take 40).reverse.map .int,[]):=by
  have hb:i9 (.lst (ns.map V.int)) none (some (.int 40))=some (.lst ((ns.take 40).map .int)):=by
   show some (V.lst (((ns.map V.int).take (min 40 (ns.map V.int).length)).drop 0))=_
   rw [Rh,Nw,←SA]
   congr 3
   rw [←List.take_eq_take_min]
  have e1:(run aj (n+77)).e (.slc (.var 0) none (some (.cst (.int 40)))) (Br (.lst (ns.map .int)) 0 none) []=some (.v (.lst ((ns.take 40).map .int)),[]):=by
   show (i9 (.lst (ns.map V.int)) none (some (.int 40))).map (fun v=>(aA.v v,([]:ag)))=_
   rw [hb];rfl
  have e2:(run aj (n+78)).e (.rev (.slc (.var 0) none (some (.cst (.int 40))))) (Br (.lst (ns.map .int)) 0 none) []=some (.v (.lst ((ns.take 40).reverse.map .int)),[]):=by
   rw [iY,JQ,cC e1 rfl,List.map_reverse];rfl
  rw [uD,cC e2 rfl];rfl
 refine bV (n:=n+79) (fn:=pH) (ρ:=Br (.lst (ns.map .int)) s r) (σ2:=[]) (W:= .own (d8 s (149+(ns.length:Int).fmod 1000) 0)) rfl rfl ?_ rfl
 refine av (ρ':=Br (.lst (ns.map .int)) 0 none) (σ':=[]) rfl (av (f8 (n:=n+78) (t:= .one 2) (body:=MM) hi e) (dW (n:=n+78) ?_))
 have e3:(run aj (n+77)).e (.bin .add (.cst (.int 149)) (.bin .mod (.callB .len [(.var 0)]) (.cst (.int 1000)))) (Br (.lst (ns.map .int)) s r) []=some (.v (.int (149+(ns.length:Int).fmod 1000)),[]):=
  bW (n:=n+76) (o:= .add) (aK (U:= .v (.int 149)) rfl rfl (bW (n:=n+75) (o:= .mod) (aK (eQ (n:=n+74) (us:=[.lst (ns.map .int)]) rfl (show some (V.int ((ns.map V.int).length:Nat))=some (V.int (ns.length:Nat)) by rw [Nw])) rfl (W:= .v (.int 1000)) rfl rfl) (uR (by decide))) rfl) (Cv _ _)
 rw [iY,dS,vU (U:= .v (.int s)) rfl rfl (aK e3 rfl (W:= .v (.int 0)) rfl rfl)];rfl
end
end
section
variable {n j k g at_ count:Nat} {s d c s' d' c' f w:Int} {ρ:Loc} {σ:ag}
noncomputable def gN (k:Nat):Sg:=[97]++eK k
theorem MJ:(Pf 201).all (fun k=>cX (([97]:Sg).length+(eK k).length))=true:=by kernel_rfl
theorem wI {k:Nat} (h:k <201):oJ (.str [97]) (.str (eK k))=some (.str (gN k)):=by
 show (if cX (([97]:Sg).length+(eK k).length)=true then _ else _)=_
 rw [NP (NO.mp MJ k (Qp.mpr h))];rfl
noncomputable def yG:Nat→Nm
 |0=> .jrcxz
 |1=> .loopne
 |2=> .loope
 |_=> .loop
noncomputable def IF (j:Nat):V:= .lst ((Pf j).map fun k=> .str (yG k).s)
inductive Rw (count at_:Nat):Nat→Nat→cq→Prop
 |jmp {a b:Nat}:b≤count→Rw count at_ a a (.jump .jmp (gN b))
 |lp {a b:Nat}:b≤count→Rw count at_ (a+1) a (.jump (yG a) (gN b))
 |ret {a:Nat}:Rw count at_ a a .ret
 |cc {a b:Nat} (z:Bool):b≤count→Rw count at_ a a (.jump (bif z then .je else .jae) (gN b))
 |call {a:Nat} {x:Sg}:x∈[([48,116,49]:Sg),[102,97,114],[48,116,50]]→Rw count at_ a a (.jump .call x)
 |mov {a:Nat}:Rw count at_ a a (.mov false at_ [])
theorem lh {e1 e2:CE} {m:Int} {r:ag} (T:sI k m s d c f s' d' c') (h1:kO (run aj (n+30)) [e1,e2] ρ (d8 s d c::r)=some ([.cell 0,.v (.int m)],d8 s d c::r)):(run aj (n+31)).e (.callF 39 [e1,e2]) ρ (d8 s d c::r)=some (.v (.int f),d8 s' d' c'::r):=by
 rw [iY,bL,h1]
 show (cS (run aj (n+30)) 39 [.cell 0,.v (.int m)] (d8 s d c::r)).bind _=_
 have:cS (run aj (n+30)) 39 [.cell 0,.v (.int m)] (d8 s d c::r)=some (.ok (.v (.int f)),d8 s' d' c'::r):=by
  unfold cS
  rw [NP (show (eM [.cell 0,.v (.int m)]).Nodup from Pl.mpr ⟨Vb,Rj⟩)]
  show ((run aj (n+30)).c 39 [.cell 0,.v (.int m)] [d8 s d c]).map _=_
  rw [T.run n];rfl
 rw [this];rfl
noncomputable def tO (at_ count:Nat) (r4 r5:Nr aA):Loc:=[some (.cell 0),some (.v (ai at_)),some (.v (ai count)),some (.cell 1),r4,r5]
noncomputable def eP (s d c:Int) (j:Nat):ag:=[d8 s d c,IF j]
noncomputable def M6:CS:= .assignT [(4,false),(5,false)] [(.callF 39 [(.var 0),(.cst (.int 8))]),(.bin .add (.cst (.str [97])) (.callB .str_ [(.callF 39 [(.var 0),(.bin .add (.var 2) (.cst (.int 1)))])]))]
noncomputable def Na:CS:= .ite (.cmp (.var 4) .in_ (.tup [(.cst (.int 1)),(.cst (.int 2))])) [.ret (.mk .ins [(.cst (.str [106,109,112])),(.lst [(.mk .rel [(.cst (.int 0)),(.var 5)])])])] []
noncomputable def No:CS:= .ite (.and [(.cmp (.var 4) .eq (.cst (.int 3))),(.cmp (.var 3) .ne (.lst []))]) [.ret (.mk .ins [(.callS .pop (.var 3) []),(.lst [(.mk .rel [(.cst (.int 0)),(.var 5)])])])] []
noncomputable def Nn:CS:= .ite (.cmp (.var 4) .eq (.cst (.int 4))) [.ret (.mk .ins [(.cst (.str [114,101,116])),(.lst [])])] []
noncomputable def M1:CS:= .ite (.cmp (.var 4) .eq (.cst (.int 5))) [.ret (.mk .ins [(.idx (.lst [(.cst (.str [106,101])),(.cst (.str [106,97,101]))]) (.callF 39 [(.var 0),(.cst (.int 2))])),(.lst [(.mk .rel [(.cst (.int 0)),(.var 5)])])])] []
noncomputable def LW:CS:= .ite (.cmp (.var 4) .eq (.cst (.int 6))) [.ret (.mk .ins [(.cst (.str [99,97,108,108])),(.lst [(.mk .rel [(.cst (.int 0)),(.idx (.lst [(.cst (.str [48,116,49])),(.cst (.str [102,97,114])),(.cst (.str [48,116,50]))]) (.callF 39 [(.var 0),(.cst (.int 3))]))])])])] []
noncomputable def Mr:CS:= .ret (.mk .ins [(.cst (.str [109,111,118])),(.lst [(.mk .reg [(.callF 36 [(.cst (.int 0)),(.cst (.int 32))])]),(.mk .imm [(.var 1)])])])
theorem L8 {s2 d2 c2:Int} (T1:sI (k+1) 8 s d c w s' d' c') (T2:sI k ((count:Int)+1) s' d' c' g s2 d2 c2) (hg:g <201) {r4 r5:Nr aA}:(run aj (n+60)).s M6 (tO at_ count r4 r5) (eP s d c j)=some (.next,tO at_ count (some (.v (.int w))) (some (.v (.str (gN g)))),eP s2 d2 c2 j):=by
 have e1:(run aj (n+59)).e (.callF 39 [(.var 0),(.cst (.int 8))]) (tO at_ count r4 r5) (eP s d c j)=some (.v (.int w),eP s' d' c' j):=lh (n:=n+28) T1 rfl
 have e2:(run aj (n+57)).e (.callF 39 [(.var 0),(.bin .add (.var 2) (.cst (.int 1)))]) (tO at_ count r4 r5) (eP s' d' c' j)=some (.v (.int g),eP s2 d2 c2 j):=lh (n:=n+26) T2 rfl
 have e3:(run aj (n+59)).e (.bin .add (.cst (.str [97])) (.callB .str_ [(.callF 39 [(.var 0),(.bin .add (.var 2) (.cst (.int 1)))])])) (tO at_ count r4 r5) (eP s' d' c' j)=some (.v (.str (gN g)),eP s2 d2 c2 j):=
  bW (n:=n+58) (o:= .add) (aK (σ1:=eP s' d' c' j) (U:= .v (.str [97])) rfl rfl (eQ (n:=n+57) (us:=[ai g]) (by rw [en,aZ,e2];rfl) (yg hg)) rfl) (wI hg)
 rw [M6,iU,aI,gw,e1]
 show NT (Pr _ (xg (run aj (n+59)) _ _ (tO at_ count r4 r5) (eP s' d' c' j))) _=_
 rw [gw,e3];rfl
theorem lA {x:CS} {xs:List CS} {r:fc×Loc×ag} (h:(run aj n).s x ρ σ=some (.next,ρ,σ)) (k:aH (run aj n) xs ρ σ=some r):aH (run aj n) (x::xs) ρ σ=some r:=av h k
noncomputable def v7:List CS:=[Na,No,Nn,M1,LW,Mr]
noncomputable def oF (at_ count j k:Nat) (w:Int) (g:Nat) (s d c:Int):Prop:=∃i j' s' d' c',Rw count at_ j j' i∧j'≤j∧tK k s' d' c'∧∀n,∃r4 r5,aH (run aj (n+60)) v7 (tO at_ count (some (.v (.int w))) (some (.v (.str (gN g))))) (eP s d c j)=some (.ret (.v (aP i)),tO at_ count r4 r5,eP s' d' c' j')
theorem ww (p:tK (k+1) s d c) (hw:w=0∨w=7∨(w=3∧j=0)):oF at_ count j k w g s d c:=by
 refine ⟨_,j,s,d,c,.mov,NI _,p.le (NZ k),fun n=>⟨some (.v (.int w)),some (.v (.str (gN g))),?_⟩⟩
 rcases hw with rfl|rfl|⟨rfl,rfl⟩<;>kernel_rfl
theorem Bz (p:tK (k+1) s d c) (hg:g≤count) (hw:w=1∨w=2):oF at_ count j k w g s d c:=by
 refine ⟨_,j,s,d,c,.jmp hg,NI _,p.le (NZ k),fun n=>⟨some (.v (.int w)),some (.v (.str (gN g))),?_⟩⟩
 rcases hw with rfl|rfl<;>kernel_rfl
theorem Hm (p:tK (k+1) s d c):oF at_ count j k 4 g s d c:=
 ⟨_,j,s,d,c,.ret,NI _,p.le (NZ k),fun n=>⟨some (.v (.int 4)),some (.v (.str (gN g))),by kernel_rfl⟩⟩
theorem J9 (p:tK (k+1) s d c) (hg:g≤count) (hj:j <4):oF at_ count (j+1) k 3 g s d c:=by
 refine ⟨_,j,s,d,c,.lp hg,NZ _,p.le (NZ k),fun n=>⟨some (.v (.int 3)),some (.v (.str (gN g))),?_⟩⟩
 refine qZ hj ?_ fun hj=>qZ hj ?_ fun hj=>qZ hj ?_ fun hj=>qZ hj ?_ vF<;>kernel_rfl
theorem JZ (p:tK (k+1) s d c) (hg:g≤count):oF at_ count j k 5 g s d c:=by
 obtain ⟨f,s',d',c',T⟩:=lN (many:=2) p (by decide) (by decide)
 have hf:=T.lo
 have hf2:=T.hi
 have pre:∀n r,aH (run aj (n+60)) [M1,LW,Mr] (tO at_ count (some (.v (.int 5))) (some (.v (.str (gN g))))) (eP s d c j)=some r→aH (run aj (n+60)) v7 (tO at_ count (some (.v (.int 5))) (some (.v (.str (gN g))))) (eP s d c j)=some r:=fun n r h=>lA (by kernel_rfl) (lA (by kernel_rfl) (lA (by kernel_rfl) h))
 have e1:∀n,(run aj (n+55)).e (.callF 39 [(.var 0),(.cst (.int 2))]) (tO at_ count (some (.v (.int 5))) (some (.v (.str (gN g))))) (eP s d c j)=some (.v (.int f),eP s' d' c' j):=fun n=>lh (n:=n+24) T rfl
 have e2:∀n (b:Bool),f=(bif b then 0 else 1)→(run aj (n+58)).e (.mk .ins [(.idx (.lst [(.cst (.str [106,101])),(.cst (.str [106,97,101]))]) (.callF 39 [(.var 0),(.cst (.int 2))])),(.lst [(.mk .rel [(.cst (.int 0)),(.var 5)])])]) (tO at_ count (some (.v (.int 5))) (some (.v (.str (gN g))))) (eP s d c j)=some (.v (aP (.jump (bif b then .je else .jae) (gN g))),eP s' d' c' j):=fun n b hb=>
  qV (n:=n+57) (aK (σ1:=eP s' d' c' j) (u:= .str (bif b then Nm.je else Nm.jae).s) (fN (n:=n+56) (cM (U:= .own (.lst [.str [106,101],.str [106,97,101]])) (W:= .v (.int f)) (σ1:=eP s d c j) rfl (e1 (n+1)) rfl rfl) (by rw [hb];cases b<;>rfl)) rfl (W:= .own (.lst [.inst .rel [.str [114,101,108],.int 0,.str (gN g)]])) rfl rfl) (by cases b<;>rfl)
 have fin:∀b:Bool,f=(bif b then 0 else 1)→oF at_ count j k 5 g s d c:=fun b hb=>
  ⟨_,j,s',d',c',.cc b hg,NI _,T.pen,fun n=>⟨_,_,pre n _ (eg (bc (n:=n+59) (b:=true) (bJ (n:=n+58) (o:= .eq) (U:= .v (.int 5)) (W:= .v (.int 5)) rfl rfl rfl rfl (by rw [cu,bh];rfl)) (dW (n:=n+58) (e2 n b hb))) rfl)⟩⟩
 obtain ⟨f,rfl,hw⟩:=nS (n:=2) T.lo T.hi
 have N:=fun {n':Nat}=> @qZ (fun z=>z=f→oF at_ count j k 5 g s d c) f n'
 exact N hw (fun z=>fin false (z▸rfl)) (fun hf=>N hf (fun z=>fin true (z▸rfl)) vF) rfl
theorem E8 (p:tK (k+1) s d c):oF at_ count j k 6 g s d c:=by
 obtain ⟨f,s',d',c',T⟩:=lN (many:=3) p (by decide) (by decide)
 have hf:=T.lo
 have hf2:=T.hi
 have pre:∀n r,aH (run aj (n+60)) [LW,Mr] (tO at_ count (some (.v (.int 6))) (some (.v (.str (gN g))))) (eP s d c j)=some r→aH (run aj (n+60)) v7 (tO at_ count (some (.v (.int 6))) (some (.v (.str (gN g))))) (eP s d c j)=some r:=fun n r h=>lA (by kernel_rfl) (lA (by kernel_rfl) (lA (by kernel_rfl) (lA (by kernel_rfl) h)))
 have e1:∀n,(run aj (n+50)).e (.callF 39 [(.var 0),(.cst (.int 3))]) (tO at_ count (some (.v (.int 6))) (some (.v (.str (gN g))))) (eP s d c j)=some (.v (.int f),eP s' d' c' j):=fun n=>lh (n:=n+19) T rfl
 have e2:∀n x,i3 (.lst [.str [48,116,49],.str [102,97,114],.str [48,116,50]]) (.int f)=some (.str x)→(run aj (n+58)).e (.mk .ins [(.cst (.str [99,97,108,108])),(.lst [(.mk .rel [(.cst (.int 0)),(.idx (.lst [(.cst (.str [48,116,49])),(.cst (.str [102,97,114])),(.cst (.str [48,116,50]))]) (.callF 39 [(.var 0),(.cst (.int 3))]))])])]) (tO at_ count (some (.v (.int 6))) (some (.v (.str (gN g))))) (eP s d c j)=some (.v (aP (.jump .call x)),eP s' d' c' j):=fun n x hx=>by
  have q1:(run aj (n+55)).e (.idx (.lst [(.cst (.str [48,116,49])),(.cst (.str [102,97,114])),(.cst (.str [48,116,50]))]) (.callF 39 [(.var 0),(.cst (.int 3))])) (tO at_ count (some (.v (.int 6))) (some (.v (.str (gN g))))) (eP s d c j)=some (.v (.str x),eP s' d' c' j):=
   fN (n:=n+54) (cM (U:= .own (.lst [.str [48,116,49],.str [102,97,114],.str [48,116,50]])) (W:= .v (.int f)) (σ1:=eP s d c j) rfl (e1 (n+4)) rfl rfl) hx
  have q2:(run aj (n+56)).e (.mk .rel [(.cst (.int 0)),(.idx (.lst [(.cst (.str [48,116,49])),(.cst (.str [102,97,114])),(.cst (.str [48,116,50]))]) (.callF 39 [(.var 0),(.cst (.int 3))]))]) (tO at_ count (some (.v (.int 6))) (some (.v (.str (gN g))))) (eP s d c j)=some (.v (.inst .rel [.str [114,101,108],.int 0,.str x]),eP s' d' c' j):=
   qV (n:=n+55) (aK (U:= .v (.int 0)) (σ1:=eP s d c j) rfl rfl q1 rfl) rfl
  have q3:(run aj (n+57)).e (.lst [(.mk .rel [(.cst (.int 0)),(.idx (.lst [(.cst (.str [48,116,49])),(.cst (.str [102,97,114])),(.cst (.str [48,116,50]))]) (.callF 39 [(.var 0),(.cst (.int 3))]))])]) (tO at_ count (some (.v (.int 6))) (some (.v (.str (gN g))))) (eP s d c j)=some (.own (.lst [.inst .rel [.str [114,101,108],.int 0,.str x]]),eP s' d' c' j):=by
   rw [iY,dS,et,aZ,q2];rfl
  exact qV (n:=n+57) (aK (U:= .v (.str [99,97,108,108])) (σ1:=eP s d c j) rfl rfl q3 rfl) rfl
 have fin:∀x,x∈[([48,116,49]:Sg),[102,97,114],[48,116,50]]→i3 (.lst [.str [48,116,49],.str [102,97,114],.str [48,116,50]]) (.int f)=some (.str x)→oF at_ count j k 6 g s d c:=fun x hx h=>
  ⟨_,j,s',d',c',.call hx,NI _,T.pen,fun n=>⟨_,_,pre n _ (eg (bc (n:=n+59) (b:=true) (bJ (n:=n+58) (o:= .eq) (U:= .v (.int 6)) (W:= .v (.int 6)) rfl rfl rfl rfl (by rw [cu,bh];rfl)) (dW (n:=n+58) (e2 n x h))) rfl)⟩⟩
 obtain ⟨f,rfl,hw⟩:=nS (n:=3) T.lo T.hi
 have N:=fun {n':Nat}=> @qZ (fun z=>z=f→oF at_ count j k 6 g s d c) f n'
 exact N hw (fun z=>fin _ (.tail _ (.tail _ (.head _))) (z▸rfl)) (fun hf=>N hf (fun z=>fin _ (.tail _ (.head _)) (z▸rfl)) fun hf=>N hf (fun z=>fin _ (.head _) (z▸rfl)) vF) rfl
theorem Jx (p:tK (k+3) s d c) (hc:count≤9) (hj:j≤4):∃i j' s' d' c',Rw count at_ j j' i∧j'≤j∧tK k s' d' c'∧∀n,(run aj (n+61)).c 40 [.cell 0,.v (ai at_),.v (ai count),.cell 1] (eP s d c j)=some (.ok (.v (aP i)),eP s' d' c' j'):=by
 refine Np fun nG=> ?_
 obtain ⟨w,s1,d1,c1,T1⟩:=lN (many:=8) p (by decide) (by decide)
 obtain ⟨g,s2,d2,c2,T2⟩:=lN (many:=(count:Int)+1) T1.pen (Int.lt_add_one_of_le (Ot _)) (PC.mpr (NL (NX hc) (by decide:10 <1099511627776)))
 have g0:=T2.lo
 have g1:=T2.hi
 obtain ⟨g,rfl⟩:=Ql g0
 have hg:g≤count:=U7.mp (Int.le_of_lt_add_one g1)
 obtain ⟨w,rfl,hw⟩:=nS (n:=8) T1.lo T1.hi
 have N:=fun {k':Nat}=> @qZ (fun w=>oF at_ count j k w g s2 d2 c2) w k'
 have q:oF at_ count j k w g s2 d2 c2:=N hw (ww T2.pen (.inr (.inl rfl))) fun hw=>N hw (E8 T2.pen) fun hw=>N hw (JZ T2.pen hg) fun hw=>N hw (Hm T2.pen) fun hw=>N hw (by
  cases j with
  |zero=>exact ww T2.pen (.inr (.inr ⟨rfl,rfl⟩))
  |succ j=>exact J9 T2.pen hg hj) fun hw=>N hw (Bz T2.pen hg (.inr rfl)) fun hw=>N hw (Bz T2.pen hg (.inl rfl)) fun hw=>N hw (ww T2.pen (.inl rfl)) vF
 obtain ⟨i,j',s',d',c',h1,h2,h3,h4⟩:=q
 refine nG ?_
 refine ⟨i,j',s',d',c',h1,h2,h3,fun n=> ?_⟩
 refine Np fun nG=> ?_
 obtain ⟨r4,r5,e⟩:=h4 n
 refine nG ?_
 exact bV (n:=n+60) (fn:=qD) (W:= .v (aP i)) rfl rfl (av (L8 (r4:=none) (r5:=none) T1 T2 (NL hg (NL hc (by decide)))) e) rfl
end
section
variable {n j k g count:Nat} {s d c s' d' c':Int} {ρ:Loc} {σ:ag}
inductive iy (count:Nat):Nat→Nat→List cq→Prop
 |nil {a b:Nat}:iy count a b []
 |cons {a b b':Nat} {i:cq} {is:List cq}:Rw count a b b' i→b'≤b→iy count (a+1) b' is→iy count a b (i::is)
noncomputable def v5:CE:= .callF 40 [(.var 1),(.var 16),(.var 2),(.var 3)]
structure wr (ρ:Loc) (count:Nat):Prop where
 len:16 <ρ.length
 r1:ρ[1]? =some (some (.cell 0))
 r2:ρ[2]? =some (some (.v (ai count)))
 r3:ρ[3]? =some (some (.cell 1))
theorem Iu {at_:Nat} {i:cq} {j j':Nat} (F:wr ρ count) (h:∀n,(run aj (n+61)).c 40 [.cell 0,.v (ai at_),.v (ai count),.cell 1] (eP s d c j)=some (.ok (.v (aP i)),eP s' d' c' j')):
  (run aj (n+62)).e v5 (ρ.set 16 (some (.v (ai at_)))) (eP s d c j)=some (.v (aP i),eP s' d' c' j'):=by
 have v:∀k U,k≠16→ρ[k]? =some (some U)→(run aj (n+61)).e (.var k) (ρ.set 16 (some (.v (ai at_)))) (eP s d c j)=some (U,eP s d c j):=fun k U hk e=>by
  show ((ρ.set 16 (some (.v (ai at_))))[k]?.join.map _)=_
  rw [Oo (TX hk),e];rfl
 have v16:(run aj (n+61)).e (.var 16) (ρ.set 16 (some (.v (ai at_)))) (eP s d c j)=some (.v (ai at_),eP s d c j):=by
  show ((ρ.set 16 (some (.v (ai at_))))[16]?.join.map _)=_
  rw [Ol F.len];rfl
 have ea:kO (run aj (n+61)) [(.var 1),(.var 16),(.var 2),(.var 3)] (ρ.set 16 (some (.v (ai at_)))) (eP s d c j)=some ([.cell 0,.v (ai at_),.v (ai count),.cell 1],eP s d c j):=by
  rw [aZ,v 1 _ (by decide) F.r1]
  show NT (kO _ [(.var 16),(.var 2),(.var 3)] _ _) _=_
  rw [aZ,v16]
  show NT (NT (kO _ [(.var 2),(.var 3)] _ _) _) _=_
  rw [aZ,v 2 _ (by decide) F.r2]
  show NT (NT (NT (kO _ [(.var 3)] _ _) _) _) _=_
  rw [aZ,v 3 _ (by decide) F.r3];rfl
 rw [v5,iY,bL,ea]
 show (cS (run aj (n+61)) 40 [.cell 0,.v (ai at_),.v (ai count),.cell 1] (eP s d c j)).bind _=_
 have:cS (run aj (n+61)) 40 [.cell 0,.v (ai at_),.v (ai count),.cell 1] (eP s d c j)=some (.ok (.v (aP i)),eP s' d' c' j'):=by
  unfold cS
  rw [NP (show (eM [.cell 0,.v (ai at_),.v (ai count),.cell 1]).Nodup from (by decide:([0,1]:List Nat).Nodup))]
  show ((run aj (n+61)).c 40 [.cell 0,.v (ai at_),.v (ai count),.cell 1] (eP s d c j)).map _=_
  rw [h n];rfl
 rw [this];rfl
theorem zV (hc:count≤9):∀m a j k s d c,tK (3*m+k) s d c→j≤4→∃is s' d' c' j',is.length=m∧iy count a j is∧tK k s' d' c'∧∀n ρ,wr ρ count→jv (ji (run aj (n+62)) (.one 16) [] (dZ (run aj (n+62)) v5 []) ρ) ((P3 a m).map ai) (eP s d c j)=some (is.map aP,eP s' d' c' j'):=by
 intro m
 induction m with
 |zero=>exact fun a j k s d c p hj=>⟨[],s,d,c,j,rfl,.nil,p.le (Qd _ _),fun n ρ _=>rfl⟩
 |succ m ih=>
  intro a j k s d c p hj
  refine Np fun nG=> ?_
  obtain ⟨i,j1,s1,d1,c1,h1,h2,h3,h4⟩:=Jx (at_:=a) (k:=3*m+k) (p.le (by omega)) hc hj
  obtain ⟨is,s2,d2,c2,j2,q1,q2,q3,q4⟩:=ih (a+1) j1 k s1 d1 c1 h3 (Nt h2 hj)
  refine nG ?_
  refine ⟨i::is,s2,d2,c2,j2,NC (· +1) q1,.cons h1 h2 q2,q3,fun n ρ F=> ?_⟩
  have e:ji (run aj (n+62)) (.one 16) [] (dZ (run aj (n+62)) v5 []) ρ (ai a) (eP s d c j)=some ([aP i],eP s1 d1 c1 j1):=by
   show (eO (run aj (n+62)) v5 (ρ.set 16 (some (.v (ai a)))) (eP s d c j)).map _=_
   rw [cC (Iu F h4) rfl];rfl
  rw [QD,NJ]
  show NT (ji _ _ _ _ _ _ _) _=_
  rw [e]
  show NT (jv _ ((P3 (a+1) m).map ai) (eP s1 d1 c1 j1)) _=_
  rw [q4 n ρ F];rfl
noncomputable def cI (k:Nat) (os:List (Nr cq)):List ah:=List.rec (motive:=fun _=>Nat→List ah) (fun _=>[]) (fun o _ ih k=>⟨[gN k],o⟩::ih (k+1)) os k
noncomputable def FH (p:Nr cq×Nat):V:= .tup [ai p.2,aS p.1]
theorem xM:∀(os:List (Nr cq)) (k:Nat),jh k (os.map aS)=(os.zipIdx k).map FH
 |[],_=>rfl
 |o::os,k=>NC (FH (o,k):: ·) (xM os (k+1))
theorem yA:∀(os:List (Nr cq)) (k:Nat),(os.zipIdx k).flatMap (fun p=>[ay ⟨[gN p.2],p.1⟩])=(cI k os).map ay
 |[],_=>rfl
 |o::os,k=>NC (ay ⟨[gN k],o⟩:: ·) (yA os (k+1))
theorem nY:∀(os:List (Nr cq)) (k:Nat),(cI k os).length=os.length
 |[],_=>rfl
 |_::os,k=>NC (· +1) (nY os (k+1))
theorem tM {α:Type} {elt:CE} {t:kT} {it:It} {ifs:List CE} {gs:List CG} {xs:List α} {enc:α→V} {g:α→List V} (hi:dN (run aj n) it ρ σ=some (xs.map enc,σ))
  (ht:∀x∈xs,ji (run aj n) t ifs (dZ (run aj n) elt gs) (qS (GQ t++DB gs) ρ) (enc x) σ=some (g x,σ)):dZ (run aj n) elt (.mk t it ifs::gs) ρ σ=some (xs.flatMap g,σ):=by
 show (dN (run aj n) it ρ σ).bind _=_
 rw [hi]
 exact jE ht
theorem kr {i:Nat} {elt:CE} {gs:List CG} {us:List V} {σ':ag} (h:dZ (run aj n) elt gs ρ σ=some (us,σ')) (hz:us.length≤1000):(run aj (n+1)).s (.assign i (.comp elt gs)) ρ σ=some (.next,ρ.set i (some (.v (.lst us))),σ'):=by
 show (dZ (run aj n) elt gs ρ σ).bind _=_
 rw [h]
 show (if cX us.length=true then _ else _)=_
 rw [NP (eV (Nt hz (by decide)))]
noncomputable def Gv:CE:= .mk .line [(.lst [(.bin .add (.cst (.str [97])) (.callB .str_ [(.var 17)]))]),(.var 18)]
noncomputable def Gp:List CG:=[(.mk (.two 17 18) (.enum (.bin .add (.var 4) (.lst [(.cst .none)]))) [])]
theorem E4 {is:List cq} (hl:18 <ρ.length) (h4:ρ[4]? =some (some (.v (.lst (is.map aP))))) (hz:is.length≤100):dZ (run aj (n+59)) Gv Gp ρ σ=some ((cI 0 (is.map some++[none])).map ay,σ):=by
 have hi:dN (run aj (n+59)) (.enum (.bin .add (.var 4) (.lst [(.cst .none)]))) ρ σ=some (((is.map some++[none]).zipIdx 0).map FH,σ):=by
  have e:(run aj (n+59)).e (.bin .add (.var 4) (.lst [(.cst .none)])) ρ σ=some (.v (.lst ((is.map some++[none]).map aS)),σ):=by
   have:=bW (n:=n+58) (o:= .add) (l:= .var 4) (r:= .lst [(.cst .none)]) (ρ:=ρ) (σ:=σ) (σ':=σ) (x:= .lst (is.map aP)) (y:= .lst [.none]) (w:= .lst ((is.map some++[none]).map aS)) (aK (σ1:=σ) (U:= .v (.lst (is.map aP))) (by show ρ[4]?.join.map _=_;rw [h4];rfl) rfl (W:= .own (.lst [.none])) rfl rfl) (by
    show (if cX ((is.map aP).length+1)=true then _ else _)=_
    rw [Nw,NP (eV (Nt (NX hz) (by decide))),N1,OP];rfl)
   exact this
  rw [BS,cC e rfl]
  show some (jh 0 ((is.map some++[none]).map aS),σ)=_
  rw [xM]
 have h:=tM (n:=n+59) (elt:= .mk .line [(.lst [(.bin .add (.cst (.str [97])) (.callB .str_ [(.var 17)]))]),(.var 18)]) (t:= .two 17 18) (it:= .enum (.bin .add (.var 4) (.lst [(.cst .none)]))) (ifs:=[]) (gs:=[]) (ρ:=ρ) (σ:=σ) (xs:=(is.map some++[none]).zipIdx 0) (enc:=FH) (g:=fun p=>[ay ⟨[gN p.2],p.1⟩]) hi
  (fun p m=>by
   obtain ⟨o,k⟩:=p
   have hk:k <201:=by
    have:=(VH m).2.1
    rw [Nu,Nw] at this
    exact On this (Nt (N2 (NX hz) 0) (by decide))
   show (eO (run aj (n+59)) _ ((((ρ.set 17 none).set 18 none).set 17 (some (.v (ai k)))).set 18 (some (.v (aS o)))) σ).map _=_
   generalize hr:(((ρ.set 17 none).set 18 none).set 17 (some (.v (ai k)))).set 18 (some (.v (aS o)))=ρ'
   have v17:ρ'[17]? =some (some (.v (ai k))):=by
    rw [←hr,Oo (by decide),Ol (by rw [OC,OC];exact O8 hl)]
   have v18:ρ'[18]? =some (some (.v (aS o))):=by
    rw [←hr,Ol (by rw [OC,OC,OC];exact hl)]
   have e17:(run aj (n+55)).e (.var 17) ρ' σ=some (.v (ai k),σ):=by show ρ'[17]?.join.map _=_;rw [v17];rfl
   have e1:(run aj (n+57)).e (.bin .add (.cst (.str [97])) (.callB .str_ [(.var 17)])) ρ' σ=some (.v (.str (gN k)),σ):=
    bW (n:=n+56) (o:= .add) (aK (σ1:=σ) (U:= .v (.str [97])) rfl rfl (eQ (n:=n+55) (us:=[ai k]) (by rw [en,aZ,e17];rfl) (yg hk)) rfl) (wI hk)
   have e2:(run aj (n+58)).e (.lst [(.bin .add (.cst (.str [97])) (.callB .str_ [(.var 17)]))]) ρ' σ=some (.own (.lst [.str (gN k)]),σ):=by rw [iY,dS,et,aZ,e1];rfl
   rw [cC (qV (n:=n+58) (aK e2 rfl (W:= .v (aS o)) (by show ρ'[18]?.join.map _=_;rw [v18];rfl) rfl) (w:=ay ⟨[gN k],o⟩) rfl) rfl];rfl)
 rw [yA] at h
 exact h
end
section
variable {n j k g count a:Nat} {L:List ah} {l:ah} {i:cq} {is:List cq} {os:List (Nr cq)}
theorem B4:((Pf 200).map gN).Nodup:=by decide+kernel
theorem yw:∀(os:List (Nr cq)) (k:Nat),aq (cI k os)=(P3 k os.length).map gN
 |[],_=>rfl
 |o::os,k=>NC (gN k:: ·) (yw os (k+1))
theorem CJ:∀(os:List (Nr cq)) (k j:Nat),(cI k os)[j]? =os[j]?.map fun o=>⟨[gN (k+j)],o⟩
 |[],_,_=>rfl
 |_::_,_,0=>rfl
 |o::os,k,j+1=>(CJ os (k+1) j).trans (by rw [NS,Si];rfl)
theorem iy.at {b:Nat} (C:iy count a b is):∀{j:Nat},is[j]? =some i→∃b b',Rw count (a+j) b b' i:=by
 induction C with
 |nil=>exact fun h=>nomatch h
 | @cons a b b' i is r _ _ ih=>
  intro j h
  cases j with
  |zero=>cases h;exact ⟨_,_,r⟩
  |succ j=>
   obtain ⟨x,y,q⟩:=ih h
   rw [Ph] at q
   exact ⟨x,y,q⟩
theorem EN {p q:Nat} (hp:p <4) (hq:q <4) (h:yG p=yG q):p=q:=by
 revert h
 refine qZ (P:=fun p=>yG p=yG q→p=q) hp ?_ fun hp=>qZ hp ?_ fun hp=>qZ hp ?_ fun hp=>qZ hp ?_ vF<;>refine qZ (P:=fun q=>yG _=yG q→_=q) hq ?_ fun hq=>qZ hq ?_ fun hq=>qZ hq ?_ fun hq=>qZ hq ?_ vF<;>first|exact fun _=>rfl|exact fun h=>nomatch h
theorem HM {p:Nat} (x:Sg):qQ (.jump (yG p) x)=[.lp (yG p) x]:=by
 unfold yG;split<;>rfl
theorem iy.lps {b:Nat} (C:iy count a b is):b≤4→((items (cI k (is.map some))).filterMap Itm.lp?).Nodup∧∀m∈(items (cI k (is.map some))).filterMap Itm.lp?,∃p,p <b∧m=yG p:=by
 induction C generalizing k with
 |nil=>exact fun _=>⟨Rj,fun m h=>nomatch h⟩
 | @cons a b b' i is r hb _ ih=>
  intro h4
  obtain ⟨h1,h2⟩:=ih (k:=k+1) (Nt hb h4)
  have e:(items (cI k (S7 some (i::is)))).filterMap Itm.lp?=(qQ i).filterMap Itm.lp?++(items (cI (k+1) (is.map some))).filterMap Itm.lp?:=OF
  rw [e]
  have none:(qQ i).filterMap Itm.lp?=[]→((qQ i).filterMap Itm.lp?++(items (cI (k+1) (is.map some))).filterMap Itm.lp?).Nodup∧∀m∈(qQ i).filterMap Itm.lp?++(items (cI (k+1) (is.map some))).filterMap Itm.lp?,∃p,p <b∧m=yG p:=fun z=>by
   rw [z,Qv]
   exact ⟨h1,fun m q=>let ⟨p,a,b⟩:=h2 m q;⟨p,On a hb,b⟩⟩
  cases r with
  |jmp=>exact none rfl
  |ret=>exact none rfl
  |cc z=>exact none (by cases z<;>rfl)
  |call=>exact none rfl
  |mov=>exact none rfl
  |lp hg=>
   rw [HM]
   refine ⟨Pl.mpr ⟨fun q=> ?_,h1⟩,fun m q=> ?_⟩
   ·obtain ⟨p,u,v⟩:=h2 _ q
    exact absurd (EN h4 (On u (PQ h4)) v) (PH u)
   ·rcases NW.mp q with rfl|q
    ·exact ⟨_,OM _,rfl⟩
    ·obtain ⟨p,u,v⟩:=h2 m q;exact ⟨p,U6 u,v⟩
noncomputable def aX (is:List cq):List ah:=cI 0 (is.map some++[none])
theorem Bw:∀(p q:List (Nr cq)) (k:Nat),cI k (p++q)=cI k p++cI (k+p.length) q
 |[],_,_=>rfl
 |o::p,q,k=>NC (ah.mk [gN k] o:: ·) ((Bw p q (k+1)).trans (by rw [OA,O2 1];rfl))
theorem o8 (is:List cq):aX is=cI 0 (is.map some)++[⟨[gN is.length],none⟩]:=by
 unfold aX
 rw [Bw,Nw,Ow];rfl
theorem kz:(aX is).length=is.length+1:=(nY _ _).trans (by rw [Nu,Nw];rfl)
theorem eJ:aq (aX is)=(Pf (is.length+1)).map gN:=by
 unfold aX
 rw [yw,Nu,Nw,RG];rfl
theorem pb (h:(aX is)[j]? =some l):l.labs=[gN j]∧j≤is.length∧(∀x,l.ins=some x→is[j]? =some x):=by
 unfold aX at h
 rw [CJ,Ow] at h
 have hj:j <(is.map some++[none]).length:=by
  rcases Qt j (is.map some++[none]).length with q|q
  ·exact q
  ·rw [O0 q] at h;cases h
 rw [Nu,Nw] at hj
 refine ⟨?_,ON hj,fun x e=> ?_⟩
 ·cases e:(is.map some++[none])[j]? with
  |none=>rw [e] at h;cases h
  |some o=>rw [e] at h;cases h;rfl
 ·rcases OW (ON hj) with q|q
  ·rw [OE (by rw [Nw];exact q),OO] at h
   cases e2:is[j]? with
   |none=>rw [e2] at h;cases h
   |some y=>rw [e2] at h;cases h;cases e;rfl
  ·subst q
   rw [OG (by rw [Nw];exact NI _),Nw,PZ] at h
   cases h;cases e
theorem yz (k:Nat):gN k≠[]∧gN k≠[98]∧gN k∉[([48,116,49]:Sg),[102,97,114],[48,116,50]]:=
 ⟨fun z=>(nomatch z),fun z=>(nomatch (OX z).1),fun m=>by
  rcases NW.mp m with e|m
  ·exact nomatch (OX e).1
  ·rcases NW.mp m with e|m
   ·exact nomatch (OX e).1
   ·exact nomatch (OX (N3.mp m)).1⟩
structure xo (L:List ah):Prop where
 labs:(aq L).Nodup
 lps:((items L).filterMap Itm.lp?).Nodup
 tg:Tg L
 call:∀l∈L,∀t,l.ins=some (.jump .call t)→t∉aq L
 nil:[]∉aq L
theorem C7 {t:Sg} (h: .call t∈items L):∃l∈L,l.ins=some (.jump .call t):=by
 obtain ⟨l,m1,m2⟩:=Po.mp h
 refine ⟨l,m1,?_⟩
 have m3:Itm.call t∈jV l.ins:=(NG.mp m2).resolve_left fun z=>let ⟨y,_,e⟩:=Op.mp z;nomatch e
 exact mX m3 (fun _ _ _ e _=>nomatch e) (fun t e1 e=>by rw [e1,Itm.call.inj e]) fun _ _ _ _ e=>nomatch e
theorem xo.core (F:xo L):kN (items L) (items L) where
 labs:=cG (L:=L)▸F.labs
 lps:=F.lps
 call:=fun t m q=>let ⟨l,m1,e⟩:=C7 m;F.call l m1 t e (eS.mp q)
 old:=fun t m=>m
 span:=fun _ _ _ _ _ b=>b
 mvs:=fun _ _ _ m=>m
 nil:=fun m=>F.nil (eS.mp m)
theorem ql (C:iy count 0 4 is) {t:Sg} (m:l∈aX is) (e:l.ins=some (.jump .call t)):t∈[([48,116,49]:Sg),[102,97,114],[48,116,50]]:=by
 obtain ⟨j,hj⟩:=Oy.mp m
 obtain ⟨b,b',r⟩:=C.at ((pb hj).2.2 _ e)
 generalize hi:cq.jump .call t=i at r
 cases r with
 |jmp=>cases hi
 |ret=>cases hi
 |cc z=>cases z<;>cases hi
 |mov=>cases hi
 | @lp p=>exfalso;unfold yG at hi;split at hi<;>cases hi
 |call q=>cases hi;exact q
theorem jI (C:iy count 0 4 is) (hz:is.length≤9):xo (aX is) where
 labs:=by
  rw [eJ]
  refine B4.sublist (List.Sublist.map _ ?_)
  exact List.range_sublist.mpr (Nt (NX hz) (by decide))
 lps:=by
  rw [o8,aJ,OF]
  have:(items [⟨[gN is.length],none⟩]).filterMap Itm.lp?=[]:=rfl
  rw [this,NQ]
  exact (C.lps (NI 4)).1
 tg:=fun l m k t e z=>by
  obtain ⟨j,hj⟩:=Oy.mp m
  obtain ⟨b,b',r⟩:=C.at ((pb hj).2.2 _ e)
  subst z
  generalize hi:cq.jump k []=i at r
  cases r with
  |jmp=>cases hi
  |ret=>cases hi
  |cc=>cases hi
  |mov=>cases hi
  |lp=>cases hi
  |call q=>cases hi;exact nomatch (NW.mp q).resolve_left (fun z=>nomatch z)
 call:=fun l m t e q=>by
  have q2:=ql C m e
  rw [eJ] at q
  obtain ⟨k,_,rfl⟩:=Op.mp q
  exact (yz k).2.2 q2
 nil:=fun m=>by
  rw [eJ] at m
  obtain ⟨k,_,e⟩:=Op.mp m
  exact (yz k).1 e
theorem tY:∀(is:List cq) (k:Nat),∀x∈cI k (is.map some),x.ins.isSome=true
 |[],_,_,h=>nomatch h
 |i::is,k,x,h=>(NW.mp h).elim (fun e=>by rw [e];rfl) (tY is (k+1) x)
theorem rN (C:iy count 0 4 is) (hz:is.length≤9):Inv (items (aX is)) (aX is):=
 ⟨(jI C hz).core,by rw [o8];exact .mk' rfl (tY is 0),(jI C hz).tg,by rw [kz];exact Nt (NX hz) (by decide)⟩
theorem nK (C:iy count 0 4 is) {w:Bool} {x:Int} {y:Sg} (h:(aX is)[j]? =some l) (e:l.ins=some (.mov w x y)):w=false∧x=j∧y=[]:=by
 obtain ⟨b,b',r⟩:=C.at ((pb h).2.2 _ e)
 rw [Ow] at r
 cases r;exact ⟨rfl,rfl,rfl⟩
theorem wm (C:iy count 0 4 is) (hz:is.length≤9):xb (aX is):=fun l m w x y e q=>by
 obtain ⟨j,hj⟩:=Oy.mp m
 obtain ⟨_,_,h3⟩:=nK C hj e
 exact ((jI C hz).nil (h3▸q)).elim
end
section
variable {n j k g a s:Nat} {L:List ah} {l x:ah} {i:cq} {ρ:Loc} {σ:ag} {A:Nr aA}
noncomputable def H4 (i:cq):Bool:=match i with
 | .jump m _=>match m with
  | .jmp=>false
  | .call=>false
  | .jrcxz=>true
  | .loop=>true
  | .loope=>true
  | .loopne=>true
  | .je=>false
  | .jne=>false
  | .jae=>false
  | .jb=>false
 | .ret=>false
 | .mov _ _ _=>false
noncomputable def AA (l:ah):Nr V:=match l.ins with
 |some (.mov _ i _)=>some (.int i)
 |some .ret=>none
 |some (.jump _ _)=>none
 |none=>none
noncomputable def gr (L:List ah) (s g:Nat):List ah:=if g≤s then (L.take s).drop g else (L.take g).drop (s+1)
noncomputable def hK (L:List ah):List V:=L.filterMap AA
theorem I9 (o:Nr cq):oo 30 41 [jY o] (.str (bg o)):=fun n=>by
 cases o with
 |none=>kernel_rfl
 |some i=>cases i with
  |jump m t=>cases m<;>kernel_rfl
  |ret=>kernel_rfl
  |mov=>kernel_rfl
noncomputable def wM (p:ah×Nat):V:= .tup [ai p.2,bT p.1]
theorem nv:∀(L:List ah) (k:Nat),jh k (L.map bT)=(L.zipIdx k).map wM
 |[],_=>rfl
 |l::L,k=>NC (wM (l,k):: ·) (nv L (k+1))
noncomputable def Ni:CE:= .callB .dict_ [(.comp (.tup [(.var 9),(.var 7)]) [(.mk (.two 7 8) (.enum (.var 0)) []),(.mk (.one 9) (.seq (.idx (.var 8) (.cst (.int 0)))) [])])]
theorem rT (k:Nat):∀(xs:List Sg) (ys:List V) (ks:List Sg) (vs:List V),ij ys=some (ks,vs)→ij ((xs.map fun x=>V.tup [.str x,ai k])++ys)=some (xs++ks,(xs.map fun _=>ai k)++vs)
 |[],_,_,_,h=>h
 |x::xs,ys,ks,vs,h=>by
  show ((ij ((xs.map fun x=>V.tup [.str x,ai k])++ys)).map fun q=>(x::q.1,ai k::q.2))=_
  rw [rT k xs ys ks vs h];rfl
theorem rn:∀(L:List ah) (k:Nat),ij ((L.zipIdx k).flatMap fun p=>p.1.labs.map fun x=>V.tup [.str x,ai p.2])=some (aq L,(cE k L).map ai)
 |[],_=>rfl
 |l::L,k=>by
  rw [Qs,Pv,rT k l.labs _ _ _ (rn L (k+1))]
  show _=some (l.labs++aq L,(l.labs.map (fun _=>k)++cE (k+1) L).map ai)
  rw [N1,OP];rfl
theorem uG:∀(ks:List Sg) (vs:List V) (d:List Sg×List V),ks.length=vs.length→d.1.length=d.2.length→(d.1++ks).Nodup→(ks.zip vs).foldl (fun d kv=>eB d.1 d.2 kv.1 kv.2) d=(d.1++ks,d.2++vs)
 |[],[],d,_,_,_=>by rw [NQ,NQ];rfl
 |[],_::_,_,h,_,_=>nomatch h
 |_::_,[],_,h,_,_=>nomatch h
 |k::ks,v::vs,d,h,hd,hn=>by
  have hk:k∉d.1:=fun m=>(OU.mp hn).2.2 k m k (.head _) rfl
  show (ks.zip vs).foldl _ (eB d.1 d.2 k v)=_
  rw [pY hk hd,uG ks vs _ (PX h) (by show (d.1++[k]).length=(d.2++[v]).length;rw [Nu,Nu,hd];rfl) (by show ((d.1++[k])++ks).Nodup;rw [NR];exact hn)]
  show ((d.1++[k])++ks,(d.2++[v])++vs)=_
  rw [NR,NR];rfl
noncomputable def nX (u:V) (r1 r2 r3 r4 r5 r6:Nr aA):Loc:=[some (.v u),r1,r2,r3,r4,r5,r6,none,none,none,none]
theorem sq:∀(L:List ah) (k:Nat),((L.zipIdx k).flatMap fun p=>p.1.labs.map fun x=>V.tup [.str x,ai p.2]).length=nlab L
 |[],_=>rfl
 |l::L,k=>by
  rw [Qs,Pv,Nu,Nw,sq L (k+1)]
  exact Nu.symm
theorem Cu (S:bX L):(run aj (n+40)).e Ni (nX (told L) none none none none none none) σ=some (.v (an L),σ):=by
 have c:=g9 (n:=n+38) (elt:= .tup [(.var 9),(.var 7)]) (t:= .two 7 8) (it:= .enum (.var 0)) (ifs:=[]) (gs:=[(.mk (.one 9) (.seq (.idx (.var 8) (.cst (.int 0)))) [])]) (ρ:=nX (told L) none none none none none none) (σ:=σ) (xs:=L.zipIdx 0) (enc:=wM) (g:=fun p=>p.1.labs.map fun x=>V.tup [.str x,ai p.2])
  (show some (jh 0 (L.map bT),σ)=_ by rw [nv]) (fun p m=>by
   obtain ⟨l,k⟩:=p
   have q:=jE (f:=ji (run aj (n+38)) (.one 9) [] (dZ (run aj (n+38)) (.tup [(.var 9),(.var 7)]) []) [some (.v (told L)),none,none,none,none,none,none,some (.v (ai k)),some (.v (bT l)),none,none]) (enc:=V.str) (g:=fun x=>[V.tup [.str x,ai k]]) (σ:=σ) (xs:=l.labs) fun x _=>rfl
   rw [gi] at q
   exact q)
  (by rw [sq];exact Nt S.labs (by decide))
 refine eQ (n:=n+39) (us:=[.lst ((L.zipIdx 0).flatMap fun p=>p.1.labs.map fun x=>V.tup [.str x,ai p.2])]) (by rw [en,aZ,c];rfl) ?_
 show (ij _).bind _=_
 rw [rn]
 show (if cX (aq L).length=true then some (V.dct (j5 (aq L) ((cE 0 L).map ai)).1 (j5 (aq L) ((cE 0 L).map ai)).2) else none)=_
 rw [NP (eV (Nt S.labs (by decide)))]
 unfold j5
 rw [uG (aq L) ((cE 0 L).map ai) ([],[]) (by rw [Nw,nE]) rfl S.nodup];rfl
theorem AB {a b:Nat} (ha:a≤L.length) (hb:b≤L.length):i9 (told L) (some (ai a)) (some (ai b))=some (told ((L.take b).drop a)):=by
 show some (V.lst (((L.map bT).take (if (0:Int)≤(b:Int) then min (b:Int).toNat (L.map bT).length else _)).drop (if (0:Int)≤(a:Int) then min (a:Int).toNat (L.map bT).length else _)))=_
 rw [NP (Ot a),NP (Ot b),Pg,Pg,Nw,Qc ha,Qc hb,←SA,←Uu];rfl
noncomputable def KI:CE:= .or [(.cmp (.slc (.idx (.idx (.var 4) (.cst (.int 1))) (.cst (.int 0))) none (some (.cst (.int 4)))) .eq (.cst (.str [108,111,111,112]))),(.cmp (.idx (.idx (.var 4) (.cst (.int 1))) (.cst (.int 0))) .eq (.cst (.str [106,114,99,120,122])))]
noncomputable def MO:CE:= .and [(.cmp (.var 5) .ge (.cst (.int 0))),KI]
noncomputable def M3:CE:= .comp (.idx (.idx (.idx (.idx (.var 10) (.cst (.int 1))) (.cst (.int 2))) (.cst (.int 1))) (.cst (.int 1))) [(.mk (.one 10) (.seq (.var 6)) [(.and [(.cmp (.idx (.var 10) (.cst (.int 1))) .ne (.tup [])),(.cmp (.idx (.idx (.var 10) (.cst (.int 1))) (.cst (.int 0))) .eq (.cst (.str [109,111,118])))])])]
noncomputable def M4:CS:= .assign 5 (.callS .get (.var 1) [(.callF 41 [(.idx (.var 4) (.cst (.int 1)))]),(.neg 1)])
noncomputable def LX:CS:= .assign 6 (.ite (.cmp (.var 5) .le (.var 3)) (.slc (.var 0) (some (.var 5)) (some (.var 3))) (.slc (.var 0) (some (.bin .add (.var 3) (.cst (.int 1)))) (some (.var 5))))
noncomputable def Mn:CS:= .setIdx (.var 2) (.idx (.idx (.var 4) (.cst (.int 1))) (.cst (.int 0))) M3
noncomputable def KU:List CS:=[M4,.ite MO [LX,Mn] []]
variable {r1 r2 r3 r4 r5 r6:Nr aA} {u:V}
theorem Jw {ls:List Sg} (i:cq):cv (run aj (n+50)) KI (nX u r1 r2 r3 (some (.v (bT ⟨ls,some i⟩))) r5 r6) σ=some (H4 i,σ):=by
 cases i with
 |jump m t=>cases m<;>kernel_rfl
 |ret=>kernel_rfl
 |mov=>kernel_rfl
theorem JN {ls:List Sg} (o:Nr cq) (p:Nr Nat) (h:p.isSome=true→o.isSome=true):cv (run aj (n+52)) MO (nX u r1 r2 r3 (some (.v (bT ⟨ls,o⟩))) (some (.v (E2 p))) r6) σ=some (p.isSome&&o.any H4,σ):=by
 refine ru (n:=n+51) (bJ (n:=n+50) (o:= .ge) (U:= .v (E2 p)) (W:= .v (.int 0)) rfl rfl rfl rfl ?_) fun hp=> ?_
 ·cases p with
  |none=>rfl
  |some g=>exact NC some (NF (Ot g))
 ·cases o with
  |none=>exact nomatch h hp
  |some i=>exact Jw (n:=n+1) i
theorem nP:∀L:List ah,(L.flatMap fun l=>(AA l).toList)=hK L
 |[]=>rfl
 |l::L=>by
  rw [Pv,nP L]
  unfold hK
  cases h:AA l with
  |none=>rw [SD h];rfl
  |some v=>rw [SG h];rfl
theorem Ho (hz:L.length≤1000):(run aj (n+50)).e M3 (nX u r1 r2 r3 r4 r5 (some (.v (told L)))) σ=some (.own (.lst (hK L)),σ):=by
 have h:=g9 (n:=n+49) (elt:=(.idx (.idx (.idx (.idx (.var 10) (.cst (.int 1))) (.cst (.int 2))) (.cst (.int 1))) (.cst (.int 1)))) (t:= .one 10) (it:= .seq (.var 6)) (ifs:=[(.and [(.cmp (.idx (.var 10) (.cst (.int 1))) .ne (.tup [])),(.cmp (.idx (.idx (.var 10) (.cst (.int 1))) (.cst (.int 0))) .eq (.cst (.str [109,111,118])))])]) (gs:=[]) (ρ:=nX u r1 r2 r3 r4 r5 (some (.v (told L)))) (σ:=σ) (xs:=L) (enc:=bT) (g:=fun l=>(AA l).toList) rfl
  (fun l _=>by
   obtain ⟨ls,o⟩:=l
   cases o with
   |none=>kernel_rfl
   |some i=>cases i with
    |jump m t=>cases m<;>kernel_rfl
    |ret=>kernel_rfl
    |mov=>kernel_rfl) (by rw [nP];exact Nt (SH _ _) (Nt hz (by decide)))
 rw [nP] at h
 exact h
theorem Mb {ls:List Sg} {o:Nr cq}:(run aj (n+60)).s M4 (nX u (some (.v (an L))) r2 r3 (some (.v (bT ⟨ls,o⟩))) r5 r6) σ=some (.next,nX u (some (.v (an L))) r2 r3 (some (.v (bT ⟨ls,o⟩))) (some (.v (E2 (place L (bg o))))) r6,σ):=
 aD (n:=n+59) rfl (G8 (n:=n+58) rfl (aB (n:=n+57) (us:=[jY o]) (Us:=[.v (jY o)]) rfl rfl (I9 o (n+27)) rfl) rfl) rfl
theorem yB {a b:CE} {p q:Nat} (h1:(run aj (n+49)).e a (nX (told L) r1 r2 r3 r4 r5 r6) σ=some (.v (ai p),σ)) (h2:(run aj (n+49)).e b (nX (told L) r1 r2 r3 r4 r5 r6) σ=some (.v (ai q),σ)) (hp:p≤L.length) (hq:q≤L.length):(run aj (n+50)).e (.slc (.var 0) (some a) (some b)) (nX (told L) r1 r2 r3 r4 r5 r6) σ=some (.v (told ((L.take q).drop p)),σ):=by
 rw [iY,d6,cC (show (run aj (n+49)).e (.var 0) (nX (told L) r1 r2 r3 r4 r5 r6) σ=some (.v (told L),σ) from rfl) rfl]
 show (NT (Pr _ (eO _ a _ σ)) _)=_
 rw [cC h1 rfl]
 show (NT (Pr _ (eO _ b _ σ)) _)=_
 rw [cC h2 rfl]
 show (i9 (told L) (some (ai p)) (some (ai q))).map (fun v=>(aA.v v,σ))=_
 rw [AB hp hq];rfl
theorem Ml {s g:Nat} (hs:s <L.length) (hg:g <L.length):(run aj (n+52)).s LX (nX (told L) r1 r2 (some (.v (ai s))) r4 (some (.v (ai g))) r6) σ=some (.next,nX (told L) r1 r2 (some (.v (ai s))) r4 (some (.v (ai g))) (some (.v (told (gr L s g)))),σ):=by
 refine aD (n:=n+51) (U:= .v (told (gr L s g))) rfl ?_ rfl
 rw [iY,fg,bJ (n:=n+49) (o:= .le) (U:= .v (ai g)) (W:= .v (ai s)) rfl rfl rfl rfl (Fh g s)]
 show (run aj (n+50)).e (bif decide (g≤s) then _ else _) (nX (told L) r1 r2 (some (.v (ai s))) r4 (some (.v (ai g))) r6) σ=_
 unfold gr
 by_cases h:g≤s
 ·rw [NF h,NP h];exact yB rfl rfl (NY hg) (NY hs)
 ·rw [N0 h,N4 h];exact yB (fV (n:=n+47) (i:=3) rfl 1) rfl hs (NY hg)
theorem Mh {ls:List Sg} {m:Nm} {t:Sg} {ks:List Sg} {vs:List V} {M:List ah} (hz:M.length≤1000) (hk:ks.length≤1000):(run aj (n+51)).s Mn (nX u r1 (some (.cell 0)) r3 (some (.v (bT ⟨ls,some (.jump m t)⟩))) r5 (some (.v (told M)))) [.dct ks vs]=
  some (.next,nX u r1 (some (.cell 0)) r3 (some (.v (bT ⟨ls,some (.jump m t)⟩))) r5 (some (.v (told M))),[.dct (eB ks vs m.s (.lst (hK M))).1 (eB ks vs m.s (.lst (hK M))).2]):=
 IP (n:=n+50) (c:=0) (ks:=ks) (vs:=vs) (k:=m.s) (u:= .lst (hK M)) (cC (Ho hz) rfl) rfl rfl rfl (Nt hk (by decide))
end
section
variable {n j k g a s:Nat} {L:List ah} {l l' x:ah} {i:cq} {ρ:Loc} {σ:ag} {m:Nm} {t:Sg} {ks:List Sg} {vs:List V}
structure oG (L:List ah) (s:Nat) (m:Nm) (t:Sg) (g:Nat):Prop where
 row:∃ls,L[s]? =some ⟨ls,some (.jump m t)⟩
 bw:H4 (.jump m t)=true
 plc:place L t=some g
structure yN (L:List ah) (a:Nat) (ks:List Sg) (vs:List V):Prop where
 len:ks.length=vs.length
 le:ks.length≤a
 sound:∀k v,f0 ks vs k=some v→∃s m t g,oG L s m t g∧m.s=k∧v= .lst (hK (gr L s g))
 compl:∀s m t g,s <a→oG L s m t g→f0 ks vs m.s=some (.lst (hK (gr L s g)))
theorem m8:∀{ks:List Sg} {vs:List V} {x y:Sg} {v:V},ks.length=vs.length→f0 (eB ks vs x v).1 (eB ks vs x v).2 y=if x=y then some v else f0 ks vs y
 |[],[],x,y,v,_=>rfl
 |[],_::_,_,_,_,h=>nomatch h
 |_::_,[],_,_,_,h=>nomatch h
 |k::ks,w::vs,x,y,v,h=>by
  have e:eB (k::ks) (w::vs) x v=if k=x then (k::ks,v::vs) else (k::(eB ks vs x v).1,w::(eB ks vs x v).2):=rfl
  rw [e]
  by_cases hk:k=x
  ·rw [NP hk]
   show (if k=y then some v else f0 ks vs y)=if x=y then some v else (if k=y then some w else f0 ks vs y)
   rw [hk]
   by_cases hx:x=y
   ·rw [NP hx,NP hx]
   ·rw [N4 hx,N4 hx]
    exact (N4 hx).symm
  ·rw [N4 hk]
   show (if k=y then some w else f0 (eB ks vs x v).1 (eB ks vs x v).2 y)=if x=y then some v else (if k=y then some w else f0 ks vs y)
   rw [m8 (PX h)]
   by_cases hx:x=y
   ·rw [NP hx,NP hx,N4 fun z=>hk (z.trans hx.symm)]
   ·rw [N4 hx,N4 hx]
theorem nU:∀{ks:List Sg} {vs:List V} {x:Sg} {v:V},ks.length=vs.length→(eB ks vs x v).1.length=(eB ks vs x v).2.length∧(eB ks vs x v).1.length≤ks.length+1
 |[],[],_,_,_=>⟨rfl,NI _⟩
 |[],_::_,_,_,h=>nomatch h
 |_::_,[],_,_,h=>nomatch h
 |k::ks,w::vs,x,v,h=>by
  have e:eB (k::ks) (w::vs) x v=if k=x then (k::ks,v::vs) else (k::(eB ks vs x v).1,w::(eB ks vs x v).2):=rfl
  rw [e]
  by_cases hk:k=x
  ·rw [NP hk];exact ⟨h,NZ _⟩
  ·rw [N4 hk]
   obtain ⟨h1,h2⟩:=nU (x:=x) (v:=v) (PX h)
   exact ⟨NC (· +1) h1,NX h2⟩
theorem CY {i j:Nat} (h1:L[i]? =some l) (h2:L[j]? =some l') (h:i <j):[l,l'].Sublist L:=by
 rw [gR h1]
 exact (Tm l (Pp.mpr (mG h2 h))).trans (Oh _ _)
theorem HH (h:H4 (.jump m t)=true):qQ (.jump m t)=[.lp m t]:=by cases m<;>first|rfl|cases h
theorem qk (h:oG L s m t g):∃l,L[s]? =some l∧ .lp m t∈jJ l∧l.ins=some (.jump m t):=by
 obtain ⟨ls,q⟩:=h.row
 exact ⟨_,q,NG.mpr (.inr (show Itm.lp m t∈qQ (.jump m t) by rw [HH h.bw];exact .head _)),rfl⟩
theorem Ec (U:((items L).filterMap Itm.lp?).Nodup) {s':Nat} {t':Sg} {g':Nat} (h1:oG L s m t g) (h2:oG L s' m t' g'):s=s':=by
 have no:∀{i j:Nat} {t t':Sg} {g g':Nat},i <j→oG L i m t g→oG L j m t' g'→RA:=fun {i j t t' g g'} h h1 h2=>by
  obtain ⟨l,q1,m1,_⟩:=qk h1
  obtain ⟨l',q2,m2,_⟩:=qk h2
  have sub:=((ju (CY q1 q2 h)).filterMap Itm.lp?)
  have e:items [l,l']=jJ l++(jJ l'++[]):=rfl
  rw [e,NQ,OF] at sub
  exact (OU.mp (U.sublist sub)).2.2 m (An m1) m (An m2) rfl
 rcases Sp s s' with z|z|z
 ·exact (no z h1 h2).elim
 ·exact z
 ·exact (no z h2 h1).elim
theorem yN.skip (D:yN L a ks vs) (h:∀m t g,¬oG L a m t g):yN L (a+1) ks vs:=
 ⟨D.len,PO D.le,D.sound,fun s m t g hs q=>D.compl s m t g (Sf (ON hs) fun z=>h m t g (z▸q)) q⟩
theorem yN.put (U:((items L).filterMap Itm.lp?).Nodup) (D:yN L a ks vs) (q:oG L a m t g):yN L (a+1) (eB ks vs m.s (.lst (hK (gr L a g)))).1 (eB ks vs m.s (.lst (hK (gr L a g)))).2 where
 len:=(nU D.len).1
 le:=Nt (nU D.len).2 (NX D.le)
 sound:=fun k v h=>by
  rw [m8 D.len] at h
  by_cases z:m.s=k
  ·rw [NP z] at h;cases h;exact ⟨a,m,t,g,q,z,rfl⟩
  ·rw [N4 z] at h;exact D.sound k v h
 compl:=fun s m' t' g' hs q'=>by
  rw [m8 D.len]
  by_cases z:m.s=m'.s
  ·have:=Ie z
   refine Np fun nG=> ?_
   subst this
   have:=Ec U q q'
   subst this
   obtain ⟨ls,e1⟩:=q.row
   obtain ⟨ls',e2⟩:=q'.row
   rw [e1] at e2
   cases e2
   have:=q.plc.symm.trans q'.plc
   cases this
   refine nG ?_
   exact NP rfl
  ·rw [N4 z]
   exact D.compl s m' t' g' (Sf (ON hs) fun w=>z (by
    subst w
    obtain ⟨ls,e1⟩:=q.row
    obtain ⟨ls',e2⟩:=q'.row
    rw [e1] at e2
    cases e2;rfl)) q'
noncomputable def KY (L:List ah) (xs:List (ah×Nat)) (ks:List Sg) (vs:List V) (ks':List Sg) (vs':List V):Prop:=∀n r3 r4 r5 r6,∃r3' r4' r5' r6',fm (bd (run aj (n+61)) (.two 3 4) KU) (xs.map wM) (nX (told L) (some (.v (an L))) (some (.cell 0)) r3 r4 r5 r6) [.dct ks vs]=some (.next,nX (told L) (some (.v (an L))) (some (.cell 0)) r3' r4' r5' r6',[.dct ks' vs'])
theorem EK (S:bX L) (h0:[]∉aq L) (U:((items L).filterMap Itm.lp?).Nodup) (D:yN L a ks vs) (hl:L[a]? =some l):∃ks' vs',yN L (a+1) ks' vs'∧∀n r3 r4 r5 r6,∃r5' r6',bd (run aj (n+61)) (.two 3 4) KU (wM (l,a)) (nX (told L) (some (.v (an L))) (some (.cell 0)) r3 r4 r5 r6) [.dct ks vs]=some (.next,nX (told L) (some (.v (an L))) (some (.cell 0)) (some (.v (ai a))) (some (.v (bT l))) r5' r6',[.dct ks' vs']):=by
 have ha:=(NA.mp hl).1
 obtain ⟨ls,o⟩:=l
 have ho:(place L (bg o)).isSome=true→o.isSome=true:=fun h=>by
  cases o with
  |none=>rw [show bg none=[] from rfl,lQ h0] at h;cases h
  |some i=>rfl
 have go:∀{n r3 r4 r5 r6 r},aH (run aj (n+61)) [.ite MO [LX,Mn] []] (nX (told L) (some (.v (an L))) (some (.cell 0)) (some (.v (ai a))) (some (.v (bT ⟨ls,o⟩))) (some (.v (E2 (place L (bg o))))) r6) [.dct ks vs]=some r→bd (run aj (n+61)) (.two 3 4) KU (wM (⟨ls,o⟩,a)) (nX (told L) (some (.v (an L))) (some (.cell 0)) r3 r4 r5 r6) [.dct ks vs]=some r:=fun {n r3 r4 r5 r6 r} h=>
  show aH _ KU (nX (told L) (some (.v (an L))) (some (.cell 0)) (some (.v (ai a))) (some (.v (bT ⟨ls,o⟩))) r5 r6) _=_ from av (Mb (n:=n+1)) h
 cases hb:((place L (bg o)).isSome&&o.any H4) with
 |false=>
  refine ⟨ks,vs,D.skip fun m t g q=> ?_,fun n r3 r4 r5 r6=>⟨_,_,go (bk (bc (n:=n+60) (JN (n:=n+8) o _ ho) (by rw [hb];rfl)))⟩⟩
  obtain ⟨ls',e⟩:=q.row
  rw [hl] at e
  cases e
  rw [show place L (bg (some (.jump m t)))=some g from q.plc,show (some (cq.jump m t)).any H4=true from q.bw] at hb
  cases hb
 |true=>
  obtain ⟨b1,b2⟩:=Nz.mp hb
  obtain ⟨g,hg⟩:=Oq.mp b1
  cases o with
  |none=>cases b2
  |some i=>cases i with
   |ret=>cases b2
   |mov=>cases b2
   |jump m t=>
    have hz:(gr L a g).length≤1000:=by
     unfold gr
     split
     ·exact Nt (gQ _ _ S) (by decide)
     ·exact Nt (gQ _ _ S) (by decide)
    have hk:ks.length≤1000:=Nt D.le (Nt (NY ha) S.len')
    refine ⟨_,_,D.put U ⟨⟨ls,hl⟩,b2,hg⟩,fun n r3 r4 r5 r6=>⟨_,_,go (bk (bc (n:=n+60) (JN (n:=n+8) (some (.jump m t)) _ ho) (by
     rw [hb,show place L (bg (some (.jump m t)))=some g from hg]
     exact av (Ml (n:=n+8) ha (fi hg)) (bk (Mh (n:=n+9) hz hk)))))⟩⟩
theorem FP (S:bX L) (h0:[]∉aq L) (U:((items L).filterMap Itm.lp?).Nodup):∀(xs:List ah) a ks vs,yN L a ks vs→L.drop a=xs→∃ks' vs',yN L (a+xs.length) ks' vs'∧KY L (xs.zipIdx a) ks vs ks' vs':=by
 intro xs
 induction xs with
 |nil=>exact fun a ks vs D _=>⟨ks,vs,D,fun n r3 r4 r5 r6=>⟨_,_,_,_,rfl⟩⟩
 |cons l xs ih=>
  intro a ks vs D hd
  have hl:L[a]? =some l:=by
   have:=NC (·[0]?) hd
   simp only [PK,Nat.add_zero] at this
   exact this
  refine Np fun nG=> ?_
  obtain ⟨k1,v1,D1,t1⟩:=EK S h0 U D hl
  obtain ⟨k2,v2,D2,t2⟩:=ih (a+1) k1 v1 D1 (by
   have:=NC List.tail hd
   rw [List.tail_drop] at this;exact this)
  refine nG ?_
  refine ⟨k2,v2,?_,fun n r3 r4 r5 r6=> ?_⟩
  ·rw [Ph] at D2;exact D2
  ·obtain ⟨s5,s6,e1⟩:=t1 n r3 r4 r5 r6
   refine Np fun nG=> ?_
   obtain ⟨u3,u4,u5,u6,e2⟩:=t2 n (some (.v (ai a))) (some (.v (bT l))) s5 s6
   refine nG ?_
   refine ⟨u3,u4,u5,u6,?_⟩
   rw [Qs,NJ,aQ,e1]
   exact e2
theorem sD (S:bX L) (h0:[]∉aq L) (U:((items L).filterMap Itm.lp?).Nodup):∃ks vs,yN L L.length ks vs∧mH 80 42 [told L] (.dct ks vs):=by
 refine Np fun nG=> ?_
 obtain ⟨ks,vs,D,go⟩:=FP S h0 U L 0 [] [] ⟨rfl,NI 0,fun k v h=>(nomatch h),fun s m t g h=>absurd h (PS s)⟩ rfl
 refine nG ?_
 rw [Ow] at D
 refine ⟨ks,vs,D,fun n=> ?_⟩
 refine Np fun nG=> ?_
 obtain ⟨r3,r4,r5,r6,e⟩:=go (n+17) none none none none
 refine nG ?_
 have hi:dN (run aj (n+78)) (.enum (.var 0)) (nX (told L) (some (.v (an L))) (some (.cell 0)) none none none none) [.dct [] []]=some ((L.zipIdx 0).map wM,[.dct [] []]):=by
  show some (jh 0 (L.map bT),_)=_
  rw [nv]
 exact bV (n:=n+79) (fn:=j0) (W:= .cell 0) rfl rfl
  (av (aD (n:=n+78) rfl (Cu (n:=n+38) S) rfl) (av (ρ':=nX (told L) (some (.v (an L))) (some (.cell 0)) none none none none) (σ':=[.dct [] []]) rfl (av (f8 (n:=n+78) (t:= .two 3 4) (body:=KU) hi e) (dW (n:=n+78) rfl)))) rfl
end
section
variable {n j k g a s:Nat} {L:List ah} {l l' x:ah} {m:Nm} {t:Sg} {w:Bool} {i:Int} {y:Sg} {v:V}
theorem vN (h:v∈hK L):∃l∈L,∃w i y,l.ins=some (.mov w i y)∧v= .int i:=by
 obtain ⟨l,m,e⟩:=Pk.mp h
 refine ⟨l,m,?_⟩
 obtain ⟨ls,o⟩:=l
 cases o with
 |none=>cases e
 |some x=>cases x with
  |jump=>cases e
  |ret=>cases e
  |mov w i y=>cases e;exact ⟨w,i,y,rfl,rfl⟩
theorem yy {i j:Nat} (h:l∈(L.take j).drop i):∃k,i≤k∧k <j∧L[k]? =some l:=by
 obtain ⟨q,hq⟩:=Oy.mp h
 rw [PK] at hq
 have lt:i+q <j:=by
  rcases Qt (i+q) j with z|z
  ·exact z
  ·rw [List.getElem?_take_eq_none z] at hq;cases hq
 rw [QR lt] at hq
 exact ⟨i+q,Oj _ _,lt,hq⟩
theorem GK {i j k:Nat} {l1 l2 l3:ah} (h1:L[i]? =some l1) (h2:L[j]? =some l2) (h3:L[k]? =some l3) (a:i <j) (b:j <k):[l1,l2,l3].Sublist L:=by
 have h2':(L.drop (i+1))[j -(i+1)]? =some l2:=by rw [PK,Qi a];exact h2
 have h3':(L.drop (i+1))[k -(i+1)]? =some l3:=by rw [PK,Qi (PE a b)];exact h3
 rw [gR h1]
 exact (Tm l1 (CY h2' h3' (Nat.sub_lt_sub_right a b))).trans (Oh _ _)
theorem Dm {l1 l2 l3:ah} {p q r:Itm} (h:[l1,l2,l3].Sublist L) (m1:p∈jJ l1) (m2:q∈jJ l2) (m3:r∈jJ l3):[p,q,r].Sublist (items L):=
 ((Pp.mpr m1).append ((Pp.mpr m2).append ((Pp.mpr m3).append (Vp [])))).trans (ju h)
theorem vS (h:l.ins=some (.mov w i y)): .mv w i y∈jJ l:=NG.mpr (.inr (by rw [h];exact .head _))
theorem Bc {x:Sg} (h:x∈l.labs): .lab x∈jJ l:=NG.mpr (.inl (O1 h))
theorem A5 (h:oG L s m t g) (hv:v∈hK (gr L s g)):∃w i y,v= .int i∧Lw (items L) m t w i y:=by
 refine Np fun nG=> ?_
 obtain ⟨l,ml,w,i,y,e,rfl⟩:=vN hv
 refine nG ?_
 refine ⟨w,i,y,rfl,?_⟩
 refine Np fun nG=> ?_
 obtain ⟨lg,hg,tg⟩:=iC h.plc
 obtain ⟨ls,hs,ms,_⟩:=qk h
 refine nG ?_
 unfold gr at ml
 by_cases z:g≤s
 ·rw [NP z] at ml
  obtain ⟨k,k1,k2,hk⟩:=yy ml
  refine .inr ?_
  rcases OW k1 with q|q
  ·exact Dm (GK hg hk hs q k2) (Bc tg) (vS e) ms
  ·subst q
   rw [hk] at hg
   refine Np fun nG=> ?_
   cases hg
   refine nG ?_
   have s1:[Itm.lab t,.mv w i y].Sublist (jJ l):=(Pp.mpr (O1 tg)).append (Pp.mpr (by rw [e];exact .head _))
   exact (s1.append ((Pp.mpr ms).append (Vp []))).trans (ju (CY hk hs k2))
 ·rw [N4 z] at ml
  obtain ⟨k,k1,k2,hk⟩:=yy ml
  exact .inl (Dm (GK hs hk hg k1 k2) ms (vS e) (Bc tg))
noncomputable def rk (k:Nat) (L:List ah):List (Itm×Nat):=List.rec (motive:=fun _=>Nat→List (Itm×Nat)) (fun _=>[]) (fun l _ ih k=>l.labs.map (fun x=>(.lab x,2*k))++((jV l.ins).map (fun g=>(g,2*k+1))++ih (k+1))) L k
theorem Cf:∀(L:List ah) (k:Nat),(rk k L).map (·.1)=items L
 |[],_=>rfl
 |l::L,k=>by
  show (l.labs.map (fun x=>(Itm.lab x,2*k))++((jV l.ins).map (fun g=>(g,2*k+1))++rk (k+1) L)).map (·.1)=_
  rw [N1,N1,OP,OP,Cf L (k+1),aR,jJ,NR]
  congr 2
  exact Vx _
theorem tP:∀{L:List ah} {k:Nat} {p:Itm×Nat},p∈rk k L→∃j l,L[j]? =some l∧((p.1∈l.labs.map Itm.lab∧p.2=2*(k+j))∨(p.1∈jV l.ins∧p.2=2*(k+j)+1))
 |[],_,_,h=>nomatch h
 |l::L,k,p,h=>by
  rcases NG.mp h with h|h
  ·obtain ⟨x,m,e⟩:=Op.mp h
   exact ⟨0,l,rfl,.inl ⟨by rw [←e];exact O1 m,by rw [←e];rfl⟩⟩
  ·rcases NG.mp h with h|h
   ·obtain ⟨x,m,e⟩:=Op.mp h
    exact ⟨0,l,rfl,.inr ⟨by rw [←e];exact m,by rw [←e];rfl⟩⟩
   ·obtain ⟨j,l',q,r⟩:=tP h
    exact ⟨j+1,l',q,by rw [←OA,Si];exact r⟩
theorem Gz {L:List ah} {k:Nat} {p:Itm×Nat} (h:p∈rk k L):2*k≤p.2:=by
 obtain ⟨j,l,_,q⟩:=tP h
 rcases q with ⟨_,q⟩|⟨_,q⟩<;>rw [q]<;>omega
theorem ss:∀(L:List ah) (k:Nat),(rk k L).Pairwise fun p q=>p.2≤q.2
 |[],_=>List.Pairwise.nil
 |l::L,k=>by
  refine TW.mpr ⟨Su.mpr (S9 fun _ _=>NI _),TW.mpr ⟨Su.mpr (S9 fun _ _=>NI _),ss L (k+1),fun p hp q hq=> ?_⟩,fun p hp q hq=> ?_⟩
  ·obtain ⟨_,_,e⟩:=Op.mp hp
   have:=Gz hq
   rw [←e]
   show 2*k+1≤q.2
   omega
  ·obtain ⟨_,_,e⟩:=Op.mp hp
   rw [←e]
   show 2*k≤q.2
   rcases NG.mp hq with hq|hq
   ·obtain ⟨_,_,e⟩:=Op.mp hq
    rw [←e];exact NZ _
   ·have:=Gz hq;omega
theorem G9 {p q r:Itm} (h:[p,q,r].Sublist (items L)):∃a b c,(p,a)∈rk 0 L∧(q,b)∈rk 0 L∧(r,c)∈rk 0 L∧a≤b∧b≤c:=by
 refine Np fun nG=> ?_
 rw [←Cf L 0] at h
 obtain ⟨s,hs,e⟩:=List.sublist_map_iff.mp h
 obtain ⟨x,s1,e1,e2,e⟩:=RJ.mp e.symm
 obtain ⟨y,s2,e3,e4,e⟩:=RJ.mp e
 obtain ⟨z,s3,e5,e6,e⟩:=RJ.mp e
 rw [e1,e3,e5] at hs
 have pw:=(ss L 0).sublist hs
 exact nG ⟨x.2,y.2,z.2,e2▸hs.mem (.head _),e4▸hs.mem (.tail _ (.head _)),e6▸hs.mem (.tail _ (.tail _ (.head _))),(Sj.mp pw).1 _ (.head _),(Sj.mp (Sj.mp pw).2).1 _ (.head _)⟩
theorem Ce {p:Itm} {r:Nat} (h:(p,r)∈rk 0 L) (hp:∀x,p≠ .lab x):∃j l,L[j]? =some l∧p∈jV l.ins∧r=2*j+1:=by
 refine Np fun nG=> ?_
 obtain ⟨j,l,q,z⟩:=tP h
 refine nG ?_
 rw [Ow] at z
 rcases z with ⟨z,_⟩|⟨z,e⟩
 ·obtain ⟨x,_,e⟩:=Op.mp z
  exact (hp x e.symm).elim
 ·exact ⟨j,l,q,z,e⟩
theorem Ic {x:Sg} {r:Nat} (h:(.lab x,r)∈rk 0 L):∃j l,L[j]? =some l∧x∈l.labs∧r=2*j:=by
 refine Np fun nG=> ?_
 obtain ⟨j,l,q,z⟩:=tP h
 refine nG ?_
 rw [Ow] at z
 rcases z with ⟨z,e⟩|⟨z,_⟩
 ·obtain ⟨y,m,e2⟩:=Op.mp z
  cases e2
  exact ⟨j,l,q,m,e⟩
 ·exact mX z (fun _ _ _ e _=>nomatch e) (fun _ _ e=>nomatch e) fun _ _ _ _ e=>nomatch e
theorem HF {o:Nr cq} (h: .lp m t∈jV o):o=some (.jump m t)∧H4 (.jump m t)=true:=
 mX h (fun m' t' e1 e2 hl=>by
  have e:=Itm.lp.inj e2
  rw [e.1,e.2];exact ⟨e1,by cases m'<;>first|rfl|cases hl⟩) (fun _ _ e=>nomatch e) fun _ _ _ _ e=>nomatch e
theorem Cg {o:Nr cq} (h: .mv w i y∈jV o):o=some (.mov w i y):=
 mX h (fun _ _ _ e _=>nomatch e) (fun _ _ e=>nomatch e) fun _ _ _ e1 e2=>by have e:=Itm.mv.inj e2;rw [e.1,e.2.1,e.2.2];exact e1
theorem FC (h:L[k]? =some l) (e:l.ins=some (.mov w i y)) {M:List ah} (hm:l∈M):V.int i∈hK M:=Pk.mpr ⟨l,hm,by unfold AA;rw [e]⟩
theorem Aw (hn:(aq L).Nodup) (b:Lw (items L) m t w i y):∃s g,oG L s m t g∧V.int i∈hK (gr L s g):=by
 have fin:∀{a b c},(Itm.lp m t,a)∈rk 0 L→(Itm.mv w i y,b)∈rk 0 L→(Itm.lab t,c)∈rk 0 L→(a≤b∧b≤c)∨(c≤b∧b≤a)→∃s g,oG L s m t g∧V.int i∈hK (gr L s g):=fun {a b c} h1 h2 h3 h=>by
  refine Np fun nG=> ?_
  obtain ⟨s,l1,q1,m1,e1⟩:=Ce h1 fun x z=>nomatch z
  obtain ⟨k,l2,q2,m2,e2⟩:=Ce h2 fun x z=>nomatch z
  obtain ⟨g,l3,q3,m3,e3⟩:=Ic h3
  obtain ⟨i1,b1⟩:=HF m1
  have i2:=Cg m2
  have ne:s≠k:=fun z=>by
   subst z
   rw [q1] at q2
   cases q2
   rw [i1] at i2
   cases i2
  subst e1 e2 e3
  refine nG ?_
  refine ⟨s,g,⟨⟨l1.labs,by rw [q1,←i1]⟩,b1,lZ hn q3 m3⟩,FC q2 i2 ?_⟩
  unfold gr
  rcases h with ⟨h,h'⟩|⟨h,h'⟩
  ·rw [N4 (by omega)];exact gu q2 (by omega) (by omega)
  ·rw [NP (by omega)];exact gu q2 (by omega) (by omega)
 rcases b with b|b
 ·obtain ⟨a,b,c,h1,h2,h3,h4,h5⟩:=G9 b;exact fin h1 h2 h3 (.inl ⟨h4,h5⟩)
 ·obtain ⟨a,b,c,h1,h2,h3,h4,h5⟩:=G9 b;exact fin h3 h2 h1 (.inr ⟨h4,h5⟩)
end
section
variable {n j k g a s:Nat} {L G:List ah} {y:Sg} {i:Int}
noncomputable def dX (i:Int) (y:Sg) (G:List ah):List ah:=⟨[[98]],some (.mov true i y)⟩::G
theorem Co (h:G≠[]):(dX i y G).dropLast=⟨[[98]],some (.mov true i y)⟩::G.dropLast:=by
 cases G with
 |nil=>exact (h rfl).elim
 |cons g G=>rfl
theorem Fk {r1 r2:Nr aA} (hG:G≠[]) (h0:[]∉aq (dX i y G)) (hy:y∈aq (dX i y G)) (hi:i≠0):∃r1' r2',(run aj (n+80)).s (.for_ (.one 1) (.seq (.slc (.var 0) none (some (.neg 1)))) qY) (jS (dX i y G) r1 r2 (some (.v (an (dX i y G))))) []=some (.exc,jS (dX i y G) r1' r2' (some (.v (an (dX i y G)))),[]):=by
 let o1:V:= .inst .reg [.str [114,101,103],v4 true]
 let o2:V:= .inst .imm [.str [105,109,109],.int i,.str y]
 let l:ah:=⟨[[98]],some (.mov true i y)⟩
 have e1:=ve (n:=n+18) (L:=dX i y G) (r1:=some (.v (ay l))) (r2:=r2) (o:=o1) (x:=[]) (b:=false) rfl (fun h=>by rw [lQ h0] at h;cases h) fun _=>rfl
 have e2:=ve (n:=n+18) (L:=dX i y G) (r1:=some (.v (ay l))) (r2:=some (.v o1)) (o:=o2) (x:=y) (b:=true) rfl (fun h=>⟨i,rfl,by rw [N0 hi];rfl⟩) fun h=>by
  rw [←ik,NF hy] at h;cases h
 have hi2:dN (run aj (n+78)) (.seq (.attr (.attr (.var 1) .instruction) .operands)) (jS (dX i y G) (some (.v (ay l))) r2 (some (.v (an (dX i y G))))) []=some ([o1,o2],[]):=rfl
 have inner:(run aj (n+79)).s (.for_ (.one 2) (.seq (.attr (.attr (.var 1) .instruction) .operands)) FD) (jS (dX i y G) (some (.v (ay l))) r2 (some (.v (an (dX i y G))))) []=some (.exc,jS (dX i y G) (some (.v (ay l))) (some (.v o2)) (some (.v (an (dX i y G)))),[]):=by
  refine f8 (n:=n+78) (t:= .one 2) (body:=FD) hi2 ?_
  show fm (bd (run aj (n+78)) (.one 2) FD) [o1,o2] _ _=_
  rw [aQ,e1]
  show fm (bd (run aj (n+78)) (.one 2) FD) [o2] _ _=_
  rw [aQ,e2];rfl
 refine ⟨some (.v (ay l)),some (.v o2),?_⟩
 refine f8 (n:=n+79) (t:= .one 1) (body:=qY) (sT (n:=n+76) (k:=0)) ?_
 rw [Co hG]
 show fm (bd (run aj (n+79)) (.one 1) qY) (ay l::G.dropLast.map ay) _ _=_
 rw [aQ]
 have:bd (run aj (n+79)) (.one 1) qY (ay l) (jS (dX i y G) r1 r2 (some (.v (an (dX i y G))))) []=some (.exc,jS (dX i y G) (some (.v (ay l))) (some (.v o2)) (some (.v (an (dX i y G)))),[]):=by
  show aH (run aj (n+79)) [_] (jS (dX i y G) (some (.v (ay l))) r2 (some (.v (an (dX i y G))))) []=_
  rw [iV];exact inner
 rw [this];rfl
theorem uS (S:bX (dX i y G)) (T:Tg (dX i y G)) (hG:G≠[]) (h0:[]∉aq (dX i y G)) (hy:y∈aq (dX i y G)) (hi:i≠0) (n:Nat):∃r,aH (run aj (n+300)) aU.body (jS (dX i y G) none none none) []=some r∧r.1= .exc:=by
 refine Np fun nG=> ?_
 obtain ⟨a,b,h⟩:=Df (n:=n+210) (cs:=[.for_ (.one 1) (.seq (.slc (.var 0) none (some (.neg 1)))) qY]) S T
 obtain ⟨c,d,e⟩:=Fk (n:=n+220) (r1:=a) (r2:=b) hG h0 hy hi
 exact nG ⟨_,h _ (by rw [iV];exact e),rfl⟩
theorem nV {P0:List Itm} (I:Inv P0 L) (hn:nlab L≤100) (F:xb L) (n:Nat):(run aj (n+302)).s (.expr (.callF 32 [.var 0])) [some (.v (lst L))] []=some (.next,[some (.v (lst L))],[]):=by
 refine Np fun nG=> ?_
 obtain ⟨Lf,r,D⟩:=pL I hn F
 exact nG (tA (n:=n+301) (us:=[lst L]) (Us:=[.v (lst L)]) rfl rfl (r (n+91)))
end
section
variable {n j k g a s:Nat} {L G:List ah} {u:V} {σ:ag} {a2 a4 a5 a6 a7 a8 a9 a10 a11 a12 a13 a14 a15:Nr aA}
noncomputable def lw (u:V) (a2 a4 a5 a6 a7 a8 a9 a10 a11 a12 a13 a14 a15:Nr aA):Loc:=[some (.v u),some (.cell 0),a2,some (.cell 1),a4,a5,a6,a7,a8,a9,a10,a11,a12,a13,a14,a15,none,none,none,none,none,none,none,none,none]
noncomputable def Nd:CE:= .cmp (.comp (.var 19) [(.mk (.one 19) (.seq (.idx (.var 10) (.var 11))) [(.cmp (.var 19) .nin (.idx (.var 9) (.var 11)))])]) .ne (.lst [])
noncomputable def LC:List CS:=[.ite Nd [.ret (.cst (.bool false))] []]
theorem FL {v:V} {ys:List V} (h:v∈ys) (hy:∀y∈ys,∃i,y= .int i):Dg v (.lst ys)=some true:=by
 have d:V.dats ys=true∧V.deps ys=0:=by
  clear h
  induction ys with
  |nil=>exact ⟨rfl,rfl⟩
  |cons y ys ih=>
   obtain ⟨i,rfl⟩:=hy y (.head _)
   obtain ⟨h1,h2⟩:=ih fun y m=>hy y (.tail _ m)
   exact ⟨h1,by show max 0 (V.deps ys)=0;rw [h2];rfl⟩
 obtain ⟨i,rfl⟩:=hy v h
 have:gY (.int i) ys=true:=by
  show (V.dats ys&&(decide ((V.int i).dep≤60)&&decide (V.deps ys≤60)))=true
  rw [d.1,d.2];rfl
 show (if gY (.int i) ys=true then _ else none)=_
 rw [NP this,NF h]
theorem Ap (y:V) (h:y∈hK L):∃i,y= .int i:=let ⟨_,_,_,i,_,_,e⟩:=vN h;⟨i,e⟩
theorem jg {α:Type}:∀xs:List α,(xs.flatMap fun _=>([]:List V))=[]
 |[]=>rfl
 |_::xs=>jg xs
theorem rS {E:Ev} {t:kT} {e:CE} {rest:Loc→ag→Nr (List V×ag)} {ρ ρ':Loc} {x:V} (hb:gT t x ρ=some ρ') (h:cv E e ρ' σ=some (false,σ)):ji E t [e] rest ρ x σ=some ([],σ):=by
 unfold ji
 rw [hb]
 show NT (NT (cv E e ρ' σ) _) _=_
 rw [h];rfl
theorem El {ks ks':List Sg} {vs vs':List V} {x:Sg} {xs:List V} (h1:f0 ks' vs' x=some (.lst xs)) (h2:∀v∈xs,∃ys,f0 ks vs x=some (.lst ys)∧v∈ys∧∀y∈ys,∃i,y= .int i):
  bd (run aj (n+60)) (.one 11) LC (.str x) (lw u a2 a4 a5 a6 a7 a8 (some (.v (.dct ks vs))) (some (.v (.dct ks' vs'))) a11 a12 a13 a14 a15) σ=some (.next,lw u a2 a4 a5 a6 a7 a8 (some (.v (.dct ks vs))) (some (.v (.dct ks' vs'))) (some (.v (.str x))) a12 a13 a14 a15,σ):=by
 have c:(run aj (n+58)).e (.comp (.var 19) [(.mk (.one 19) (.seq (.idx (.var 10) (.var 11))) [(.cmp (.var 19) .nin (.idx (.var 9) (.var 11)))])]) (lw u a2 a4 a5 a6 a7 a8 (some (.v (.dct ks vs))) (some (.v (.dct ks' vs'))) (some (.v (.str x))) a12 a13 a14 a15) σ=some (.own (.lst []),σ):=by
  have h:=g9 (n:=n+57) (elt:= .var 19) (t:= .one 19) (it:= .seq (.idx (.var 10) (.var 11))) (ifs:=[(.cmp (.var 19) .nin (.idx (.var 9) (.var 11)))]) (gs:=[]) (ρ:=lw u a2 a4 a5 a6 a7 a8 (some (.v (.dct ks vs))) (some (.v (.dct ks' vs'))) (some (.v (.str x))) a12 a13 a14 a15) (σ:=σ) (xs:=xs) (enc:=id) (g:=fun _=>[])
   (by rw [uD,cC (fN (n:=n+56) (cM (U:= .v (.dct ks' vs')) (W:= .v (.str x)) rfl rfl rfl rfl) (show i3 (.dct ks' vs') (.str x)=_ from h1)) rfl,Vx];rfl) (fun v m=>by
    refine Np fun nG=> ?_
    obtain ⟨ys,e1,e2,e3⟩:=h2 v m
    refine nG ?_
    have q:=bJ (n:=n+56) (o:= .nin) (a:= .var 19) (b:= .idx (.var 9) (.var 11)) (ρ:=[some (.v u),some (.cell 0),a2,some (.cell 1),a4,a5,a6,a7,a8,some (.v (.dct ks vs)),some (.v (.dct ks' vs')),some (.v (.str x)),a12,a13,a14,a15,none,none,none,some (.v v),none,none,none,none,none]) (σ:=σ) (U:= .v v) rfl rfl (fN (n:=n+55) (cM (U:= .v (.dct ks vs)) (W:= .v (.str x)) rfl rfl rfl rfl) (show i3 (.dct ks vs) (.str x)=_ from e1)) rfl (by rw [bH,FL e2 e3];rfl)
    exact rS rfl q) (by rw [jg];exact Oe _)
  rw [jg] at h
  exact h
 exact bk (bc (n:=n+59) (b:=false) (bJ (n:=n+58) (o:= .ne) (W:= .own (.lst [])) c rfl rfl rfl rfl) rfl)
theorem EW {ks ks':List Sg} {vs vs':List V}:∀(xs:List Sg) a11,(∀x∈xs,∃ws,f0 ks' vs' x=some (.lst ws)∧∀v∈ws,∃ys,f0 ks vs x=some (.lst ys)∧v∈ys∧∀y∈ys,∃i,y= .int i)→
  ∃a11',fm (bd (run aj (n+60)) (.one 11) LC) (xs.map .str) (lw u a2 a4 a5 a6 a7 a8 (some (.v (.dct ks vs))) (some (.v (.dct ks' vs'))) a11 a12 a13 a14 a15) σ=some (.next,lw u a2 a4 a5 a6 a7 a8 (some (.v (.dct ks vs))) (some (.v (.dct ks' vs'))) a11' a12 a13 a14 a15,σ):=by
 intro xs
 induction xs with
 |nil=>exact fun a11 _=>⟨a11,rfl⟩
 |cons x xs ih=>
  intro a11 h
  refine Np fun nG=> ?_
  obtain ⟨ws,h1,h2⟩:=h x (.head _)
  obtain ⟨b,e⟩:=ih (some (.v (.str x))) fun y m=>h y (.tail _ m)
  refine nG ?_
  exact ⟨b,by rw [NJ,aQ,El h1 h2];exact e⟩
theorem su:∀{ks:List Sg} {vs:List V} {x:Sg},ks.length=vs.length→x∈ks→∃v,f0 ks vs x=some v
 |[],_,_,_,h=>nomatch h
 |_::_,[],_,h,_=>nomatch h
 |k::ks,v::vs,x,hl,h=>by
  show∃w,(if k=x then some v else f0 ks vs x)=some w
  by_cases z:k=x
  ·exact ⟨v,NP z⟩
  ·rw [N4 z]
   exact su (PX hl) ((NW.mp h).resolve_left fun e=>z e.symm)
theorem Bq {ks ks':List Sg} {vs vs':List V} (hn:(aq G).Nodup) (C:kN (items G) (items L)) (D:yN G G.length ks vs) (D':yN L L.length ks' vs') (x:Sg) (hx:x∈ks'):∃ws,f0 ks' vs' x=some (.lst ws)∧∀v∈ws,∃ys,f0 ks vs x=some (.lst ys)∧v∈ys∧∀y∈ys,∃i,y= .int i:=by
 refine Np fun nG=> ?_
 obtain ⟨v,hv⟩:=su D'.len hx
 obtain ⟨s,m,t,g,q,rfl,rfl⟩:=D'.sound x v hv
 refine nG ?_
 refine ⟨_,hv,fun v mv=> ?_⟩
 refine Np fun nG=> ?_
 obtain ⟨w,i,y,rfl,b⟩:=A5 q mv
 obtain ⟨s0,g0,q0,m0⟩:=Aw hn (C.span _ _ _ _ _ b)
 obtain ⟨ls,hs⟩:=q0.row
 refine nG ?_
 exact ⟨_,D.compl s0 m t g0 (NA.mp hs).1 q0,m0,fun y my=>Ap y my⟩
noncomputable def Nh:CE:= .var 21
noncomputable def Nf:List CG:=[(.mk (.one 20) (.seq (.var 8)) []),(.mk (.one 21) (.seq (.idx (.var 20) (.cst (.int 0)))) [])]
theorem rX:∀L:List ah,(L.flatMap fun l=>l.labs.map V.str)=(aq L).map V.str
 |[]=>rfl
 |l::L=>by
  rw [Pv,rX L]
  show _=(l.labs++aq L).map V.str
  rw [N1]
theorem w9:dZ (run aj (n+60)) Nh Nf (lw u a2 a4 a5 a6 a7 (some (.v (told L))) a9 a10 a11 a12 a13 a14 a15) σ=some ((aq L).map .str,σ):=by
 have h:=tM (n:=n+60) (elt:= .var 21) (t:= .one 20) (it:= .seq (.var 8)) (ifs:=[]) (gs:=[(.mk (.one 21) (.seq (.idx (.var 20) (.cst (.int 0)))) [])]) (ρ:=lw u a2 a4 a5 a6 a7 (some (.v (told L))) a9 a10 a11 a12 a13 a14 a15) (σ:=σ) (xs:=L) (enc:=bT) (g:=fun l=>l.labs.map .str) rfl (fun l _=>by
  have q:=jE (f:=ji (run aj (n+60)) (.one 21) [] (dZ (run aj (n+60)) (.var 21) []) [some (.v u),some (.cell 0),a2,some (.cell 1),a4,a5,a6,a7,some (.v (told L)),a9,a10,a11,a12,a13,a14,a15,none,none,none,none,some (.v (bT l)),none,none,none,none]) (enc:=V.str) (g:=fun x=>[V.str x]) (σ:=σ) (xs:=l.labs) fun x _=>rfl
  rw [gi] at q
  exact q)
 rw [rX] at h
 exact h
noncomputable def callS (l:ah):List Sg:=match l.ins with
 |some (.jump m t)=>match m with
  | .call=>[t]
  | .jmp=>[]
  | .jrcxz=>[]
  | .loop=>[]
  | .loope=>[]
  | .loopne=>[]
  | .je=>[]
  | .jne=>[]
  | .jae=>[]
  | .jb=>[]
 |some .ret=>[]
 |some (.mov _ _ _)=>[]
 |none=>[]
noncomputable def hO (L:List ah):List Sg:=L.flatMap callS
noncomputable def Lb:CE:= .callF 41 [(.idx (.var 22) (.cst (.int 1)))]
noncomputable def Mm:List CG:=[(.mk (.one 22) (.seq (.var 8)) [(.and [(.cmp (.idx (.var 22) (.cst (.int 1))) .ne (.tup [])),(.cmp (.idx (.idx (.var 22) (.cst (.int 1))) (.cst (.int 0))) .eq (.cst (.str [99,97,108,108])))])])]
theorem pO:∀L:List ah,(L.flatMap fun l=>(callS l).map V.str)=(hO L).map V.str
 |[]=>rfl
 |l::L=>by
  rw [Pv,pO L]
  show _=(callS l++hO L).map V.str
  rw [N1]
theorem Jh:dZ (run aj (n+60)) Lb Mm (lw u a2 a4 a5 a6 a7 (some (.v (told L))) a9 a10 a11 a12 a13 a14 a15) σ=some ((hO L).map .str,σ):=by
 have h:=tM (n:=n+60) (elt:=Lb) (t:= .one 22) (it:= .seq (.var 8)) (ifs:=[(.and [(.cmp (.idx (.var 22) (.cst (.int 1))) .ne (.tup [])),(.cmp (.idx (.idx (.var 22) (.cst (.int 1))) (.cst (.int 0))) .eq (.cst (.str [99,97,108,108])))])]) (gs:=[]) (ρ:=lw u a2 a4 a5 a6 a7 (some (.v (told L))) a9 a10 a11 a12 a13 a14 a15) (σ:=σ) (xs:=L) (enc:=bT) (g:=fun l=>(callS l).map .str) rfl (fun l _=>by
  obtain ⟨ls,o⟩:=l
  cases o with
  |none=>kernel_rfl
  |some i=>cases i with
   |jump m t=>cases m<;>kernel_rfl
   |ret=>kernel_rfl
   |mov=>kernel_rfl)
 rw [pO] at h
 exact h
theorem uB {t:Sg} (h:t∈hO L): .call t∈items L:=by
 refine Np fun nG=> ?_
 obtain ⟨l,m1,m2⟩:=Po.mp h
 obtain ⟨ls,o⟩:=l
 refine nG ?_
 refine Po.mpr ⟨_,m1,NG.mpr (.inr ?_)⟩
 cases o with
 |none=>cases m2
 |some i=>cases i with
  |ret=>cases m2
  |mov=>cases m2
  |jump m x=>cases m<;>first|(cases m2;done)|(cases N3.mp m2;exact .head _)
noncomputable def Mg:CE:= .cmp (.comp (.var 23) [(.mk (.one 23) (.seq (.var 13)) [(.or [(.cmp (.var 23) .in_ (.var 12)),(.cmp (.var 23) .nin (.comp (.callF 41 [(.idx (.var 24) (.cst (.int 1)))]) [(.mk (.one 24) (.seq (.var 6)) [])]))])])]) .ne (.lst [])
theorem Nl {xs ys:List Sg} (hz:G.length≤1000) (h1:∀x∈xs,x∉ys) (h2:∀x∈xs,x∈G.map fun l=>bg l.ins):cv (run aj (n+60)) Mg (lw u a2 a4 a5 (some (.v (told G))) a7 a8 a9 a10 a11 (some (.v (.lst (ys.map .str)))) (some (.v (.lst (xs.map .str)))) a14 a15) σ=some (false,σ):=by
 have c:(run aj (n+59)).e (.comp (.var 23) [(.mk (.one 23) (.seq (.var 13)) [(.or [(.cmp (.var 23) .in_ (.var 12)),(.cmp (.var 23) .nin (.comp (.callF 41 [(.idx (.var 24) (.cst (.int 1)))]) [(.mk (.one 24) (.seq (.var 6)) [])]))])])]) (lw u a2 a4 a5 (some (.v (told G))) a7 a8 a9 a10 a11 (some (.v (.lst (ys.map .str)))) (some (.v (.lst (xs.map .str)))) a14 a15) σ=some (.own (.lst []),σ):=by
  have h:=g9 (n:=n+58) (elt:= .var 23) (t:= .one 23) (it:= .seq (.var 13)) (ifs:=[(.or [(.cmp (.var 23) .in_ (.var 12)),(.cmp (.var 23) .nin (.comp (.callF 41 [(.idx (.var 24) (.cst (.int 1)))]) [(.mk (.one 24) (.seq (.var 6)) [])]))])]) (gs:=[]) (ρ:=lw u a2 a4 a5 (some (.v (told G))) a7 a8 a9 a10 a11 (some (.v (.lst (ys.map .str)))) (some (.v (.lst (xs.map .str)))) a14 a15) (σ:=σ) (xs:=xs) (enc:=V.str) (g:=fun _=>[]) rfl
   (fun x m=>by
    generalize hr:([some (.v u),some (.cell 0),a2,some (.cell 1),a4,a5,some (.v (told G)),a7,a8,a9,a10,a11,some (.v (.lst (ys.map .str))),some (.v (.lst (xs.map .str))),a14,a15,none,none,none,none,none,none,none,some (.v (.str x)),none]:Loc)=ρ
    have q1:cv (run aj (n+57)) (.cmp (.var 23) .in_ (.var 12)) ρ σ=some (false,σ):=by
     refine Np fun nG=> ?_
     subst hr
     refine nG ?_
     exact bJ (n:=n+56) (o:= .in_) (U:= .v (.str x)) (W:= .v (.lst (ys.map .str))) rfl rfl rfl rfl (by rw [cL,bI,N0 (h1 x m)])
    have q2:(run aj (n+56)).e (.comp (.callF 41 [(.idx (.var 24) (.cst (.int 1)))]) [(.mk (.one 24) (.seq (.var 6)) [])]) ρ σ=some (.own (.lst ((G.map fun l=>bg l.ins).map .str)),σ):=by
     subst hr
     have h:=g9 (n:=n+55) (elt:= .callF 41 [(.idx (.var 24) (.cst (.int 1)))]) (t:= .one 24) (it:= .seq (.var 6)) (ifs:=[]) (gs:=[]) (ρ:=[some (.v u),some (.cell 0),a2,some (.cell 1),a4,a5,some (.v (told G)),a7,a8,a9,a10,a11,some (.v (.lst (ys.map .str))),some (.v (.lst (xs.map .str))),a14,a15,none,none,none,none,none,none,none,some (.v (.str x)),none]) (σ:=σ) (xs:=G) (enc:=bT) (g:=fun l=>[V.str (bg l.ins)]) rfl
      (fun l _=>by
       obtain ⟨ls,o⟩:=l
       cases o with
       |none=>kernel_rfl
       |some i=>cases i with
        |jump m t=>cases m<;>kernel_rfl
        |ret=>kernel_rfl
        |mov=>kernel_rfl) (by rw [iq,Nw,Nw];exact Nt hz (by decide))
     rw [iq] at h
     exact h
    have q3:cv (run aj (n+57)) (.cmp (.var 23) .nin (.comp (.callF 41 [(.idx (.var 24) (.cst (.int 1)))]) [(.mk (.one 24) (.seq (.var 6)) [])])) ρ σ=some (false,σ):=
     bJ (n:=n+56) (o:= .nin) (U:= .v (.str x)) (by subst hr;rfl) rfl q2 rfl (by rw [bH,bI,NF (h2 x m)];rfl)
    have q4:=u7 q1 fun _=>q3
    rw [←hr] at q4
    exact rS rfl q4) (by rw [jg];exact Oe _)
  rw [jg] at h
  exact h
 exact bJ (n:=n+59) (o:= .ne) (W:= .own (.lst [])) c rfl rfl rfl rfl
end
section
variable {n j k g a s:Nat} {L G:List ah} {u:V} {σ:ag} {a2 a4 a5 a6 a7 a8 a9 a10 a11 a12 a13 a14 a15:Nr aA} {is:List cq} {count:Nat} {y:Sg} {i:Int}
theorem xo.odd (F:xo G) (hb:[98]∉aq G) (hc:∀l∈G,l.ins≠some (.jump .call [98])):xo (dX i y G) where
 labs:=by
  show ([98]::aq G).Nodup
  exact Pl.mpr ⟨hb,F.labs⟩
 lps:=F.lps
 tg:=fun l m k t e=>(NW.mp m).elim (fun z=>by subst z;cases e) fun m=>F.tg l m k t e
 call:=fun l m t e q=>by
  rcases NW.mp m with z|m
  ·subst z;cases e
  ·rcases NW.mp (show t∈[98]::aq G from q) with z|q
   ·subst z;exact hc l m e
   ·exact F.call l m t e q
 nil:=fun m=>(NW.mp (show []∈[98]::aq G from m)).elim (fun z=>nomatch z) F.nil
theorem Fb (C:iy count 0 4 is) (hz:is.length≤9) (i:Int) (y:Sg):Inv (items (dX i y (aX is))) (dX i y (aX is)):=by
 have nb:[98]∉aq (aX is):=fun m=>by
  rw [eJ] at m
  obtain ⟨k,_,e⟩:=Op.mp m
  exact (yz k).2.1 e
 have F:xo (dX i y (aX is)):=(jI C hz).odd nb fun l m e=>nomatch (N3.mp ((NW.mp ((NW.mp (ql C m e)).resolve_left fun z=>nomatch z)).resolve_left fun z=>nomatch z))
 have I:=rN C hz
 refine ⟨F.core,?_,F.tg,NX (Nt (N8 kz) (Nt (NX hz) (by decide)))⟩
 have e:dX i y (aX is)=(⟨[[98]],some (.mov true i y)⟩::cI 0 (is.map some))++[⟨[gN is.length],none⟩]:=NC (ah.mk [[98]] (some (.mov true i y)):: ·) (o8 is)
 rw [e]
 exact .mk' rfl fun x m=>(NW.mp m).elim (fun z=>by rw [z];rfl) (tY is 0 x)
theorem AS (hz:is.length≤9):nlab (dX i y (aX is))≤100:=by
 show ([98]::aq (aX is)).length≤100
 rw [O5,eJ,Nw,PP]
 exact Nt (NX (NX hz)) (by decide)
theorem wV (hz:is.length≤9):nlab (aX is)≤100:=by
 show (aq (aX is)).length≤100
 rw [eJ,Nw,PP]
 exact Nt (NX hz) (by decide)
noncomputable def kP:Sg:=[102,97,114]
theorem Ed:kP∉aq (dX i y (aX is)):=fun m=>by
 rcases NW.mp (show kP∈[98]::aq (aX is) from m) with z|m
 ·cases z
 ·rw [eJ] at m
  obtain ⟨k,_,e⟩:=Op.mp m
  exact (yz k).2.2 (e▸ .tail _ (.head _))
theorem zZ (C:iy count 0 4 is) (hz:is.length≤9) (hy:y=kP∨y∈aq (aX is)) (n:Nat):((!decide (y=kP)&& !decide (i=0))=true→∃r,aH (run aj (n+300)) aU.body (jS (dX i y (aX is)) none none none) []=some r∧r.1= .exc)∧
  ((!decide (y=kP)&& !decide (i=0))=false→(run aj (n+302)).s (.expr (.callF 32 [.var 0])) [some (.v (lst (dX i y (aX is))))] []=some (.next,[some (.v (lst (dX i y (aX is))))],[])):=by
 have I:=Fb C hz i y
 have hn:=AS (i:=i) (y:=y) hz
 have free:(y=kP∨i=0)→xb (dX i y (aX is)):=fun h l m w j x e q=>by
  rcases NW.mp m with z|m
  ·subst z
   cases e
   exact h.elim (fun z=>(Ed (z▸q)).elim) id
  ·obtain ⟨k,hk⟩:=Oy.mp m
   obtain ⟨_,_,h3⟩:=nK C hk e
   exact (I.core.nil (eS.mpr (h3▸q))).elim
 by_cases h1:y=kP
 ·exact ⟨fun z=>(by rw [NF h1] at z;cases z),fun _=>nV I hn (free (.inl h1)) n⟩
 by_cases h2:i=0
 ·exact ⟨fun z=>(by rw [NF h2,Bool.not_true,V0] at z;cases z),fun _=>nV I hn (free (.inr h2)) n⟩
 refine ⟨fun _=> ?_,fun z=>(by rw [N0 h1,N0 h2] at z;cases z)⟩
 exact uS (I.small hn) I.tg (fun z=>by have:=NC P1 z;rw [kz] at this;cases this) (fun m=>I.core.nil (eS.mpr m)) (OS _ (hy.resolve_left h1)) h2 n
theorem K8 {e:CE} {ρ:Loc} {σ σ':ag} {w:V} {i:Nat} (hc:e.comp?=none) (h:(run aj n).e e ρ σ=some (.own w,σ')):(run aj (n+1)).s (.own i e) ρ σ=some (.next,ρ.set i (some (.cell σ'.length)),σ'++[w]):=by
 rw [iU,fe,hc]
 show ((run aj n).e e ρ σ).bind _=_
 rw [h];rfl
theorem wi {i j:Nat} {p q:CE} {ρ:Loc} {σ σ1 σ2:ag} {U W:aA} {u w:V} (h1:(run aj n).e p ρ σ=some (U,σ1)) (k1:U.toV=some u) (h2:(run aj n).e q ρ σ1=some (W,σ2)) (k2:W.toV=some w):(run aj (n+1)).s (.assignT [(i,false),(j,false)] [p,q]) ρ σ=some (.next,(ρ.set i (some (.v u))).set j (some (.v w)),σ2):=by
 rw [iU,aI,gw,h1]
 show NT (NT (U.toV) fun u=>(xg (run aj n) [(j,false)] [q] ρ σ1).map fun q=>(aA.v u::q.1,q.2)) _=_
 rw [k1,gw,h2]
 show NT (Pr _ (NT (W.toV) fun u=>(xg (run aj n) [] [] ρ σ2).map fun q=>(aA.v u::q.1,q.2))) _=_
 rw [k2];rfl
noncomputable def Km:CS:= .assignT [(2,false),(3,true)] [(.bin .add (.cst (.int 4)) (.callF 39 [(.var 1),(.cst (.int 6))])),(.lst [(.cst (.str [106,114,99,120,122])),(.cst (.str [108,111,111,112,110,101])),(.cst (.str [108,111,111,112,101])),(.cst (.str [108,111,111,112]))])]
theorem Jp {s d c s' d' c':Int} {f k:Nat} (T:sI k 6 s d c f s' d' c'):(run aj (n+329)).s Km [some (.v u),some (.cell 0),none,none,none,none,none,none,none,none,none,none,none,none,none,none,none,none,none,none,none,none,none,none,none] [d8 s d c]=
  some (.next,lw u (some (.v (ai (4+f)))) none none none none none none none none none none none none,eP s' d' c' 4):=by
 have e1:(run aj (n+328)).e (.bin .add (.cst (.int 4)) (.callF 39 [(.var 1),(.cst (.int 6))])) [some (.v u),some (.cell 0),none,none,none,none,none,none,none,none,none,none,none,none,none,none,none,none,none,none,none,none,none,none,none] [d8 s d c]=some (.v (ai (4+f)),[d8 s' d' c']):=
  bW (n:=n+327) (o:= .add) (aK (σ1:=[d8 s d c]) (U:= .v (.int 4)) rfl rfl (lh (n:=n+296) (r:=[]) T rfl) rfl) (show some (V.int (4+(f:Int)))=some (V.int ((4+f:Nat):Int)) by rw [VF];rfl)
 rw [Km,iU,aI,gw,e1];rfl
theorem Jr {s d c s' d' c':Int} {j':Nat} {count:Nat} (hc:count≤9) (hl:is.length=count) (h:∀n ρ,wr ρ count→jv (ji (run aj (n+62)) (.one 16) [] (dZ (run aj (n+62)) v5 []) ρ) ((P3 0 count).map ai) (eP s d c 4)=some (is.map aP,eP s' d' c' j')):
  (run aj (n+329)).s (.assign 4 (.comp v5 [(.mk (.one 16) (.range [(.var 2)]) [])])) (lw u (some (.v (ai count))) none none none none none none none none none none none none) (eP s d c 4)=some (.next,lw u (some (.v (ai count))) (some (.v (.lst (is.map aP)))) none none none none none none none none none none none,eP s' d' c' j'):=by
 refine kr (n:=n+328) ?_ (by rw [Nw,hl];exact Nt hc (by decide))
 show NT (dN _ _ _ _) _=_
 have hi:dN (run aj (n+328)) (.range [(.var 2)]) (lw u (some (.v (ai count))) none none none none none none none none none none none none) (eP s d c 4)=some ((P3 0 count).map ai,eP s d c 4):=by
  show (iA [ai count]).map _=_
  rw [vy (Nt hc (by decide)),RG];rfl
 rw [hi]
 exact h (n+266) _ ⟨(by decide:16 <25),rfl,rfl,rfl⟩
theorem KL (hz:is.length≤100):(run aj (n+329)).s (.assign 5 (.comp Gv Gp)) (lw u a2 (some (.v (.lst (is.map aP)))) none none none none none none none none none none none) σ=some (.next,lw u a2 (some (.v (.lst (is.map aP)))) (some (.v (lst (aX is)))) none none none none none none none none none none,σ):=
 kr (n:=n+328) (E4 (n:=n+269) (ρ:=lw u a2 (some (.v (.lst (is.map aP)))) none none none none none none none none none none none) (by decide:18 <25) rfl hz) (by rw [Nw];exact Nt (N8 kz) (Nt (NX hz) (by decide)))
theorem x5 {j:Nat} {ρ:Loc} (hz:L.length≤1000) (h:ρ[j]? =some (some (.v (lst L)))):(run aj (n+60)).e (.callF 33 [(.var j)]) ρ σ=some (.own (told L),σ):=by
 have v:(run aj (n+59)).e (.var j) ρ σ=some (.v (lst L),σ):=by show ρ[j]?.join.map _=_;rw [h];rfl
 exact aB (n:=n+59) (us:=[lst L]) (Us:=[.v (lst L)]) (by rw [aZ,v];rfl) rfl (wY (Nt hz (by decide)) (n+19)) rfl
theorem A0 {j:Nat} {ρ:Loc} {w:V} (h:ρ[j]? =some (some (.v (told L)))) (b:mH 80 42 [told L] w):(run aj (n+90)).e (.callF 42 [(.var j)]) ρ σ=some (.own w,σ):=by
 have v:(run aj (n+89)).e (.var j) ρ σ=some (.v (told L),σ):=by show ρ[j]?.join.map _=_;rw [h];rfl
 exact aB (n:=n+89) (us:=[told L]) (Us:=[.v (told L)]) (by rw [aZ,v];rfl) rfl (b (n+9)) rfl
noncomputable def MI:CE:= .cmp (.callF 33 [(.callF 32 [(.var 7)])]) .ne (.var 8)
theorem LP (hz:L.length≤1000) (h:oo 210 32 [lst L] (lst L)):cv (run aj (n+320)) MI (lw u a2 a4 a5 a6 (some (.v (lst L))) (some (.v (told L))) a9 a10 a11 a12 a13 a14 a15) σ=some (false,σ):=by
 have e1:(run aj (n+318)).e (.callF 32 [(.var 7)]) (lw u a2 a4 a5 a6 (some (.v (lst L))) (some (.v (told L))) a9 a10 a11 a12 a13 a14 a15) σ=some (.v (lst L),σ):=aB (n:=n+317) (us:=[lst L]) (Us:=[.v (lst L)]) rfl rfl (h (n+107)) rfl
 have e2:(run aj (n+319)).e (.callF 33 [(.callF 32 [(.var 7)])]) (lw u a2 a4 a5 a6 (some (.v (lst L))) (some (.v (told L))) a9 a10 a11 a12 a13 a14 a15) σ=some (.own (told L),σ):=aB (n:=n+318) (us:=[lst L]) (Us:=[.v (lst L)]) (by rw [aZ,e1];rfl) rfl (wY (Nt hz (by decide)) (n+278)) rfl
 exact bJ (n:=n+319) (o:= .ne) (W:= .v (told L)) e2 rfl rfl rfl (by rw [bN,ug,NF rfl];rfl)
noncomputable def Kg:CS:= .assignT [(11,false),(14,false)] [(.idx (.lst [(.cst (.str [97,48])),(.bin .add (.cst (.str [97])) (.callB .str_ [(.var 2)])),(.cst (.str [102,97,114]))]) (.callF 39 [(.var 1),(.cst (.int 3))])),(.idx (.lst [(.cst (.int 0)),(.cst (.int 4)),(.neg 1)]) (.callF 39 [(.var 1),(.cst (.int 3))]))]
theorem IL {s d c s1 d1 c1 s2 d2 c2 f1 f2:Int} {k1 k2:Nat} {r:ag} (hc:count <201) (T1:sI k1 3 s d c f1 s1 d1 c1) (T2:sI k2 3 s1 d1 c1 f2 s2 d2 c2) (h1:i3 (.lst [.str (gN 0),.str (gN count),.str kP]) (.int f1)=some (.str y)) (h2:i3 (.lst [.int 0,.int 4,.int (-1)]) (.int f2)=some (.int i)):
  (run aj (n+329)).s Kg (lw u (some (.v (ai count))) a4 a5 a6 a7 a8 a9 a10 a11 a12 a13 a14 a15) (d8 s d c::r)=some (.next,lw u (some (.v (ai count))) a4 a5 a6 a7 a8 a9 a10 (some (.v (.str y))) a12 a13 (some (.v (.int i))) a15,d8 s2 d2 c2::r):=by
 have b:(run aj (n+326)).e (.bin .add (.cst (.str [97])) (.callB .str_ [(.var 2)])) (lw u (some (.v (ai count))) a4 a5 a6 a7 a8 a9 a10 a11 a12 a13 a14 a15) (d8 s d c::r)=some (.v (.str (gN count)),d8 s d c::r):=
  bW (n:=n+325) (o:= .add) (aK (σ1:=d8 s d c::r) (U:= .v (.str [97])) rfl rfl (eQ (n:=n+324) (us:=[ai count]) rfl (yg hc)) rfl) (wI hc)
 have l1:(run aj (n+327)).e (.lst [(.cst (.str [97,48])),(.bin .add (.cst (.str [97])) (.callB .str_ [(.var 2)])),(.cst (.str [102,97,114]))]) (lw u (some (.v (ai count))) a4 a5 a6 a7 a8 a9 a10 a11 a12 a13 a14 a15) (d8 s d c::r)=some (.own (.lst [.str (gN 0),.str (gN count),.str kP]),d8 s d c::r):=by
  rw [iY,dS,vU (U:= .v (.str (gN 0))) rfl rfl (aK b rfl (W:= .v (.str kP)) rfl rfl)];rfl
 exact wi (n:=n+328) (fN (n:=n+327) (cM l1 (lh (n:=n+296) T1 rfl) rfl rfl) h1) rfl (fN (n:=n+327) (cM (U:= .own (.lst [.int 0,.int 4,.int (-1)])) (σ1:=d8 s1 d1 c1::r) rfl (lh (n:=n+296) T2 rfl) rfl rfl) h2) rfl
noncomputable def Kd:CE:= .lst [(.mk .line [(.lst [(.cst (.str [98]))]),(.mk .ins [(.cst (.str [109,111,118])),(.lst [(.mk .reg [(.callF 36 [(.cst (.int 0)),(.cst (.int 64))])]),(.mk .imm [(.var 14),(.var 11)])])])])]
theorem IS (hz:G.length≤1000):(run aj (n+329)).s (.assign 15 (.bin .add Kd (.var 5))) (lw u a2 a4 (some (.v (lst G))) a6 a7 a8 a9 a10 (some (.v (.str y))) a12 a13 (some (.v (.int i))) a15) σ=some (.next,lw u a2 a4 (some (.v (lst G))) a6 a7 a8 a9 a10 (some (.v (.str y))) a12 a13 (some (.v (.int i))) (some (.v (lst (dX i y G)))),σ):=
 aD (n:=n+328) (u:=lst (dX i y G)) rfl (bW (n:=n+327) (o:= .add) (aK (σ1:=σ) (U:= .own (lst [⟨[[98]],some (.mov true i y)⟩])) (W:= .v (lst G)) (by kernel_rfl) rfl rfl rfl) (qF (A:=[⟨[[98]],some (.mov true i y)⟩]) (Nt (N2 hz 1) (by decide)))) rfl
theorem Fx:(run aj (n+327)).e tS (lw u a2 a4 a5 a6 a7 a8 a9 a10 (some (.v (.str y))) a12 a13 (some (.v (.int i))) a15) σ=some (.v (.bool (!decide (y=kP)&& !decide (i=0))),σ):=
 jq (ru (n:=n+326) (a:= .cmp (.var 11) .ne (.cst (.str [102,97,114]))) (b:= .cmp (.var 14) .ne (.cst (.int 0)))
  (bJ (n:=n+325) (o:= .ne) (U:= .v (.str y)) (W:= .v (.str kP)) rfl rfl rfl rfl (by rw [bN,bE];rfl)) fun _=>bJ (n:=n+325) (o:= .ne) (U:= .v (.int i)) (W:= .v (.int 0)) rfl rfl rfl rfl (by rw [bN,bh];rfl))
end
theorem Lo {ns:List Int} (hz:ns.length≤63):∃ρ σ u b,wq 326 ns ρ σ u b:=by
 refine Np fun nG=> ?_
 obtain ⟨s0,d0,c0,P,hp⟩:=Lk ns hz
 obtain ⟨f,s1,d1,c1,T⟩:=lN (k:=99) (many:=6) P (by decide) (by decide)
 have t0:=T.lo
 have t1:=T.hi
 obtain ⟨f,rfl,hf⟩:=nS (n:=6) t0 t1
 have hc:4+f≤9:=N2 (ON hf) 4
 obtain ⟨is,s2,d2,c2,j2,hl,C,P2,rows⟩:=zV hc (4+f) 0 4 2 s1 d1 c1 (T.pen.le (by omega)) (NI 4)
 have hz9:is.length≤9:=by rw [hl];exact hc
 have G:=rN C hz9
 have gn:=wV hz9
 have gf:=wm C hz9
 have gs:=G.small gn
 have g0:[]∉aq (aX is):=fun m=>G.core.nil (eS.mpr m)
 obtain ⟨L,rt,D⟩:=pL G gn gf
 have LI:=D.inv
 have ln:nlab L≤100:=by
  have:=sr LI
  rw [D.kept] at this
  exact Nt this (by decide)
 have ls:=LI.small ln
 have l0:[]∉aq L:=fun m=>LI.core.nil (eS.mpr m)
 have lf:xb L:=fun l m w x y e q=>by
  have m1:=LI.core.mvs w x y (Po.mpr ⟨l,m,vS e⟩)
  obtain ⟨l',m2,m3⟩:=Po.mp m1
  obtain ⟨k,hk⟩:=Oy.mp m2
  have m4:Itm.mv w x y∈jV l'.ins:=(NG.mp m3).resolve_left fun z=>let ⟨_,_,e⟩:=Op.mp z;nomatch e
  obtain ⟨_,_,h3⟩:=nK C hk (Cg m4)
  exact (l0 (h3▸q)).elim
 have ra:=Ef D ln lf
 obtain ⟨ks,vs,B,rb⟩:=sD gs g0 G.core.lps
 obtain ⟨ks',vs',B',rb'⟩:=sD ls l0 LI.core.lps
 obtain ⟨f1,s3,d3,c3,T1⟩:=lN (k:=1) (many:=3) P2 (by decide) (by decide)
 obtain ⟨f2,s4,d4,c4,T2⟩:=lN (k:=0) (many:=3) T1.pen (by decide) (by decide)
 have p0:=T1.lo
 have p1:=T1.hi
 have q0:=T2.lo
 have q1:=T2.hi
 have glab:∀k,k≤is.length→gN k∈aq (aX is):=fun k h=>by
  rw [eJ];exact O1 (Qp.mpr (Pi h))
 obtain ⟨y,hy,h1⟩:∃y,(y=kP∨y∈aq (aX is))∧i3 (.lst [.str (gN 0),.str (gN (4+f)),.str kP]) (.int f1)=some (.str y):=by
  obtain ⟨f,rfl,hf⟩:=nS (n:=3) p0 p1
  exact qZ (P:=fun f=>∃y,(y=kP∨y∈aq (aX is))∧i3 (.lst [.str (gN 0),.str (gN (4+_)),.str kP]) (.int (f:Nat))=some (.str y)) hf ⟨_,.inl rfl,rfl⟩ fun hf=>qZ hf ⟨_,.inr (glab _ (N8 hl.symm)),rfl⟩ fun hf=>qZ hf ⟨_,.inr (glab 0 (Oe _)),rfl⟩ vF
 obtain ⟨i,h2⟩:∃i,i3 (.lst [.int 0,.int 4,.int (-1)]) (.int f2)=some (.int i):=by
  obtain ⟨f,rfl,hf⟩:=nS (n:=3) q0 q1
  exact qZ (P:=fun f=>∃i,i3 (.lst [.int 0,.int 4,.int (-1)]) (.int (f:Nat))=some (.int i)) hf ⟨_,rfl⟩ fun hf=>qZ hf ⟨_,rfl⟩ fun hf=>qZ hf ⟨_,rfl⟩ vF
 have ref:=zZ (i:=i) C hz9 hy 26
 have z1:(run aj 329).s (.own 1 (.callF 38 [(.var 0)])) [some (.v (.lst (ns.map .int))),none,none,none,none,none,none,none,none,none,none,none,none,none,none,none,none,none,none,none,none,none,none,none,none] []=some (.next,[some (.v (.lst (ns.map .int))),some (.cell 0),none,none,none,none,none,none,none,none,none,none,none,none,none,none,none,none,none,none,none,none,none,none,none],[d8 s0 d0 c0]):=
  K8 (n:=328) rfl (aB (n:=327) (us:=[.lst (ns.map .int)]) (Us:=[.v (.lst (ns.map .int))]) rfl rfl (hp 247) rfl)
 obtain ⟨b11,z8⟩:=EW (n:=268) (u:= .lst (ns.map .int)) (a2:=some (.v (ai (4+f)))) (a4:=some (.v (.lst (is.map aP)))) (a5:=some (.v (lst (aX is)))) (a6:=some (.v (told (aX is)))) (a7:=some (.v (lst L))) (a8:=some (.v (told L))) (a12:=none) (a13:=none) (a14:=none) (a15:=none) (σ:=eP s2 d2 c2 j2) ks' none (Bq G.nodup LI.core B B')
 refine nG ?_
 have w9':=kr (n:=328) (i:=12) (w9 (n:=268) (L:=L) (u:= .lst (ns.map .int)) (a2:=some (.v (ai (4+f)))) (a4:=some (.v (.lst (is.map aP)))) (a5:=some (.v (lst (aX is)))) (a6:=some (.v (told (aX is)))) (a7:=some (.v (lst L))) (a9:=some (.v (.dct ks vs))) (a10:=some (.v (.dct ks' vs'))) (a11:=b11) (a12:=none) (a13:=none) (a14:=none) (a15:=none) (σ:=eP s2 d2 c2 j2)) (by rw [Nw];exact Nt ln (by decide))
 have cl:(hO L).length≤1000:=by
  have:∀M:List ah,(hO M).length≤M.length:=fun M=>by
   induction M with
   |nil=>exact NI _
   |cons l M ih=>
    show (callS l++hO M).length≤_
    rw [Nu,O5,O2]
    refine Of ih ?_
    obtain ⟨ls,o⟩:=l
    cases o with
    |none=>exact Oe _
    |some i=>cases i with
     |ret=>exact Oe _
     |mov=>exact Oe _
     |jump m t=>cases m<;>first|exact Oe _|exact NI _
  exact Nt (this L) ls.len'
 have w10':=kr (n:=328) (i:=13) (Jh (n:=268) (L:=L) (u:= .lst (ns.map .int)) (a2:=some (.v (ai (4+f)))) (a4:=some (.v (.lst (is.map aP)))) (a5:=some (.v (lst (aX is)))) (a6:=some (.v (told (aX is)))) (a7:=some (.v (lst L))) (a9:=some (.v (.dct ks vs))) (a10:=some (.v (.dct ks' vs'))) (a11:=b11) (a12:=some (.v (.lst ((aq L).map .str)))) (a13:=none) (a14:=none) (a15:=none) (σ:=eP s2 d2 c2 j2)) (by rw [Nw];exact cl)
 have w11a:=Nl (n:=267) (G:=aX is) (xs:=hO L) (ys:=aq L) (u:= .lst (ns.map .int)) (a2:=some (.v (ai (4+f)))) (a4:=some (.v (.lst (is.map aP)))) (a5:=some (.v (lst (aX is)))) (a7:=some (.v (lst L))) (a8:=some (.v (told L))) (a9:=some (.v (.dct ks vs))) (a10:=some (.v (.dct ks' vs'))) (a11:=b11) (a14:=none) (a15:=none) (σ:=eP s2 d2 c2 j2) gs.len'
  (fun x m q=>LI.core.call x (uB m) (eS.mpr q)) (fun x m=>sK (LI.core.old x (uB m)) (.inl rfl))
 have w11o:=u7 (n:=327) (y:=false) w11a fun _=>LP (n:=7) ls.len' ra
 refine ⟨lw (.lst (ns.map .int)) (some (.v (ai (4+f)))) (some (.v (.lst (is.map aP)))) (some (.v (lst (aX is)))) (some (.v (told (aX is)))) (some (.v (lst L))) (some (.v (told L))) (some (.v (.dct ks vs))) (some (.v (.dct ks' vs'))) (some (.v (.str y))) (some (.v (.lst ((aq L).map .str)))) (some (.v (.lst ((hO L).map .str)))) (some (.v (.int i))) (some (.v (lst (dX i y (aX is))))),eP s4 d4 c4 j2,lst (dX i y (aX is)),_,?_,rfl,Fx (n:=2),ref.1,ref.2⟩
 refine av z1 (av (Jp (n:=0) T) (av (Jr (n:=0) hc hl rows) (av (KL (n:=0) (Nt hz9 (by decide))) ?_)))
 refine av (kC (n:=328) (x5 (n:=268) (L:=aX is) gs.len' rfl) rfl (aB (n:=327) (us:=[lst (aX is)]) (Us:=[.v (lst (aX is))]) rfl rfl (rt 117) rfl) rfl) ?_
 refine av (aD (n:=328) rfl (x5 (n:=268) (L:=L) ls.len' rfl) rfl) ?_
 refine av (kC (n:=328) (A0 (n:=238) (L:=aX is) rfl rb) rfl (A0 (n:=238) (L:=L) rfl rb') rfl) ?_
 refine av (f8 (n:=328) (t:= .one 11) (it:= .seq (.var 10)) (body:=LC) rfl z8) ?_
 refine av w9' (av w10' (av (bc (n:=328) w11o rfl) ?_))
 refine av (IL (n:=0) (NL hc (by decide)) T1 T2 h1 h2) (av (IS (n:=0) gs.len') rfl)
end
section
open PySem PySem.W PyProof.Rows
set_option tactic.hygienic false
theorem Dj {Z:Wd} {D:Addr→Prop} {h:Heap} {vs:List Nv} {ns:List Int} (r:IntsAre vs ns):ak Z D h vs (ns.map V.int):=by
 induction r with
 |nil=>exact .nil
 |cons n t r ih=>exact .cons (.int n t) ih
noncomputable def yl (n:Nat):Prop:=∀ns:List Int,ns.length≤63→∃ρ σ u b,wq n ns ρ σ u b
theorem uv {n:Nat} (hn:n <500):aN (n+4) callerA:=⟨by show 1+claimMargin+(n+4)+40 <recursionLimit;unfold claimMargin recursionLimit;omega,by show 4+10*(n+4)+200 <SJ;unfold SJ;omega,rfl⟩
theorem AP {K:Frag} {prog p:Ob} {w:Pz} {loose:List Str} {mg mb:Str→Nr Nv} {n:Nat} {s:Nx} (O:(gW prog w K s.heap).Ok p loose mg mb) (gk:Md K=true) (hn:n <500) {ns:List Int} {ρ:Loc} {σ:ag} {u:V} {b:Bool} (I:wq n ns ρ σ u b) {v:Nv}
  (rep:bS (gW prog w K s.heap) [] (fun _=>RA) s.heap [v] [.v (.lst (ns.map .int))]) {RR:Qx→Nx→Prop} (hR:∀h' tk,(∀b o,s.heap.get? b=some o→h'.get? b=some o)→RR (.ok (.ret (.bool true))) {s with heap:=h',toks:=tk}):PB (model prog w) callerA (.call (.ref ((gW prog w K s.heap).fa 44)) ⟨[v],[]⟩) RR s:=by
 have g1:=ac gk
 have g2:=ac g1.2
 have S:=zv O (Kr (ac g1.1).2 O) (ki (ac g1.1).1)
 refine Np fun nG=> ?_
 obtain ⟨fo,fd,body,ps,c,kk,m,F⟩:=ki (prog:=prog) (w:=w) (h:=s.heap) (ac g1.1).1 44 v6 rfl
 refine nG ?_
 have Rm:aN (n+4) callerA:=uv hn
 have Gg0:Gg (gW prog w K s.heap) [] [] (fun _=>RA) s.heap:=⟨fun b o e=>e,fun a d=>d.elim,.inr rfl,fun a d=>d.elim,⟨rfl,.nil,fun k a u e _=>(by cases e),fun a m=>(by cases m)⟩⟩
 refine jl O F (args:=[.v (.lst (ns.map .int))]) (NI 1) (NI 1) Rm Gg0 rep fun h₁ tk x=> ?_
 have ck:bG (cy (gW prog w K s.heap).fname m c kk) body (vQ++[.ret (.cmp (.callF 43 [.var 15]) .eq tS)])=true:=F.chk
 refine DW (S (n+3)).s x.eo Rm.into ck (s:={s with heap:=h₁,toks:=tk}) x.st I.run fun st hc h' t' CA' D' St'=>Ov ?_
 exact AW O (S (n+3)).e (s:={s with heap:=h',toks:=t'}) hc x.eo St' Rm.into (RE rfl) rfl I.odd (E9 O (HZ g2.1) g2.2 (ac g1.1).1 S I.exc I.ok) I.rhs hR
end
section
open PySem PySem.W PyProof.Rows
theorem AR {n:Nat} (hL:yl n) (hn:n <500) {d:DefRec} {kwd:List (Str×Expr)} (hd:d.name=NK "law"):WalkO qv pw.boundNames XP (fun _ _=>True) PySem.Challenge.rw_qd0111_01.row.toRowW d kwd fun f vs=>V3 f vs:=by
 intro w s₀ s₁ mg mb G _ fa o pm cd doc dV kV ho hdd hcd hD hmg hg args vals as hpre hlay hrd hwl hlo
 wrow_args hpre hlay hrd hwl hlo
 rename_i ns _ _ _ _ _ _ _ l xs _ hL' _ w1 _ hI _ hlen _
 refine Np fun nG=> ?_
 obtain ⟨K,XK,gk⟩:=G.X
 have O:(gW pw w K s₁.heap).Ok qv (looseW qv pw.boundNames) mg mb:=J7 (ac (ac gk).1).1 XK (topRead_of G.T)
 have hfa:fa=677:=by
  have e2:=mg_of O.X O.T.g (O.fn 44 (NK "law") rfl).1
  rw [hd] at hmg
  rw [hmg] at e2
  cases Nq e2
  rfl
 subst hfa
 have hz:ns.length≤63:=by omega
 obtain ⟨ρ,σ,u,b,I⟩:=hL ns hz
 obtain ⟨ol,k0,g1,g2,g3,g4⟩:∃o k,s₁.heap.get? l=some o∧o.cls= .type "list"∧o.dict=none∧o.data= .seq xs.toArray k:=by
  obtain ⟨o',q1,q2,k',q3⟩:=hL'
  cases w1 with
  |list q _=>
   rw [q1] at q
   cases Nq q
   exact ⟨_,k',q1,rfl,rfl,q3⟩
 refine nG ?_
 have rep:bS (gW pw w K s₁.heap) [] (fun _=>RA) s₁.heap [.ref l] [.v (.lst (ns.map .int))]:= .cons (U:= .v _) (b8.lst (by rw [Nw];exact Nt hz (by decide)) (fun z=>z) g1 g2 g3 g4 (Dj hI)) .nil
 show NH (model pw w) callerA (V3 (.ref 677) [.ref l]) _ _ s₁
 refine P6 (AP O gk hn I rep fun h2 tk k2=> ?_)
 exact GoodW.toG ⟨.inl ⟨.bool true,.bool true,[],rfl,fun _=>rfl,.bool true,by wrow_post,fun _=>⟨.nil,fun a m=>(by cases m)⟩⟩,k2,rfl,hg⟩
theorem Jo {n:Nat} (hL:yl n) (hn:n <500):PySem.Challenge.rw_qd0111_01.Holds:=LU (AR hL hn IQ)
end
end Mine.Internal
theorem PySem.Challenge.cw_qd0111_01_holds : PySem.Challenge.rw_qd0111_01.Holds :=
  Mine.Internal.Jo (fun _ hz => Mine.Internal.Lo hz) (by decide)
