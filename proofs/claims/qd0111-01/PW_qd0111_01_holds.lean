import PyProof.Rows.All
import Wide.All
import OpenK.AllK
import Wide.FinOn
import KE.KDictOf
import KE.KRevSl
import KE.KStateDown
import PyProof.ExcInit
import PyProof.ExcBaseAll.Exception
import PyProof.InstStoreFacts
import KE.KFromBytes
import KE.KTryDeep
import PyProof.StationsW
import Lean
import PySem.Challenge.RW_qd0111_01
set_option linter.all false
set_option genCtorIdx false
set_option maxRecDepth 100000
set_option Elab.async false
set_option genSizeOf false
namespace Mine.Internal
open Classical renaming byContradiction→Nf,em→SW
open Option.some renaming inj→Ng
open _root_ renaming Option→Nh,congrArg→Nt,of_decide_eq_true→Nu,decide_eq_true→Nw,if_pos→NG,decide_eq_false→NR,if_neg→NV,decide_eq_decide→OW,cond_false→OZ,cond_true→O4,beq_eq_false_iff_ne→PL,of_decide_eq_false→PW,Array→P5,String→Q3,beq_self_eq_true→Rl,False→Rr,Decidable→Su,if_false→UB,bne_self_eq_false→UK
open Nat renaming le_trans→Ni,le_refl→Nz,lt_of_le_of_lt→ND,succ_le_succ→NO,le_of_lt→NP,le_succ→NQ,add_le_add_left→NT,le_of_eq→NZ,zero_le→N5,add_le_add→N6,exists_eq_succ_of_ne_zero→N9,le_add_right→Oa,lt_of_lt_of_le→Od,zero_add→Om,add_assoc→Oq,lt_irrefl→Ou,le_of_ble_eq_true→Oy,succ_pos→OA,add_le_add_right→OB,lt_succ_self→OD,le_of_lt_succ→OE,lt_of_succ_lt_succ→OK,lt_or_eq_of_le→ON,add_comm→OT,lt_of_succ_lt→O0,succ_add→O8,lt_succ_of_le→O9,add_lt_add_right→Pq,not_lt→Pt,lt_trans→Pu,ne_of_gt→Px,le_succ_of_le→PE,le_of_succ_le→PG,lt_add_of_pos_right→PH,not_lt_zero→PI,le_of_succ_le_succ→PP,sub_self→PQ,succ_lt_succ→PU,min_eq_left→P3,le_add_left→P4,add_sub_cancel'→P9,lt_or_ge→Qk,sub_le→Qt,lt_of_not_le→Qv,le_of_not_lt→Qw,mul_le_mul_left→QA,add_lt_add_left→QF,add_sub_cancel_left→QV,exists_eq_add_of_le→QW,ne_of_lt→Q4,le_of_add_right_le→Re,min_le_right→Rn,lt_of_le_of_ne→R7,add_right_comm→R8,lt_trichotomy→Sf,succ_le_of_lt→Sl,succ_ne_self→SL,succ_ne_zero→SR,sub_le_iff_le_add'→S9,le_antisymm→Td,succ→Ts,not_succ_le_self→TL,max_le→Um,sub_add_cancel→Uz,add_succ→US,lt_succ_of_lt→UV,sub_sub_self→U8,strongRecOn→Vx
open List renaming length_append→Nj,length_map→Nl,getElem?_eq_some_iff→Nq,getElem?_eq_getElem→Nr,mem_append→Nx,map_cons→NA,all_eq_true→NC,mem_of_getElem?→NF,append_nil→NH,append_assoc→NI,getElem?_cons_succ→NJ,getElem?_cons_zero→NL,mem_cons→NN,map_append→NS,mem_singleton→NU,set_cons_succ→NW,set_cons_zero→NX,sublist_append_right→N8,getElem?_set_self→Ob,getElem?_set_ne→Oe,mem_map→Of,map_nil→Oh,mem_iff_getElem?→Oo,mem_of_mem_drop→Os,length_set→Ot,getElem?_append_left→Ov,filterMap_append→Ow,getElem?_append_right→Ox,getElem?_map→OF,map_map→OG,mem_cons_of_mem→OJ,nodup_append→OL,length_take_of_le→OM,mem_cons_self→OP,getElem?_eq_none→OR,mem_map_of_mem→OS,range→OV,length_cons→OX,length_drop→O2,lookup_cons→O3,getElem_of_mem→O5,mem_of_mem_take→Pa,mem_filterMap→Pb,nodup_cons→Pc,mem_flatMap→Pf,singleton_sublist→Pg,pairwise_iff_getElem→Ph,flatMap_cons→Pm,map_congr_left→Pz,getElem?_drop→PA,drop_append_of_le_length→PC,length_range→PF,range_succ_eq_map→PN,length→PR,range'→PS,concat_eq_append→PY,sublist_append_left→P7,length_take_le→Qb,mem_range→Qg,append_cons→Qi,zipIdx_cons→Qj,nil_append→Qm,eq_nil_or_concat→Qq,take_append_drop→Qr,range'_succ→Qu,filterMap_cons→QB,getElem?_take_of_lt→QI,mem_filter→QM,sublist_append_iff→QX,set_eq_take_append_cons_drop→QZ,drop_zero→Q7,nodup_nil→Q9,pairwise_map→Rf,getElem_cons_drop→Rg,dropLast_eq_take→Rh,mem_append_right→Ri,isEmpty_iff→Rk,any_cons→Rq,length_dropLast→Rt,eq_nil_of_length_eq_zero→Ru,range_eq_range'→Ry,getLast?_concat→Rz,length_take_le'→RA,map_eq_cons_iff→RB,find?_cons→RC,length_nil→RD,forIn_cons→RF,of_mem_zip→RH,getElem?_concat_length→RN,isPrefixOf_iff_prefix→RU,zip_cons_cons→R4,getElem_range→R6,pairwise_cons→R9,map_dropLast→Sk,drop_nil→Sm,map_take→Sp,filterMap_cons_none→Sq,filterMap_cons_some→Sr,length_filterMap_le→Ss,length_take→Sx,length_eq_zero_iff→SA,prefix_iff_eq_take→SG,pairwise_singleton→SO,map→SQ,pairwise_of_forall→SU,range_succ→Tk,length_singleton→Tn,length_filter_le→To,dropLast_sublist→Tp,replicate→Tq,mem_append_left→TC,getElem?_zipIdx→TG,dropLast_concat→TM,pairwise_append→TN,length_reverse→TW,reverse_append→TY,flatMap_append→TZ,filter_sublist→T0,map_drop→Uk,zip_nil_right→Ut,contains_cons→Uu,reverse_cons→UA,size_toArray→UE,getElem_take→UO,map_set→UT,ext_getElem?→UU,not_mem_nil→U0,take_length→U3,getElem_mem→U7,filter_cons→Ve,flatMap_map→Vf,nil_sublist→Vg,map_id→Vo,zip_append→Vt,mem_zipIdx→Vy,drop_take→VH
open PySem renaming Value→Nk,Shared→Nn,wpAny_bind→No,wpAny→Ny,wpAny_pure→NE,Comprehension→N0,Program→N2,wpAny_mono→N3,Around→N4,mainGlobals→N7,callEnvC→Oc,wpAny_holding→Oj,wpAny_execs_cons→Ol,strKind→Op,FuncData→OC,wpAny_standAt→OI,wpAny_assignInOrder_more→OQ,wpAny_Call_ofName→Pk,wpAny_loadPart_at→Pl,Scope→Po,codeAny→Pr,wpAny_truthy_bool→Pv,wpAny_assign_Name→Pw,DictEntry→PD,World→PK,sizeLine→PM,ClassData→PT,wpAny_call→PV,letOwnedTupleGo→PZ,wpAny_execs_nil→P1,plainObj_wpAny_Assign_Attribute→P8,Result→Qo,wpAny_isSubtype_exc→QC,getitemInPython→QK,sysModules→QN,sliceBounds→QO,getMethod_builtin→Q8,wpAny_Expr_any→Rb,valueAt→Rp,wpAny_letTemporaryGo→Rs,typeLookup→RQ,builtinsNs→RY,wpAny_Constant_int→RZ,wpAny_Constant_str→R0,wpAny_assign_Tuple→R2,wpAny_pyIter_list→Sc,wpAny_Return_some→Si,wpAny_getItem_list_slice→Sn,cLine→Sv,compareOp→Sw,noFill_tuple_add→Sy,wpAny_list_append_plain→SK,strKind_is→SV,concat_meets→SY,wpAny_pyNext_list_item→S0,notedBy→S7,cameBackBy→S8,ExcBaseFacts→Tb,wpAny_pyNext_list_end→Tl,wpAny_loadName_local→Tt,sliceRange_one→Tu,Operator→Tv,wpAny_loadPart→TI,sizeLine_eq→TJ,codeAny_call_builtin→TK,Keyword→TP,OsState→TQ,wpAny_Constant_bool→TV,seq_tuple_add→T4,Const→T5,wpAny_UnaryOp→T6,evalPart_none→T7,PyData→Ul,call_meets→Un,arm_eval_Subscript→Uq,sliceBounds_plain→UD,slot_list_setitem→UG,wpAny_pyIter_enum→UI,NameKind→UJ,wpAny_newObj_type→UL,wpAny_Assign_Name→UN,wpAny_askSetting→U6,wpAny_lookBehind→Va,pastItsLine_dict→Vb,wpAny_madeBy_exc→Vc,wpAny_Try_except→Vd,codeAny_builtin→Vq,codeAny_of_tree→Vs,sliceRange→VG,typeIs_str→VJ,refuseLoop_ref→VS,call→VU
open Bool renaming and_eq_true_iff→Np,noConfusion→OU,or_eq_true_iff→O6,or_eq_false_iff→PB,false_eq_true→Ql,and_eq_false_iff→Rj,true_or→SZ,decide_or→VB,and_false→VR
open LawfulBEq renaming eq_of_beq→Nv
open PySem.Str renaming ofString→NB
open Option renaming bind→NK,isSome_iff_exists→Og,isNone_iff_eq_none→Oz,map→Pi,bind_eq_some_iff→Pp,length_toList_le→QY,map_eq_some_iff→Q1,map_some→RG,none→Sb,bind_some→SP,isNone_none→Uo
open PySem.Heap renaming get?_push_of_some→NM,lt_size→NY,get?_push_size→N1,SameBut→Pe,get?_update_self→Qp,get?_update_ne→QD,size_push→Ra,get?_push_at→UP,hide_ne→UQ,FlyingW→UR,hide_self→VT
open Int renaming natCast_nonneg→Oi,toNat_natCast→O7,ofNat_lt→Ps,fmod_nonneg_of_pos→Py,fmod_lt_of_pos→PX,eq_ofNat_of_zero_le→Qc,natCast_succ→Qf,le_of_lt→Qx,natCast_pos→QL,le_refl→Rx,le_trans→RM,lt_of_lt_of_le→RP,add_sub_cancel→R1,natCast_ne_zero→T3,add_comm→UC,ofNat_le→UW,ne_of_gt→UX,lt_trans→UY,pow_succ→UZ,natCast_zero→U5,mul_one→Vi,natCast_sub→Vv,natCast_add→Vw,not_lt→VE,le_add_one→VV
open Array renaming getElem?_toList→On,length_toList→OH,getElem?_eq_getElem→Sa,toList_append→TS,toList_push→UH,any_toList→U9
open List.cons renaming inj→OO
open PySem.Calls renaming Name_function_global→OY,spliced_cons→O1,spliced_nil→Pj,loadGlobal_global→Qe,loadGlobal_builtin→QH
open ForInStep renaming yield→Pd
open List.Sublist renaming refl→Pn,cons_cons→Tc
open PySem.Env renaming kindOf→PJ
open Nat.succ renaming inj→PO
open PySem.PyData renaming canLayAll0→P6,eqv→Qs,depthAll→QJ,keyHash→Rc,canLay0→VC
open PySem.W renaming SharedT→Qa,instObj→Q2,looks_findIn→Ta,dictOf→Tr,looks_clsIn→Vl,mg_none_of→VL,cellsFrom_some→VP,codeRec_of→VQ
open PyProof.Rows renaming wpAny_operate'→Qd,neg_int→TB,isnot_none_gen→Vz,getItem_tuple→VF,callWith_type→VM,floordiv_int→VX,is_none_gen→VY
open PySem.Heap.UpToSlots renaming of_keeps→Qh
open PySem.NameKind renaming free→Qn,cell→T8
open PySem.F renaming excBase_Exception→Qy,args_tuple_add_2→QG,entry_tuple_add→QP,plainAttrs_list→QS,slot_tuple_add→Q5,slot_list_index→SH,entry_str_split→SI,slot_str_split→S6,slot_dict_get→Tm
open PySem.Builtin.Str renaming strKind→Qz,occurrences→QR,spaceWords→Q6,strSliceIndices→RL,partsBetween→So
open PySem.Value renaming ref→QQ,isStrOf_shape→TT,str→V7
open PySem.Builtin.Range renaming rangeSize→QU,small→RK
open List.Nodup renaming length_le_of_subset→Ro,mem_erase_iff→V2
open PySem.Around renaming frames_deeper→Rv
open PySem.Expr.Tuple renaming elim→RE
open PySem.Expr.Attribute renaming elim→RI
open PySem.Expr.Subscript renaming elim→RJ
open PySem.SeqAt renaming shaped→RO,readOf→Up,notIn_tuple_reads→Vh,notIn_list_reads→Vp,in_tuple_reads→VD,in_list_reads→VW,list_indexAt→V1
open PySem.Code renaming quiet_builtin→RS,builtin→UF
open PySem.Expr.Constant renaming elim→RV
open PySem.Expr.Name renaming elim→RW
open PySem.Expr.ListComp renaming elim→RX
open PySem.Stmt.Continue renaming elim→R3
open PySem.Expr.UnaryOp renaming elim→Sd
open PySem.Expr.Compare renaming elim→Se
open PySem.W.BT renaming get_node→Sj
open PySem.Builtin.Dict renaming updateFrom→SD,addKeywords→VZ,selfAndRest→V0
open PySem.Expr.BoolOp renaming elim→SJ
open PySem.Stmt.Assign renaming elim→SM
open PySem.Stmt.Return renaming elim→SN
open PySem.Expr.Slice renaming elim→Te
open PySem.Expr.BinOp renaming elim→Tf
open PySem.Expr.IfExp renaming elim→Th
open PySem.Stmt.While renaming elim→Ti
open PySem.Stmt.Raise renaming elim→Tj
open PySem.Const.str renaming elim→Tw
open PySem.Expr.List renaming elim→Tx
open PySem.Expr.Dict renaming elim→Tz
open PySem.Expr.Call renaming elim→TA
open PySem.Stmt.Expr renaming elim→TD
open PySem.Data.func renaming elim→TE
open PySem.Value.ref renaming elim→TF
open PySem.Value.str renaming elim→TH
open Ne renaming symm→TO
open PySem.Builtin.Int renaming intBits→TR
open PySem.Heap.SameBut renaming update→TU
open PySem.Heap.FunFrames renaming cons→TX
open PySem.Stmt.For renaming elim→T9
open PySem.Stmt renaming Continue→Ua,Assign→Vj,Return→Vk,While→VN,Raise→VO,Expr→V3,For→V4,Try→V5,If→V6
open PySem.Stmt.Try renaming elim→Ub
open PySem.Data.seq renaming elim→Uc
open PySem.Data.cls renaming elim→Ud
open PySem.W.Fast renaming tw10156331382660048174→Ue,tw11892475500146522536→Uf,tw14364793385576792824→Ug,te10156331382660048174→Uh,te11892475500146522536→Ui,te14364793385576792824→Uj,tw6613529449190102663→Uv,te6613529449190102663→Uw,tw4187177175401517315→Ux,te4187177175401517315→Uy
open PySem.Heap.IsSliceOf renaming new→Ur
open PySem.Stmt.If renaming elim→UM
open PySem.DictEntry renaming refKey→U4
open PySem.Within renaming cons→Vm
open PySem.Builtin.BaseException renaming bexcPut→Vn
open PySem.Heap.DictOf renaming new→Vr
open PySem.Challenge renaming pw_qd0111_01→Vu
open PySem.Builtin.List renaming listSubscript?→VA
open PySem.Txt renaming startswith→VI
open PySem.Obj renaming mapSeq→VK
section
open PySem
set_option tactic.hygienic false
section
set_option genSizeOf false
set_option genInjectivity false
abbrev Sg:=List Nat
set_option genCtorIdx true in
inductive iG|line|ins|reg|imm|rel|register
 deriving DecidableEq
set_option genCtorIdx true in
inductive gU|labels|instruction|name|operands|prefix_|kind|register|worth|number|size
 deriving DecidableEq
set_option genCtorIdx true in
inductive EE|told|symbol
 deriving DecidableEq
set_option genCtorIdx false in
set_option genInjectivity true in
inductive V where
 |none
 |bool (b:Bool)
 |int (i:Int)
 |str (s:Sg)
 |tup (vs:List V)
 |lst (vs:List V)
 |dct (ks:List Sg) (vs:List V)
 |inst (c:iG) (vs:List V)
noncomputable instance:Inhabited V:=⟨.none⟩
noncomputable def V.el {α:Type} (d:α) (b:Bool→α) (i:Int→α) (s:Sg→α) (t l:List V→α) (k:List Sg→List V→α) (c:iG→List V→α) (v:V):α:=V.casesOn (motive_1:=fun _=>α) v d b i s t l k c
noncomputable def V.none?:V→Bool:=V.el true (fun _=>false) (fun _=>false) (fun _=>false) (fun _=>false) (fun _=>false) (fun _ _=>false) fun _ _=>false
noncomputable def V.int?:V→Nh Int:=V.el .none (fun _=> .none) .some (fun _=> .none) (fun _=> .none) (fun _=> .none) (fun _ _=> .none) fun _ _=> .none
noncomputable def V.str?:V→Nh Sg:=V.el .none (fun _=> .none) (fun _=> .none) .some (fun _=> .none) (fun _=> .none) (fun _ _=> .none) fun _ _=> .none
noncomputable def V.lst?:V→Nh (List V):=V.el .none (fun _=> .none) (fun _=> .none) (fun _=> .none) (fun _=> .none) .some (fun _ _=> .none) fun _ _=> .none
noncomputable def V.tup?:V→Nh (List V):=V.el .none (fun _=> .none) (fun _=> .none) (fun _=> .none) .some (fun _=> .none) (fun _ _=> .none) fun _ _=> .none
noncomputable def V.bool?:V→Nh Bool:=V.el .none .some (fun _=> .none) (fun _=> .none) (fun _=> .none) (fun _=> .none) (fun _ _=> .none) fun _ _=> .none
noncomputable def V.dct?:V→Nh (List Sg×List V):=V.el .none (fun _=> .none) (fun _=> .none) (fun _=> .none) (fun _=> .none) (fun _=> .none) (fun k l=> .some (k,l)) fun _ _=> .none
noncomputable def V.inst?:V→Nh (iG×List V):=V.el .none (fun _=> .none) (fun _=> .none) (fun _=> .none) (fun _=> .none) (fun _=> .none) (fun _ _=> .none) fun k l=> .some (k,l)
@[elab_as_elim]
theorem qJ {P:Nat→Prop} {k n:Nat} (h:k <n+1) (c:P n) (r:k <n→P k):P k:=(ON (OE h)).elim r fun e=>e▸c
theorem uB {P:Prop} {k:Nat} (h:k <0):P:=absurd h (PI k)
theorem nh {w:Int} {n:Nat} (h0:0≤w) (h1:w <(n:Int)):∃k:Nat,w=k∧k <n:=let ⟨k,e⟩:=Qc h0;⟨k,e,Ps.mp (e▸h1)⟩
theorem ao {α:Type} {a:α} {P:Prop} (e:none=some a):P:=nomatch e
section
variable {x:V}
theorem zt:x.none?=true→x= .none:=
 V.casesOn (motive_1:=fun x=>x.none?=true→x= .none) x (fun _=>rfl) (fun _=>OU) (fun _=>OU) (fun _=>OU) (fun _=>OU) (fun _=>OU) (fun _ _=>OU) (fun _ _=>OU)
theorem cX {p:Int}:x.int?=some p→x= .int p:=
 V.casesOn (motive_1:=fun x=>x.int?=some p→x= .int p) x ao (fun _=>ao) (fun _=>fun e=>Ng e▸rfl) (fun _=>ao) (fun _=>ao) (fun _=>ao) (fun _ _=>ao) (fun _ _=>ao)
theorem dU {p:Sg}:x.str?=some p→x= .str p:=
 V.casesOn (motive_1:=fun x=>x.str?=some p→x= .str p) x ao (fun _=>ao) (fun _=>ao) (fun _=>fun e=>Ng e▸rfl) (fun _=>ao) (fun _=>ao) (fun _ _=>ao) (fun _ _=>ao)
theorem f7 {p:List V}:x.lst?=some p→x= .lst p:=
 V.casesOn (motive_1:=fun x=>x.lst?=some p→x= .lst p) x ao (fun _=>ao) (fun _=>ao) (fun _=>ao) (fun _=>ao) (fun _=>fun e=>Ng e▸rfl) (fun _ _=>ao) (fun _ _=>ao)
theorem j6 {p:List V}:x.tup?=some p→x= .tup p:=
 V.casesOn (motive_1:=fun x=>x.tup?=some p→x= .tup p) x ao (fun _=>ao) (fun _=>ao) (fun _=>ao) (fun _=>fun e=>Ng e▸rfl) (fun _=>ao) (fun _ _=>ao) (fun _ _=>ao)
theorem nH {p:Bool}:x.bool?=some p→x= .bool p:=
 V.casesOn (motive_1:=fun x=>x.bool?=some p→x= .bool p) x ao (fun _=>fun e=>Ng e▸rfl) (fun _=>ao) (fun _=>ao) (fun _=>ao) (fun _=>ao) (fun _ _=>ao) (fun _ _=>ao)
theorem BL {p:List Sg×List V}:x.dct?=some p→x= .dct p.1 p.2:=
 V.casesOn (motive_1:=fun x=>x.dct?=some p→x= .dct p.1 p.2) x ao (fun _=>ao) (fun _=>ao) (fun _=>ao) (fun _=>ao) (fun _=>ao) (fun _ _=>fun e=>Ng e▸rfl) (fun _ _=>ao)
theorem mR {p:iG×List V}:x.inst?=some p→x= .inst p.1 p.2:=
 V.casesOn (motive_1:=fun x=>x.inst?=some p→x= .inst p.1 p.2) x ao (fun _=>ao) (fun _=>ao) (fun _=>ao) (fun _=>ao) (fun _=>ao) (fun _ _=>ao) (fun _ _=>fun e=>Ng e▸rfl)
end
theorem bO {α:Type} {o:Nh α} {f:α→Bool} (h:o.any f=true):∃a,o=some a∧f a=true:=by
 cases o with
 |none=>cases h
 |some a=>exact ⟨a,rfl,h⟩
theorem ax {α:Type} {o:Nh α} {f:α→Bool} {P:Prop} (h:o.any f=true) (K:∀a,o=some a→f a=true→P):P:=let ⟨a,h1,h2⟩:=bO h;K a h1 h2
noncomputable def V.eqb (a:V):V→Bool:=V.rec (motive_1:=fun _=>V→Bool) (motive_2:=fun _=>List V→Bool) V.none? (fun x b=>b.bool?.any fun y=>decide (x=y)) (fun x b=>b.int?.any fun y=>decide (x=y)) (fun x b=>b.str?.any fun y=>decide (x=y)) (fun _ f b=>b.tup?.any f) (fun _ f b=>b.lst?.any f)
 (fun k _ f b=>b.dct?.any fun p=>decide (k=p.1)&&f p.2) (fun k _ f b=>b.inst?.any fun p=>decide (k=p.1)&&f p.2) List.isEmpty (fun _ _ f g l=>l.casesOn (motive:=fun _=>Bool) false fun y ys=>f y&&g ys) a
theorem Ds {a b:V}:a.eqb b=true→a=b:=
 V.rec (motive_1:=fun a=>∀b,a.eqb b=true→a=b) (motive_2:=fun l=>∀m:List V,(V.tup l).eqb (.tup m)=true→l=m) (fun _ h=>(zt h).symm)
  (fun _ _ h=>let ⟨_,e,q⟩:=bO h;(Nu q)▸(nH e).symm) (fun _ _ h=>let ⟨_,e,q⟩:=bO h;(Nu q)▸(cX e).symm) (fun _ _ h=>let ⟨_,e,q⟩:=bO h;(Nu q)▸(dU e).symm)
  (fun _ f _ h=>let ⟨m,e,q⟩:=bO h;f m q▸(j6 e).symm) (fun _ f _ h=>let ⟨m,e,q⟩:=bO h;f m q▸(f7 e).symm)
  (fun _ _ f _ h=>by
   refine ax h fun p e q=> ?_
   have q:=Np.mp q
   rw [BL e,Nu q.1,f _ q.2]) (fun _ _ f _ h=>by
   refine ax h fun p e q=> ?_
   have q:=Np.mp q
   rw [mR e,Nu q.1,f _ q.2]) (fun m h=>(Rk.mp h).symm) (fun _ _ f g m h=>by
   cases m with
   |nil=>cases h
   |cons y ys=>
    have q:=Np.mp h
    rw [f y q.1,g ys q.2]) a b
theorem vf (a:V):a.eqb a=true:=
 V.rec (motive_1:=fun a=>a.eqb a=true) (motive_2:=fun l=>(V.tup l).eqb (.tup l)=true) rfl (fun _=>Nw rfl) (fun _=>Nw rfl) (fun _=>Nw rfl) (fun _ h=>h) (fun _ h=>h)
  (fun _ _ h=>Np.mpr ⟨Nw rfl,h⟩) (fun _ _ h=>Np.mpr ⟨Nw rfl,h⟩) rfl (fun _ _ h g=>Np.mpr ⟨h,g⟩) a
noncomputable instance:DecidableEq V:=fun a b=>decidable_of_decidable_of_iff ⟨Ds,fun e=>e▸vf a⟩
theorem Fg (a b:V):decide (a=b)=a.eqb b:=by
 cases h:a.eqb b with
 |true=>exact Nw (Ds h)
 |false=>exact NR fun e=>by rw [e,vf] at h;cases h
noncomputable def V.dat (v:V):Bool:=V.rec (motive_1:=fun _=>Bool) (motive_2:=fun _=>Bool) true (fun _=>false) (fun _=>true) (fun _=>true) (fun _ b=>b) (fun _ b=>b) (fun _ _ _=>false) (fun _ _ _=>false) true (fun _ _ a b=>a&&b) v
noncomputable def V.dats (l:List V):Bool:=(V.tup l).dat
noncomputable def V.dep (v:V):Nat:=V.rec (motive_1:=fun _=>Nat) (motive_2:=fun _=>Nat) 0 (fun _=>0) (fun _=>0) (fun _=>0) (fun _ k=>k+1) (fun _ k=>k+1) (fun _ _ _=>0) (fun _ _ _=>0) 0 (fun _ _ a b=>max a b) v
noncomputable def V.deps (l:List V):Nat:=Nat.pred (V.tup l).dep
set_option genCtorIdx true in
inductive Fa|add|sub|mul|fdiv|mod|pow|band|bxor|shr
 deriving DecidableEq
set_option genCtorIdx true in
inductive um|eq|ne|lt|le|gt|ge|in_|nin|is_|isnt
 deriving DecidableEq
set_option genCtorIdx true in
inductive Bf|len|list_|tuple_|dict_|str_|int_|all_|min_|max_
 deriving DecidableEq
set_option genCtorIdx true in
inductive Mf|startswith|split|append|pop|index|get
 deriving DecidableEq
set_option genCtorIdx true in
inductive kN|one (i:Nat)|two (i j:Nat)
 deriving DecidableEq
set_option genCtorIdx false
mutual
inductive CE where
 |cst (u:V)
 |neg (i:Int)
 |var (i:Nat)
 |glob (x:Sg)
 |tup (es:List CE)
 |lst (es:List CE)
 |dct0
 |attr (e:CE) (f:gU)
 |idx (e i:CE)
 |slc (e:CE) (lo hi:Nh CE)
 |rev (e:CE)
 |bin (o:Fa) (l r:CE)
 |cmp (l:CE) (o:um) (r:CE)
 |cmp2 (a:CE) (o:um) (b:CE) (o':um) (c:CE)
 |and (es:List CE)
 |or (es:List CE)
 |not (e:CE)
 |ite (c a b:CE)
 |callF (f:Nat) (args:List CE)
 |mk (c:iG) (args:List CE)
 |callB (b:Bf) (args:List CE)
 |callM (e:CE) (m:EE)
 |callS (m:Mf) (e:CE) (args:List CE)
 |comp (elt:CE) (gs:List CG)
 |stuck
inductive It where
 |seq (e:CE)
 |range (es:List CE)
 |enum (e:CE)
inductive CG where
 |mk (t:kN) (it:It) (ifs:List CE)
end
inductive CS where
 |assign (i:Nat) (e:CE)
 |own (i:Nat) (e:CE)
 |assignT (ts:List (Nat×Bool)) (es:List CE)
 |unpack (ts:List Nat) (e:CE)
 |setIdx (x:CE) (i:CE) (e:CE)
 |expr (e:CE)
 |ret (e:CE)
 |ite (c:CE) (a b:List CS)
 |for_ (t:kN) (it:It) (body:List CS)
 |while_ (c:CE) (body:List CS)
 |cont
 |raise_
 |try_ (body handler:List CS)
structure Fn where
 np:Nat
 dflts:List V
 size:Nat
 body:List CS
set_option genCtorIdx true in
inductive aA where
 |v (u:V)
 |own (u:V)
 |cell (k:Nat)
abbrev Loc:=List (Nh aA)
abbrev ag:=List V
set_option genCtorIdx true in
inductive fg where
 |next|cont|ret (U:aA)|exc
set_option genCtorIdx true in
inductive Ac where
 |ok (U:aA)|exc
structure Ev where
 e:CE→Loc→ag→Nh (aA×ag)
 s:CS→Loc→ag→Nh (fg×Loc×ag)
 c:Nat→List aA→ag→Nh (Ac×ag)
structure Af where
 tab:Nat→Nh Fn
 meth:iG→EE→Nh Nat
 glob:Sg→Nh Sg
 splits:Sg→Nh Sg→Nh (List Sg)
noncomputable def aA.toV:aA→Nh V
 | .v u=>some u
 | .own u=>some u
 | .cell _=>none
noncomputable def aA.bind:aA→aA
 | .own u=> .v u
 |U=>U
noncomputable def aA.deref (σ:ag):aA→Nh V
 | .v u=>some u
 | .own u=>some u
 | .cell k=>σ[k]?
noncomputable def aA.bool?:aA→Nh Bool
 | .v u=>u.bool?
 |_=>none
noncomputable def aA.cell?:aA→Nh Nat
 | .cell k=>some k
 |_=>none
noncomputable def aA.own?:aA→Nh V
 | .own u=>some u
 |_=>none
noncomputable def aA.plain?:aA→Nh aA
 | .v u=>some (.v u)
 | .own u=>some (.own u)
 | .cell _=>none
noncomputable def Ac.opd?:Ac→Nh aA
 | .ok U=>U.plain?
 | .exc=>none
noncomputable def fg.goes:fg→Bool
 | .next=>true
 |_=>false
noncomputable def fg.turns:fg→Bool
 | .next=>true
 | .cont=>true
 |_=>false
noncomputable def yW {β α:Type} (us:List β) (f:β→List β→Nh α):Nh α:=match us with
 |[]=>none
 |a::r=>f a r
noncomputable def one {β:Type} (us:List β):Nh β:=yW us fun a r=>match r with
 |[]=>some a
 |_::_=>none
noncomputable def two {β α:Type} (us:List β) (f:β→β→Nh α):Nh α:=yW us fun a r=>(one r).bind (f a)
noncomputable def Co {β:Type} (d:β) (us:List β):Nh β:=match us with
 |[]=>some d
 |_::_=>one us
noncomputable def cU (n:Nat):Bool:=decide (n≤16777216)
noncomputable def fX (i:Int):Bool:=decide (i.natAbs <2^8192)
noncomputable def iG.fields:iG→List gU
 | .line=>[.labels,.instruction]
 | .ins=>[.name,.operands,.prefix_]
 | .reg=>[.kind,.register]
 | .imm=>[.kind,.worth,.name]
 | .rel=>[.kind,.worth,.name]
 | .register=>[.name,.kind,.number,.size]
noncomputable def Ag (fs:List gU) (vs:List V) (g:gU):Nh V:=List.rec (motive:=fun _=>List V→Nh V) (fun _=>none) (fun f _ ih vs=>yW vs fun v vs=>if f=g then some v else ih vs) fs vs
noncomputable def kS (u:V) (f:gU):Nh V:=u.inst?.bind fun p=>Ag p.1.fields p.2 f
noncomputable def ft:V→Nh (List V)
 | .tup us=>some us
 | .lst us=>some us
 |_=>none
noncomputable def iB (c:iG) (us:List V):Nh V:=match c with
 | .line=>two us fun l i=>(ft l).map fun us=> .inst .line [.tup us,i]
 | .ins=>yW us fun n r=>yW r fun o r=>(Co (.str []) r).bind fun p=>(ft o).map fun us=> .inst .ins [n,.tup us,p]
 | .reg=>(one us).map fun r=> .inst .reg [.str [114,101,103],r]
 | .imm=>yW us fun w r=>(Co (.str []) r).map fun n=> .inst .imm [.str [105,109,109],w,n]
 | .rel=>two us fun w n=>some (.inst .rel [.str [114,101,108],w,n])
 | .register=>yW us fun n r=>yW r fun k r=>two r fun u z=>some (.inst .register [n,k,u,z])
noncomputable def k6 (n:Nat) (i:Int):Nh Nat:=
 if 0≤i then (if i <n then some i.toNat else none) else if -(n:Int)≤i then some (i+n).toNat else none
noncomputable def f0:List Sg→List V→Sg→Nh V
 |[],_,_=>none
 |k::ks,vs,x=>yW vs fun v vs=>if k=x then some v else f0 ks vs x
noncomputable def eB:List Sg→List V→Sg→V→List Sg×List V
 |k::ks,v::vs,x,y=>if k=x then (k::ks,y::vs) else let r:=eB ks vs x y;(k::r.1,v::r.2)
 |_,_,x,y=>([x],[y])
noncomputable def Bb (us:List V) (k:V):Nh V:=k.int?.bind fun i=>(k6 us.length i).bind fun k=>us[k]?
noncomputable def iW (u k:V):Nh V:=match u with
 | .lst us=>Bb us k
 | .tup us=>Bb us k
 | .dct ks vs=>k.str?.bind fun x=>f0 ks vs x
 |_=>none
noncomputable def AT (n:Nat) (d:Nat) (x:Nh V):Nh Nat:=match x with
 |none=>some d
 |some v=>v.int?.map fun (i:Int)=>if 0≤i then min i.toNat n else (i+(n:Int)).toNat
noncomputable def i8 (u:V) (lo hi:Nh V):Nh V:=match u with
 | .lst us=>(AT us.length 0 lo).bind fun a=>(AT us.length us.length hi).map fun b=> .lst ((us.take b).drop a)
 | .str s=>if cU s.length then (AT s.length 0 lo).bind fun a=>(AT s.length s.length hi).map fun b=> .str ((s.take b).drop a) else none
 |_=>none
noncomputable def qm (f:Int→Int→Nh Int) (x y:V):Nh V:=x.int?.bind fun a=>y.int?.bind fun b=>(f a b).map .int
noncomputable def oC (x y:V):Nh V:=match x with
 | .int a=>y.int?.map fun b=> .int (a+b)
 | .str a=>y.str?.bind fun b=>if cU (a.length+b.length) then some (.str (a++b)) else none
 | .lst a=>y.lst?.bind fun b=>if cU (a.length+b.length) then some (.lst (a++b)) else none
 | .tup a=>y.tup?.bind fun b=>if cU (a.length+b.length) then some (.tup (a++b)) else none
 |_=>none
noncomputable def oE (o:Fa) (x y:V):Nh V:=match o with
 | .add=>oC x y
 | .sub=>qm (fun a b=>some (a -b)) x y
 | .mul=>qm (fun a b=>if fX a&&fX b then some (a*b) else none) x y
 | .fdiv=>qm (fun a b=>if decide (b≠0)&&(fX a&&fX b) then some (a.fdiv b) else none) x y
 | .mod=>qm (fun a b=>if b≠0 then some (a.fmod b) else none) x y
 | .pow=>qm (fun a b=>if decide (0≤b)&&(decide (b≤1000)&&decide (a.natAbs <2^64)) then some (a^b.toNat) else none) x y
 | .band=>qm (fun a b=>some (Builtin.bitAnd a b)) x y
 | .bxor=>qm (fun a b=>some (Builtin.bitXor a b)) x y
 | .shr=>qm (fun a b=>if 0≤b then some (a.fdiv (2^b.toNat)) else none) x y
noncomputable def eV (s:Sg):Bool:=s.all (· <0x110000)
noncomputable def l9 (a b:V):Bool:=(a.bool?.isSome&&b.bool?.isSome)||(a.dat&&b.dat&&(decide (a.dep≤60)&&decide (b.dep≤60)))
noncomputable def gW (a:V) (us:List V):Bool:=a.dat&&V.dats us&&(decide (a.dep≤60)&&decide (V.deps us≤60))
noncomputable def DK (a b:V):Nh Bool:=if l9 a b then some (decide (a=b)) else none
noncomputable def Bk (f:Int→Int→Bool) (a b:V):Nh Bool:=a.int?.bind fun i=>b.int?.map fun j=>f i j
noncomputable def Cp (a b:V):Nh Bool:=match b with
 | .dct ks _=>a.str?.map fun x=>decide (x∈ks)
 | .lst us=>if gW a us then some (decide (a∈us)) else none
 | .tup us=>if gW a us then some (decide (a∈us)) else none
 |_=>none
noncomputable def DR (a b:V):Nh Bool:=match b with
 | .none=>some (decide (a= .none))
 |_=>none
noncomputable def gD (o:um) (a b:V):Nh Bool:=match o with
 | .eq=>DK a b
 | .ne=>(DK a b).map (!·)
 | .lt=>Bk (fun i j=>decide (i <j)) a b
 | .le=>Bk (fun i j=>decide (i≤j)) a b
 | .gt=>Bk (fun i j=>decide (j <i)) a b
 | .ge=>Bk (fun i j=>decide (j≤i)) a b
 | .in_=>Cp a b
 | .nin=>(Cp a b).map (!·)
 | .is_=>DR a b
 | .isnt=>(DR a b).map (!·)
noncomputable def kL (E:Ev):List CE→Loc→ag→Nh (List aA×ag)
 |[],_,σ=>some ([],σ)
 |e::es,ρ,σ=>(E.e e ρ σ).bind fun r=>(kL E es ρ r.2).bind fun q=>some (r.1::q.1,q.2)
noncomputable def toVs:List aA→Nh (List V)
 |[]=>some []
 |U::Us=>U.toV.bind fun u=>(toVs Us).bind fun us=>some (u::us)
noncomputable def nN (σ:ag) (Us:List aA):Nh (List V):=List.rec (motive:=fun _=>Nh (List V)) (some []) (fun U _ ih=>(U.deref σ).bind fun u=>ih.bind fun us=>some (u::us)) Us
noncomputable def jC (E:Ev) (es:List CE) (ρ:Loc) (σ:ag):Nh (List V×ag):=
 (kL E es ρ σ).bind fun r=>(toVs r.1).bind fun us=>some (us,r.2)
noncomputable def eO (E:Ev) (e:CE) (ρ:Loc) (σ:ag):Nh (V×ag):=
 (E.e e ρ σ).bind fun r=>r.1.toV.bind fun u=>some (u,r.2)
noncomputable def rS (E:Ev) (es:List CE) (ρ:Loc) (σ:ag):Nh (List V×ag):=
 (kL E es ρ σ).bind fun r=>(nN r.2 r.1).bind fun us=>some (us,r.2)
noncomputable def E5 (E:Ev) (e:Nh CE) (ρ:Loc) (σ:ag):Nh (Nh V×ag):=match e with
 |none=>some (none,σ)
 |some e=>(eO E e ρ σ).map fun r=>(some r.1,r.2)
noncomputable def cv (E:Ev) (e:CE) (ρ:Loc) (σ:ag):Nh (Bool×ag):=
 (E.e e ρ σ).bind fun r=>r.1.bool?.map fun b=>(b,r.2)
theorem zJ {U:aA} {b:Bool} (e:U.bool?=some b):U= .v (.bool b):=by
 cases U with
 |v u=>exact Nt aA.v (nH e)
 |own u=>cases e
 |cell k=>cases e
theorem jj {E:Ev} {ce:CE} {ρ:Loc} {σ:ag} {q:Bool×ag} (e:cv E ce ρ σ=some q):E.e ce ρ σ=some (.v (.bool q.1),q.2):=by
 obtain ⟨r,h1,h2⟩:=Pp.mp e
 obtain ⟨b,h3,h4⟩:=Q1.mp h2
 rw [h1,←h4];exact Nt some (Prod.ext (zJ h3) rfl)
noncomputable def fc (E:Ev) (t:Bool) (es:List CE) (ρ:Loc) (σ:ag):Nh (Bool×ag):=List.rec (motive:=fun _=>ag→Nh (Bool×ag)) (fun _=>none) (fun e es ih σ=>(cv E e ρ σ).bind fun r=>if es.isEmpty|| !(r.1==t) then some r else ih r.2) es σ
noncomputable def iA (i:Int):Bool:=decide (i.natAbs <1099511627776)
noncomputable def jW (a b c:Int):Nh (List V):=
 if iA a&&iA b then
  if c=1 then some ((OV (b -a).toNat).map fun (i:Nat)=>V.int (a+(i:Int)))
  else if c= -1 then some ((OV (a -b).toNat).map fun (i:Nat)=>V.int (a -(i:Int)))
  else none
 else none
noncomputable def iD (us:List V):Nh (List V):=yW us fun a r=>a.int?.bind fun a=>match r with
 |[]=>jW 0 a 1
 |b::r=>b.int?.bind fun b=>(Co (.int 1) r).bind fun c=>c.int?.bind fun c=>jW a b c
noncomputable def jm (n:Nat) (vs:List V):List V:=List.rec (motive:=fun _=>Nat→List V) (fun _=>[]) (fun v _ ih n=> .tup [.int (n:Int),v]::ih (n+1)) vs n
noncomputable def qz (ks:List Sg):List V:=ks.map .str
noncomputable def u0 (u:V):Nh (List V):=match u with
 | .lst us=>some us
 | .tup us=>some us
 | .dct ks _=>some (qz ks)
 |_=>none
noncomputable def dN (E:Ev) (it:It) (ρ:Loc) (σ:ag):Nh (List V×ag):=match it with
 | .seq e=>(eO E e ρ σ).bind fun r=>(u0 r.1).map fun us=>(us,r.2)
 | .range es=>(jC E es ρ σ).bind fun r=>(iD r.1).map fun us=>(us,r.2)
 | .enum e=>(eO E e ρ σ).bind fun r=>r.1.lst?.map fun us=>(jm 0 us,r.2)
noncomputable def gS (t:kN) (x:V) (ρ:Loc):Nh Loc:=match t with
 | .one i=>some (ρ.set i (some (.v x)))
 | .two i j=>x.tup?.bind fun us=>two us fun a b=>some ((ρ.set i (some (.v a))).set j (some (.v b)))
noncomputable def jt (f:V→ag→Nh (List V×ag)) (xs:List V) (σ:ag):Nh (List V×ag):=List.rec (motive:=fun _=>ag→Nh (List V×ag)) (fun σ=>some ([],σ)) (fun x _ ih σ=>(f x σ).bind fun r=>(ih r.2).bind fun q=>some (r.1++q.1,q.2)) xs σ
noncomputable def Gi (E:Ev) (es:List CE) (ρ:Loc) (σ:ag):Nh (Bool×ag):=List.rec (motive:=fun _=>ag→Nh (Bool×ag)) (fun σ=>some (true,σ)) (fun e _ ih σ=>(cv E e ρ σ).bind fun r=>if r.1 then ih r.2 else some (false,r.2)) es σ
noncomputable def Gy:kN→List Nat
 | .one i=>[i]
 | .two i j=>[i,j]
noncomputable def Dy:List CG→List Nat
 |[]=>[]
 | .mk t _ _::gs=>Gy t++Dy gs
noncomputable def qT:List Nat→Loc→Loc
 |[],ρ=>ρ
 |i::is,ρ=>qT is (ρ.set i none)
noncomputable def jh (E:Ev) (t:kN) (ifs:List CE) (rest:Loc→ag→Nh (List V×ag)) (ρ:Loc) (x:V) (σ:ag):Nh (List V×ag):=
 (gS t x ρ).bind fun ρ'=>(Gi E ifs ρ' σ).bind fun r=>if r.1 then rest ρ' r.2 else some ([],r.2)
noncomputable def dQ (E:Ev) (elt:CE):List CG→Loc→ag→Nh (List V×ag)
 |[],ρ,σ=>(eO E elt ρ σ).map fun r=>([r.1],r.2)
 | .mk t it ifs::gs,ρ,σ=>(dN E it ρ σ).bind fun r=>jt (jh E t ifs (dQ E elt gs) (qT (Gy t++Dy gs) ρ)) r.1 r.2
noncomputable def eI (n:Nat):Sg:=(Nat.toDigits 10 n).map Char.toNat
noncomputable def HJ (vs:List V):Nh Bool:=List.rec (motive:=fun _=>Nh Bool) (some true) (fun v _ ih=>v.bool?.bind fun b=>ih.map (b&& ·)) vs
noncomputable def hS (us:List V):Nh (List Sg×List V):=List.rec (motive:=fun _=>Nh (List Sg×List V)) (some ([],[])) (fun u _ ih=>u.tup?.bind fun p=>two p fun k v=>k.str?.bind fun k=>ih.map fun q=>(k::q.1,v::q.2)) us
noncomputable def jR (ks:List Sg) (vs:List V):List Sg×List V:=
 (ks.zip vs).foldl (fun d kv=>eB d.1 d.2 kv.1 kv.2) ([],[])
noncomputable def J9 (u:V):Nh V:=match u with
 | .lst us=>some (.int us.length)
 | .tup us=>some (.int us.length)
 | .str s=>if cU s.length then some (.int s.length) else none
 |_=>none
noncomputable def FU (u:V):Nh V:=match u with
 | .lst us=>some (.lst us)
 | .tup us=>some (.lst us)
 | .str s=>if cU s.length&&s.all (· <128) then some (.lst (s.map fun c=> .str [c])) else none
 | .dct ks _=>if cU ks.length then some (.lst (qz ks)) else none
 |_=>none
noncomputable def Gp (us:List V):Nh V:=(hS us).bind fun q=>if cU q.1.length then some (.dct (jR q.1 q.2).1 (jR q.1 q.2).2) else none
noncomputable def xo (i:Int):Nh V:=if decide (0≤i)&&decide (i <10000000000) then some (.str (eI i.toNat)) else none
noncomputable def vN (b:Bf) (us:List V):Nh V:=match b with
 | .len=>(one us).bind J9
 | .list_=>(one us).bind FU
 | .tuple_=>(one us).bind fun u=>(ft u).map .tup
 | .dict_=>(one us).bind fun u=>u.lst?.bind Gp
 | .str_=>(one us).bind fun u=>u.int?.bind xo
 | .int_=>(one us).bind fun u=>u.int?.map .int
 | .all_=>(one us).bind fun u=>u.lst?.bind fun us=>(HJ us).map .bool
 | .min_=>two us (qm fun a b=>some (if b <a then b else a))
 | .max_=>two us (qm fun a b=>some (if b>a then b else a))
noncomputable def tj (x:V) (ys:List V):Nh Nat:=List.rec (motive:=fun _=>Nh Nat) none (fun y _ ih=>if y=x then some 0 else ih.map (· +1)) ys
noncomputable def G2 (P:Af) (m:Mf) (u:V) (us:List V):Nh V:=match m with
 | .startswith=>u.str?.bind fun s=>(one us).bind fun t=>t.str?.map fun t=> .bool (t.isPrefixOf s)
 | .split=>u.str?.bind fun s=>match us with
  |[]=>(P.splits s none).map fun r=> .lst (r.map .str)
  |_::_=>(one us).bind fun t=>t.str?.bind fun t=>(P.splits s (some t)).map fun r=> .lst (r.map .str)
 | .index=>u.lst?.bind fun xs=>(one us).bind fun x=>x.str?.bind fun x=>if gW (.str x) xs then (tj (.str x) xs).map fun (k:Nat)=>V.int (k:Int) else none
 | .get=>match u with
  | .dct ks vs=>two us fun x d=>x.str?.map fun x=>(f0 ks vs x).getD d
  |_=>none
 | .append=>none
 | .pop=>none
noncomputable def wb (E:Ev) (ts:List (Nat×Bool)) (es:List CE) (ρ:Loc) (σ:ag):Nh (List aA×ag):=List.rec (motive:=fun _=>List CE→ag→Nh (List aA×ag)) (fun es σ=>if es.isEmpty then some ([],σ) else none)
 (fun t _ ih es σ=>yW es fun e es=>(E.e e ρ σ).bind fun r=>
   if t.2 then r.1.own?.bind fun u=>(ih es (r.2++[u])).map fun q=>(.cell r.2.length::q.1,q.2)
   else r.1.toV.bind fun u=>(ih es r.2).map fun q=>(.v u::q.1,q.2)) ts es σ
noncomputable def iY:List Nat→List aA→Loc→Loc
 |i::is,U::Us,ρ=>iY is Us (ρ.set i (some U))
 |_,_,ρ=>ρ
abbrev tF:=Nh (fg×Loc×ag)
noncomputable def aH (E:Ev):List CS→Loc→ag→tF
 |[],ρ,σ=>some (.next,ρ,σ)
 |c::cs,ρ,σ=>(E.s c ρ σ).bind fun r=>if r.1.goes then aH E cs r.2.1 r.2.2 else some r
noncomputable def fy (body:V→Loc→ag→tF) (xs:List V) (ρ:Loc) (σ:ag):tF:=List.rec (motive:=fun _=>Loc→ag→tF) (fun ρ σ=>some (.next,ρ,σ)) (fun x _ ih ρ σ=>(body x ρ σ).bind fun r=>if r.1.turns then ih r.2.1 r.2.2 else some r) xs ρ σ
noncomputable def fW (test:Loc→ag→Nh (Bool×ag)) (body:Loc→ag→tF):Nat→Loc→ag→tF
 |0,_,_=>none
 |n+1,ρ,σ=>(test ρ σ).bind fun b=>if b.1 then (body ρ b.2).bind fun r=>if r.1.turns then fW test body n r.2.1 r.2.2 else some r
  else some (.next,ρ,b.2)
noncomputable def turns:Nat:=100000
noncomputable def eN:List aA→List Nat
 |[]=>[]
 | .cell k::Us=>k::eN Us
 | .v _::Us=>eN Us
 | .own _::Us=>eN Us
noncomputable def renum:Nat→List aA→List aA
 |_,[]=>[]
 |j,.cell _::Us=> .cell j::renum (j+1) Us
 |j,.v u::Us=> .v u::renum j Us
 |j,.own u::Us=> .own u::renum j Us
noncomputable def wB (σ:ag) (ks:List Nat):Nh ag:=List.rec (motive:=fun _=>Nh ag) (some []) (fun k _ ih=>(σ[k]?).bind fun u=>ih.map fun us=>u::us) ks
noncomputable def pW (ks:List Nat) (us σ:ag):ag:=List.rec (motive:=fun _=>ag→ag→ag) (fun _ σ=>σ) (fun k _ ih us σ=>match us with
  |[]=>σ
  |u::us=>ih us (σ.set k u)) ks us σ
noncomputable def cO (E:Ev) (f:Nat) (Us:List aA) (σ:ag):Nh (Ac×ag):=
 if (eN Us).Nodup then (wB σ (eN Us)).bind fun us=>(E.c f (renum 0 Us) us).map fun r=>(r.1,pW (eN Us) r.2 σ) else none
noncomputable def kC (E:Ev) (e:CE) (args:List CE) (ρ:Loc) (σ:ag):Nh (aA×ag):=
 (one args).bind fun a=>(E.e e ρ σ).bind fun r=>r.1.cell?.bind fun k=>((r.2[k]?).bind V.lst?).bind fun _=>(eO E a ρ r.2).bind fun q=>((q.2[k]?).bind V.lst?).bind fun us=>
  if cU (us.length+1) then some (.v .none,q.2.set k (.lst (us++[q.1]))) else none
noncomputable def D6 (E:Ev) (e:CE) (args:List CE) (ρ:Loc) (σ:ag):Nh (aA×ag):=
 if args.isEmpty then (E.e e ρ σ).bind fun r=>r.1.cell?.bind fun k=>((r.2[k]?).bind V.lst?).bind fun us=>us.getLast?.map fun x=>(.v x,r.2.set k (.lst us.dropLast)) else none
noncomputable def qf (P:Af) (E:Ev) (m:Mf) (e:CE) (args:List CE) (ρ:Loc) (σ:ag):Nh (aA×ag):=
 (E.e e ρ σ).bind fun r=>(r.1.deref r.2).bind fun u=>(jC E args ρ r.2).bind fun q=>if r.1.deref q.2=some u then (G2 P m u q.1).map fun v=>(.v v,q.2) else none
noncomputable def dT (P:Af) (E:Ev) (ce:CE) (ρ:Loc) (σ:ag):Nh (aA×ag):=match ce with
 | .cst u=>some (.v u,σ)
 | .neg i=>some (.v (.int (-i)),σ)
 | .var i=>ρ[i]?.join.map fun U=>(U,σ)
 | .glob x=>(P.glob x).map fun s=>(.v (.str s),σ)
 | .tup es=>(jC E es ρ σ).bind fun r=>if cU r.1.length then some (.v (.tup r.1),r.2) else none
 | .lst es=>(jC E es ρ σ).bind fun r=>if cU r.1.length then some (.own (.lst r.1),r.2) else none
 | .dct0=>some (.own (.dct [] []),σ)
 | .attr e f=>(eO E e ρ σ).bind fun r=>(kS r.1 f).map fun v=>(.v v,r.2)
 | .idx e i=>(rS E [e,i] ρ σ).bind fun r=>(two r.1 iW).map fun v=>(.v v,r.2)
 | .slc e lo hi=>(eO E e ρ σ).bind fun r=>(E5 E lo ρ r.2).bind fun a=>(E5 E hi ρ a.2).bind fun b=>(i8 r.1 a.1 b.1).map fun v=>(.v v,b.2)
 | .rev e=>(eO E e ρ σ).bind fun r=>r.1.lst?.map fun us=>(.v (.lst us.reverse),r.2)
 | .bin o l r=>(jC E [l,r] ρ σ).bind fun r=>(two r.1 (oE o)).map fun v=>(.v v,r.2)
 | .cmp l o r=>(rS E [l,r] ρ σ).bind fun r=>(two r.1 (gD o)).map fun v=>(.v (.bool v),r.2)
 | .cmp2 a o b o' c=>(jC E [a,b] ρ σ).bind fun r=>two r.1 fun x y=>(gD o x y).bind fun v=>if v then (eO E c ρ r.2).bind fun q=>(gD o' y q.1).map fun v=>(.v (.bool v),q.2) else some (.v (.bool false),r.2)
 | .and es=>(fc E true es ρ σ).map fun r=>(.v (.bool r.1),r.2)
 | .or es=>(fc E false es ρ σ).map fun r=>(.v (.bool r.1),r.2)
 | .not e=>(cv E e ρ σ).map fun r=>(.v (.bool !r.1),r.2)
 | .ite c a b=>(cv E c ρ σ).bind fun r=>E.e (if r.1 then a else b) ρ r.2
 | .callF f args=>(kL E args ρ σ).bind fun r=>(cO E f (r.1.map aA.bind) r.2).bind fun q=>q.1.opd?.map fun U=>(U,q.2)
 | .mk c args=>(jC E args ρ σ).bind fun r=>(iB c r.1).map fun v=>(.v v,r.2)
 | .callB b args=>(rS E args ρ σ).bind fun r=>(vN b r.1).map fun v=>(.v v,r.2)
 | .callM e m=>(eO E e ρ σ).bind fun r=>r.1.inst?.bind fun p=>(P.meth p.1 m).bind fun f=>(E.c f [.v r.1] []).bind fun q=>q.1.opd?.map fun U=>(U,r.2)
 | .callS m e args=>match m with
  | .append=>kC E e args ρ σ
  | .pop=>D6 E e args ρ σ
  | .startswith=>qf P E .startswith e args ρ σ
  | .split=>qf P E .split e args ρ σ
  | .index=>qf P E .index e args ρ σ
  | .get=>qf P E .get e args ρ σ
 | .comp elt gs=>(dQ E elt gs ρ σ).bind fun r=>if cU r.1.length then some (.own (.lst r.1),r.2) else none
 | .stuck=>none
noncomputable def CL (w k x:V):Nh V:=match w with
 | .lst us=>k.int?.bind fun i=>if decide (0≤i)&&decide (i <us.length) then some (.lst (us.set i.toNat x)) else none
 | .dct ks vs=>k.str?.bind fun k=>if cU ks.length then some (.dct (eB ks vs k x).1 (eB ks vs k x).2) else none
 |_=>none
noncomputable def CE.view (e:CE):Nh (Bool×Nat×List CE×CE×List CG):=CE.casesOn (motive_1:=fun _=>Nh (Bool×Nat×List CE×CE×List CG)) e (fun _=>none) (fun _=>none) (fun _=>none) (fun _=>none) (fun _=>none) (fun _=>none) none (fun _ _=>none) (fun _ _=>none) (fun _ _ _=>none) (fun _=>none) (fun _ _ _=>none) (fun _ _ _=>none) (fun _ _ _ _ _=>none) (fun _=>none) (fun _=>none) (fun _=>none) (fun _ _ _=>none) (fun a b=>some (false,a,b,.stuck,[])) (fun _ _=>none) (fun _ _=>none) (fun _ _=>none) (fun _ _ _=>none) (fun a b=>some (true,0,[],a,b)) none
theorem CE.view_inv (e:CE) (q:Bool×Nat×List CE×CE×List CG):e.view=some q→e=if q.1 then .comp q.2.2.2.1 q.2.2.2.2 else .callF q.2.1 q.2.2.1:=CE.casesOn (motive_1:=fun e=>e.view=some q→e=if q.1 then .comp q.2.2.2.1 q.2.2.2.2 else .callF q.2.1 q.2.2.1) e (fun _=>ao) (fun _=>ao) (fun _=>ao) (fun _=>ao) (fun _=>ao) (fun _=>ao) ao (fun _ _=>ao) (fun _ _=>ao) (fun _ _ _=>ao) (fun _=>ao) (fun _ _ _=>ao) (fun _ _ _=>ao) (fun _ _ _ _ _=>ao) (fun _=>ao) (fun _=>ao) (fun _=>ao) (fun _ _ _=>ao) (fun _ _ h=>Ng h▸rfl) (fun _ _=>ao) (fun _ _=>ao) (fun _ _=>ao) (fun _ _ _=>ao) (fun _ _ h=>Ng h▸rfl) ao
noncomputable def CE.comp? (e:CE):Nh (CE×List CG):=e.view.bind fun q=>if q.1 then some q.2.2.2 else none
noncomputable def CE.callF? (e:CE):Nh (Nat×List CE):=e.view.bind fun q=>if q.1 then none else some (q.2.1,q.2.2.1)
theorem vT {e:CE} {q:Nat×List CE} (h:e.callF?=some q):e= .callF q.1 q.2:=by
 let ⟨p,h1,h2⟩:=Pp.mp h
 obtain ⟨_|_,p⟩:=p
 ·exact Ng h2▸CE.view_inv e _ h1
 ·cases h2
theorem sx {e:CE} {q:CE×List CG} (h:e.comp?=some q):e= .comp q.1 q.2:=by
 let ⟨p,h1,h2⟩:=Pp.mp h
 obtain ⟨_|_,p⟩:=p
 ·cases h2
 ·exact Ng h2▸CE.view_inv e _ h1
theorem aM {c:Prop} [Su c] {α:Type} {f:c→α} {q:α} (h:(if k:c then some (f k) else none)=some q):∃k,f k=q:=by
 by_cases k:c
 ·rw [dif_pos k] at h;exact ⟨k,Ng h⟩
 ·rw [dif_neg k] at h;cases h
noncomputable def tK (E:Ev) (i:Nat) (p:CE×List CG) (ρ:Loc) (σ:ag):tF:=(dQ E p.1 p.2 ρ σ).bind fun r=>if cU r.1.length then some (.next,ρ.set i (some (.v (.lst r.1))),r.2) else none
noncomputable def Kc (E:Ev) (i:Nat) (p:CE×List CG) (ρ:Loc) (σ:ag):tF:=(dQ E p.1 p.2 ρ σ).bind fun r=>if cU r.1.length then some (.next,ρ.set i (some (.cell r.2.length)),r.2++[.lst r.1]) else none
noncomputable def tD (E:Ev) (i:Nat) (e:CE) (ρ:Loc) (σ:ag):tF:=(eO E e ρ σ).bind fun r=>some (.next,ρ.set i (some (.v r.1)),r.2)
noncomputable def Hw (E:Ev) (i:Nat) (e:CE) (ρ:Loc) (σ:ag):tF:=(E.e e ρ σ).bind fun r=>r.1.own?.map fun u=>(.next,ρ.set i (some (.cell r.2.length)),r.2++[u])
noncomputable def xO (E:Ev) (p:Nat×List CE) (ρ:Loc) (σ:ag):tF:=(kL E p.2 ρ σ).bind fun r=>(cO E p.1 (r.1.map aA.bind) r.2).bind fun q=>some (match q.1 with| .ok _=> .next| .exc=> .exc,ρ,q.2)
noncomputable def dX (_P:Af) (E:Ev) (cs:CS) (ρ:Loc) (σ:ag):tF:=match cs with
 | .assign i e=>match e.comp? with
  |some p=>tK E i p ρ σ
  |none=>tD E i e ρ σ
 | .own i e=>match e.comp? with
  |some p=>Kc E i p ρ σ
  |none=>Hw E i e ρ σ
 | .assignT ts es=>(wb E ts es ρ σ).bind fun r=>some (.next,iY (ts.map (·.1)) r.1 ρ,r.2)
 | .unpack ts e=>(eO E e ρ σ).bind fun r=>r.1.tup?.bind fun us=>if us.length=ts.length then some (.next,iY ts (us.map aA.v) ρ,r.2) else none
 | .setIdx x i e=>(eO E e ρ σ).bind fun u=>(E.e x ρ u.2).bind fun X=>(eO E i ρ X.2).bind fun k=>X.1.cell?.bind fun c=>(k.2[c]?).bind fun w=>(CL w k.1 u.1).map fun w=>(.next,ρ,k.2.set c w)
 | .expr e=>match e.callF? with
  |some p=>xO E p ρ σ
  |none=>(E.e e ρ σ).bind fun r=>some (.next,ρ,r.2)
 | .ret e=>(E.e e ρ σ).bind fun r=>some (.ret r.1,ρ,r.2)
 | .ite c a b=>(cv E c ρ σ).bind fun r=>aH E (if r.1 then a else b) ρ r.2
 | .for_ t it body=>(dN E it ρ σ).bind fun r=>fy (fun x ρ σ=>(gS t x ρ).bind fun ρ=>aH E body ρ σ) r.1 ρ r.2
 | .while_ c body=>fW (cv E c) (aH E body) turns ρ σ
 | .cont=>some (.cont,ρ,σ)
 | .raise_=>some (.exc,ρ,σ)
 | .try_ _ _=>none
noncomputable def back (n:Nat) (U:aA) (σ:ag):Nh (Ac×ag):=match U with
 | .cell k=>if k <n then none else (σ[k]?).map fun u=>(.ok (.own u),σ.take n)
 | .v u=>some (.ok (.v u),σ.take n)
 | .own u=>some (.ok (.own u),σ.take n)
noncomputable def gz (fn:Fn) (args:List aA):Loc:=(args++(fn.dflts.drop (fn.dflts.length -(fn.np -args.length))).map aA.v).map some++Tq (fn.size -fn.np) none
noncomputable def Kw (P:Af) (E:Ev) (f:Nat) (args:List aA) (σ:ag):Nh (Ac×ag):=
 (P.tab f).bind fun fn=>
  if decide (args.length≤fn.np)&&decide (fn.np≤args.length+fn.dflts.length) then
   (aH E fn.body (gz fn args) σ).bind fun r=>match r.1 with
    | .next=>some (.ok (.v .none),r.2.2.take σ.length)
    | .ret U=>back σ.length U r.2.2
    | .exc=>some (.exc,r.2.2.take σ.length)
    | .cont=>none
  else none
noncomputable def step (P:Af) (E:Ev):Ev:={e:=dT P E,s:=dX P E,c:=Kw P E}
noncomputable def Nb:Ev:={e:=fun _ _ _=>none,s:=fun _ _ _=>none,c:=fun _ _ _=>none}
noncomputable def run (P:Af):Nat→Ev
 |0=>Nb
 |n+1=>step P (run P n)
end
end
section
open PySem
noncomputable def lN:Fn:={np:=0,dflts:=[],size:=0,body:=
 [.ret (.callS .split (.glob [67,79,78,68,73,84,73,79,78,83]) [(.cst (.str [32]))])]}
noncomputable def kI:Fn:={np:=1,dflts:=[],size:=1,body:=
 [.ite (.cmp (.var 0) .nin (.callF 0 []))
  [.raise_]
  [],
 .ret (.callS .index (.callF 0 []) [(.var 0)])]}
noncomputable def ue:Fn:={np:=1,dflts:=[],size:=1,body:=
 [.ret (.idx (.callF 0 []) (.bin .bxor (.callF 1 [(.var 0)]) (.cst (.int 1))))]}
noncomputable def oB:Fn:={np:=1,dflts:=[],size:=2,body:=
 [.for_ (.one 1) (.seq (.tup [(.cst (.str [106])),(.cst (.str [115,101,116])),(.cst (.str [99,109,111,118]))]))
  [.ite (.and [(.callS .startswith (.var 0) [(.var 1)]),(.cmp (.slc (.var 0) (some (.callB .len [(.var 1)])) none) .in_ (.callF 0 []))])
   [.ret (.slc (.var 0) (some (.callB .len [(.var 1)])) none)]
   []],
 .ret (.cst (.str []))]}
noncomputable def qV:Fn:={np:=1,dflts:=[],size:=1,body:=
 [.ite (.cmp (.var 0) .eq (.cst (.str [106,109,112])))
  [.ret (.cst (.str [106,117,109,112]))]
  [],
 .ite (.cmp (.var 0) .in_ (.tup [(.cst (.str [108,111,111,112])),(.cst (.str [108,111,111,112,101])),(.cst (.str [108,111,111,112,110,101])),(.cst (.str [106,114,99,120,122]))]))
  [.ret (.cst (.str [98,114,97,110,99,104]))]
  [],
 .ite (.and [(.callS .startswith (.var 0) [(.cst (.str [106]))]),(.cmp (.callF 3 [(.var 0)]) .ne (.cst (.str [])))])
  [.ret (.cst (.str [98,114,97,110,99,104]))]
  [],
 .ite (.cmp (.var 0) .eq (.cst (.str [99,97,108,108])))
  [.ret (.cst (.str [99,97,108,108]))]
  [],
 .ite (.cmp (.var 0) .eq (.cst (.str [114,101,116])))
  [.ret (.cst (.str [114,101,116,117,114,110]))]
  [],
 .ite (.cmp (.var 0) .in_ (.tup [(.cst (.str [104,108,116])),(.cst (.str [117,100,50]))]))
  [.ret (.cst (.str [115,116,111,112]))]
  [],
 .ret (.cst (.str [111,110]))]}
noncomputable def qs:Fn:={np:=1,dflts:=[],size:=2,body:=
 [.ite (.cmp (.var 0) .isnt (.cst .none))
  [.for_ (.one 1) (.seq (.attr (.var 0) .operands))
   [.ite (.cmp (.attr (.var 1) .kind) .eq (.cst (.str [114,101,108])))
    [.ret (.attr (.var 1) .name)]
    []]]
  [],
 .ret (.cst (.str []))]}
noncomputable def mM:Fn:={np:=1,dflts:=[],size:=1,body:=
 [.ite (.or [(.cmp (.var 0) .is_ (.cst .none)),(.cmp (.slc (.attr (.var 0) .name) none (some (.cst (.int 1)))) .ne (.cst (.str [106])))])
  [.ret (.cst (.str []))]
  [],
 .ret (.callF 3 [(.attr (.var 0) .name)])]}
noncomputable def wq:Fn:={np:=1,dflts:=[],size:=1,body:=
 [.ret (.and [(.cmp (.var 0) .isnt (.cst .none)),(.cmp (.attr (.var 0) .name) .eq (.cst (.str [106,109,112]))),(.cmp (.callF 5 [(.var 0)]) .ne (.cst (.str [])))])]}
noncomputable def IV:Fn:={np:=2,dflts:=[],size:=2,body:=
 [.ret (.mk .ins [(.attr (.var 0) .name),(.lst [(.mk .rel [(.cst (.int 0)),(.var 1)])]),(.attr (.var 0) .prefix_)])]}
noncomputable def B4:Fn:={np:=1,dflts:=[],size:=1,body:=
 [.ret (.cmp (.callF 4 [(.attr (.var 0) .name)]) .in_ (.tup [(.cst (.str [111,110])),(.cst (.str [98,114,97,110,99,104])),(.cst (.str [99,97,108,108]))]))]}
noncomputable def jL:Fn:={np:=1,dflts:=[],size:=5,body:=
 [.own 1 .dct0,
 .for_ (.two 2 3) (.enum (.var 0))
  [.for_ (.one 4) (.seq (.attr (.var 3) .labels))
   [.ite (.cmp (.var 4) .in_ (.var 1))
    [.raise_]
    [],
   .setIdx (.var 1) (.var 4) (.var 2)]],
 .ret (.var 1)]}
noncomputable def aU:Fn:={np:=1,dflts:=[],size:=4,body:=
 [.ite (.or [(.cmp (.callB .len [(.var 0)]) .eq (.cst (.int 0))),(.cmp (.attr (.idx (.var 0) (.neg 1)) .instruction) .isnt (.cst .none))])
  [.raise_]
  [],
 .for_ (.one 1) (.seq (.slc (.var 0) none (some (.neg 1))))
  [.ite (.cmp (.attr (.var 1) .instruction) .is_ (.cst .none))
   [.raise_]
   [],
  .for_ (.one 2) (.seq (.attr (.attr (.var 1) .instruction) .operands))
   [.ite (.and [(.cmp (.attr (.var 2) .kind) .eq (.cst (.str [114,101,108]))),(.or [(.cmp (.attr (.var 2) .name) .eq (.cst (.str []))),(.cmp (.attr (.var 2) .worth) .ne (.cst (.int 0)))])])
    [.raise_]
    [],
   .ite (.and [(.cmp (.attr (.var 2) .kind) .eq (.cst (.str [109,101,109]))),.stuck,(.cmp (.attr (.var 2) .name) .eq (.cst (.str [])))])
    [.raise_]
    []]],
 .assign 3 (.callF 10 [(.var 0)]),
 .for_ (.one 1) (.seq (.slc (.var 0) none (some (.neg 1))))
  [.for_ (.one 2) (.seq (.attr (.attr (.var 1) .instruction) .operands))
   [.ite (.and [(.cmp (.callM (.var 2) .symbol) .in_ (.var 3)),(.cmp (.attr (.var 2) .worth) .ne (.cst (.int 0)))])
    [.raise_]
    []]]]}
noncomputable def uc:Fn:={np:=1,dflts:=[],size:=2,body:=
 [.assign 1 (.idx (.callS .split (.glob [65,84,79,77,83]) []) (.bin .shr (.callF 1 [(.var 0)]) (.cst (.int 1)))),
 .ret (.ite (.cmp (.var 1) .in_ (.tup [(.cst (.str [98,101])),(.cst (.str [108,101]))])) (.callB .list_ [(.var 1)]) (.lst [(.var 1)]))]}
noncomputable def wI:Fn:={np:=2,dflts:=[],size:=5,body:=
 [.ite (.cmp (.bin .band (.bin .bxor (.callF 1 [(.var 0)]) (.callF 1 [(.var 1)])) (.cst (.int 1))) .eq (.cst (.int 1)))
  [.ret (.cst (.bool false))]
  [],
 .assignT [(2,false),(3,false)] [(.callF 12 [(.var 1)]),(.callF 12 [(.var 0)])],
 .ite (.cmp (.bin .band (.callF 1 [(.var 0)]) (.cst (.int 1))) .eq (.cst (.int 1)))
  [.assignT [(2,false),(3,false)] [(.var 3),(.var 2)]]
  [],
 .ret (.callB .all_ [(.comp (.cmp (.var 4) .in_ (.var 2)) [(.mk (.one 4) (.seq (.var 3)) [])])])]}
noncomputable def tf:Fn:={np:=2,dflts:=[],size:=2,body:=
 [.ite (.or [(.cmp (.var 0) .eq (.cst (.str []))),(.cmp (.var 1) .eq (.cst (.str [])))])
  [.ret (.neg 1)]
  [],
 .ite (.callF 13 [(.var 0),(.var 1)])
  [.ret (.cst (.int 1))]
  [],
 .ret (.ite (.callF 13 [(.var 0),(.callF 2 [(.var 1)])]) (.cst (.int 0)) (.neg 1))]}
noncomputable def nZ:Fn:={np:=3,dflts:=[],size:=4,body:=
 [.own 3 (.lst []),
 .while_ (.and [(.cmp (.var 2) .nin (.var 3)),(.callF 7 [(.attr (.idx (.var 0) (.var 2)) .instruction)]),(.cmp (.callF 5 [(.attr (.idx (.var 0) (.var 2)) .instruction)]) .in_ (.var 1))])
  [.expr (.callS .append (.var 3) [(.var 2)]),
  .assign 2 (.idx (.var 1) (.callF 5 [(.attr (.idx (.var 0) (.var 2)) .instruction)]))],
 .ret (.var 2)]}
noncomputable def nY:Fn:={np:=4,dflts:=[],size:=7,body:=
 [.assignT [(4,true),(2,false)] [(.lst []),(.callF 15 [(.var 0),(.var 1),(.var 2)])],
 .while_ (.cmp (.var 2) .nin (.var 4))
  [.expr (.callS .append (.var 4) [(.var 2)]),
  .assign 5 (.attr (.idx (.var 0) (.var 2)) .instruction),
  .assign 6 (.callF 14 [(.var 3),(.callF 6 [(.var 5)])]),
  .ite (.and [(.cmp (.var 6) .eq (.cst (.int 1))),(.cmp (.callF 5 [(.var 5)]) .in_ (.var 1))])
   [.assign 2 (.callF 15 [(.var 0),(.var 1),(.idx (.var 1) (.callF 5 [(.var 5)]))])]
   [.ite (.cmp (.var 6) .eq (.cst (.int 0)))
    [.assign 2 (.callF 15 [(.var 0),(.var 1),(.bin .add (.var 2) (.cst (.int 1)))])]
    [.ret (.var 2)]]],
 .ret (.var 2)]}
noncomputable def i4:Fn:={np:=3,dflts:=[],size:=7,body:=
 [.ite (.cmp (.callB .len [(.attr (.idx (.var 0) (.var 1)) .labels)]) .gt (.cst (.int 0)))
  [.ret (.tup [(.var 0),(.idx (.attr (.idx (.var 0) (.var 1)) .labels) (.cst (.int 0)))])]
  [],
 .assignT [(3,false),(4,false)] [(.bin .add (.bin .add (.callB .list_ [(.var 2)]) (.callB .list_ [(.callF 10 [(.var 0)])])) (.callF 19 [(.var 0)])),(.cst (.int 1))],
 .assign 3 (.bin .add (.var 3) (.comp (.callF 5 [(.attr (.var 6) .instruction)]) [(.mk (.one 6) (.seq (.var 0)) [])])),
 .while_ (.cmp (.bin .add (.cst (.str [48,116])) (.callB .str_ [(.var 4)])) .in_ (.var 3))
  [.assign 4 (.bin .add (.var 4) (.cst (.int 1)))],
 .assign 5 (.bin .add (.cst (.str [48,116])) (.callB .str_ [(.var 4)])),
 .ret (.tup [(.bin .add (.bin .add (.slc (.var 0) none (some (.var 1))) (.lst [(.mk .line [(.lst [(.var 5)]),(.attr (.idx (.var 0) (.var 1)) .instruction)])])) (.slc (.var 0) (some (.bin .add (.var 1) (.cst (.int 1)))) none)),(.var 5)])]}
noncomputable def kT:Fn:={np:=2,dflts:=[],size:=9,body:=
 [.for_ (.one 2) (.range [(.bin .sub (.callB .len [(.var 0)]) (.cst (.int 1)))])
  [.assignT [(3,false),(4,false)] [(.attr (.idx (.var 0) (.var 2)) .instruction),(.callF 10 [(.var 0)])],
  .assign 5 (.callF 6 [(.var 3)]),
  .ite (.or [(.cmp (.callF 5 [(.var 3)]) .nin (.var 4)),(.not (.or [(.cmp (.attr (.var 3) .name) .in_ (.tup [(.cst (.str [106,109,112])),(.cst (.str [99,97,108,108]))])),(.cmp (.var 5) .ne (.cst (.str [])))]))])
   [.cont]
   [],
  .assign 6 (.idx (.var 4) (.callF 5 [(.var 3)])),
  .assign 7 (.callF 16 [(.var 0),(.var 4),(.var 6),(.var 5)]),
  .ite (.cmp (.var 7) .ne (.var 6))
   [.unpack [0,8] (.callF 17 [(.var 0),(.var 7),(.var 1)]),
   .assign 0 (.bin .add (.bin .add (.slc (.var 0) none (some (.var 2))) (.lst [(.mk .line [(.attr (.idx (.var 0) (.var 2)) .labels),(.callF 8 [(.var 3),(.var 8)])])])) (.slc (.var 0) (some (.bin .add (.var 2) (.cst (.int 1)))) none))]
   []],
 .ret (.var 0)]}
noncomputable def ip:Fn:={np:=1,dflts:=[],size:=4,body:=
 [.own 1 (.lst []),
 .for_ (.one 2) (.seq (.slc (.var 0) none (some (.neg 1))))
  [.for_ (.one 3) (.seq (.attr (.attr (.var 2) .instruction) .operands))
   [.ite (.and [(.cmp (.attr (.var 3) .kind) .ne (.cst (.str [114,101,108]))),(.cmp (.callM (.var 3) .symbol) .ne (.cst (.str [])))])
    [.expr (.callS .append (.var 1) [(.callM (.var 3) .symbol)])]
    []]],
 .ret (.var 1)]}
noncomputable def j9:Fn:={np:=2,dflts:=[],size:=6,body:=
 [.assign 2 (.bin .add (.bin .add (.callB .list_ [(.var 1)]) (.callF 19 [(.var 0)])) (.comp (.callF 5 [(.attr (.var 3) .instruction)]) [(.mk (.one 3) (.seq (.var 0)) [])])),
 .ret (.comp (.mk .line [(.comp (.var 5) [(.mk (.one 5) (.seq (.attr (.var 4) .labels)) [(.cmp (.var 5) .in_ (.var 2))])]),(.attr (.var 4) .instruction)]) [(.mk (.one 4) (.seq (.var 0)) [])])]}
noncomputable def qb:Fn:={np:=2,dflts:=[],size:=9,body:=
 [.assign 2 (.callF 10 [(.var 0)]),
 .assignT [(3,true),(4,true)] [(.comp (.cst (.bool false)) [(.mk (.one 8) (.seq (.var 0)) [])]),(.lst [(.cst (.int 0))])],
 .for_ (.one 5) (.seq (.bin .add (.callB .list_ [(.var 1)]) (.callF 19 [(.var 0)])))
  [.ite (.cmp (.var 5) .in_ (.var 2))
   [.expr (.callS .append (.var 4) [(.idx (.var 2) (.var 5))])]
   []],
 .while_ (.cmp (.callB .len [(.var 4)]) .gt (.cst (.int 0)))
  [.assign 6 (.callS .pop (.var 4) []),
  .ite (.idx (.var 3) (.var 6))
   [.cont]
   [],
  .setIdx (.var 3) (.var 6) (.cst (.bool true)),
  .assign 7 (.attr (.idx (.var 0) (.var 6)) .instruction),
  .ite (.cmp (.var 7) .is_ (.cst .none))
   [.cont]
   [],
  .ite (.cmp (.callF 5 [(.var 7)]) .in_ (.var 2))
   [.expr (.callS .append (.var 4) [(.idx (.var 2) (.callF 5 [(.var 7)]))])]
   [],
  .ite (.callF 9 [(.var 7)])
   [.expr (.callS .append (.var 4) [(.bin .add (.var 6) (.cst (.int 1)))])]
   []],
 .ret (.var 3)]}
noncomputable def jM:Fn:={np:=2,dflts:=[],size:=5,body:=
 [.assign 2 (.callF 21 [(.var 0),(.var 1)]),
 .ret (.comp (.var 4) [(.mk (.two 3 4) (.enum (.var 0)) [(.or [(.idx (.var 2) (.var 3)),(.cmp (.attr (.var 4) .instruction) .is_ (.cst .none))])])])]}
noncomputable def ql:Fn:={np:=2,dflts:=[],size:=3,body:=
 [.assign 2 (.idx (.var 0) (.bin .add (.var 1) (.cst (.int 1)))),
 .ret (.bin .add (.bin .add (.slc (.var 0) none (some (.var 1))) (.lst [(.mk .line [(.bin .add (.attr (.idx (.var 0) (.var 1)) .labels) (.attr (.var 2) .labels)),(.attr (.var 2) .instruction)])])) (.slc (.var 0) (some (.bin .add (.var 1) (.cst (.int 2)))) none))]}
noncomputable def gw:Fn:={np:=1,dflts:=[],size:=3,body:=
 [.for_ (.one 1) (.range [(.bin .sub (.callB .len [(.var 0)]) (.cst (.int 2))),(.neg 1),(.neg 1)])
  [.assign 2 (.attr (.idx (.var 0) (.var 1)) .instruction),
  .ite (.cmp (.callF 5 [(.var 2)]) .nin (.attr (.idx (.var 0) (.bin .add (.var 1) (.cst (.int 1)))) .labels))
   [.cont]
   [],
  .ite (.or [(.cmp (.attr (.var 2) .name) .in_ (.tup [(.cst (.str [106,109,112])),(.cst (.str [106,114,99,120,122]))])),(.cmp (.callF 6 [(.var 2)]) .ne (.cst (.str [])))])
   [.assign 0 (.callF 23 [(.var 0),(.var 1)])]
   []],
 .ret (.var 0)]}
noncomputable def jI:Fn:={np:=1,dflts:=[],size:=6,body:=
 [.for_ (.one 1) (.range [(.bin .sub (.callB .len [(.var 0)]) (.cst (.int 3))),(.neg 1),(.neg 1)])
  [.assignT [(2,false),(3,false)] [(.attr (.idx (.var 0) (.var 1)) .instruction),(.attr (.idx (.var 0) (.bin .add (.var 1) (.cst (.int 1)))) .instruction)],
  .assign 4 (.callF 6 [(.var 2)]),
  .ite (.or [(.cmp (.var 4) .eq (.cst (.str []))),(.not (.callF 7 [(.var 3)])),(.cmp (.callB .len [(.attr (.idx (.var 0) (.bin .add (.var 1) (.cst (.int 1)))) .labels)]) .gt (.cst (.int 0)))])
   [.cont]
   [],
  .ite (.cmp (.callF 5 [(.var 2)]) .in_ (.attr (.idx (.var 0) (.bin .add (.var 1) (.cst (.int 2)))) .labels))
   [.assign 5 (.mk .ins [(.bin .add (.cst (.str [106])) (.callF 2 [(.var 4)])),(.attr (.var 3) .operands),(.cst (.str []))]),
   .assign 0 (.bin .add (.bin .add (.slc (.var 0) none (some (.var 1))) (.lst [(.mk .line [(.attr (.idx (.var 0) (.var 1)) .labels),(.var 5)])])) (.slc (.var 0) (some (.bin .add (.var 1) (.cst (.int 2)))) none))]
   []],
 .ret (.var 0)]}
noncomputable def iu:Fn:={np:=1,dflts:=[],size:=6,body:=
 [.for_ (.one 1) (.range [(.bin .sub (.callB .len [(.var 0)]) (.cst (.int 3))),(.neg 1),(.neg 1)])
  [.assignT [(2,false),(3,false)] [(.callF 6 [(.attr (.idx (.var 0) (.var 1)) .instruction)]),(.idx (.var 0) (.bin .add (.var 1) (.cst (.int 1))))],
  .ite (.or [(.cmp (.var 2) .eq (.cst (.str []))),(.cmp (.callB .len [(.attr (.var 3) .labels)]) .gt (.cst (.int 0)))])
   [.cont]
   [],
  .assign 4 (.callF 14 [(.callF 2 [(.var 2)]),(.callF 6 [(.attr (.var 3) .instruction)])]),
  .ite (.cmp (.var 4) .eq (.cst (.int 0)))
   [.assign 0 (.callF 23 [(.var 0),(.bin .add (.var 1) (.cst (.int 1)))])]
   [.ite (.cmp (.var 4) .eq (.cst (.int 1)))
    [.assign 5 (.mk .ins [(.cst (.str [106,109,112])),(.attr (.attr (.var 3) .instruction) .operands),(.cst (.str []))]),
    .assign 0 (.bin .add (.bin .add (.slc (.var 0) none (some (.bin .add (.var 1) (.cst (.int 1))))) (.lst [(.mk .line [(.lst []),(.var 5)])])) (.slc (.var 0) (some (.bin .add (.var 1) (.cst (.int 2)))) none))]
    []]],
 .ret (.var 0)]}
noncomputable def mJ:Fn:={np:=1,dflts:=[],size:=6,body:=
 [.assignT [(1,false),(2,true)] [(.callF 10 [(.var 0)]),(.lst [])],
 .for_ (.one 3) (.seq (.var 0))
  [.assign 4 (.attr (.var 3) .instruction),
  .ite (.and [(.callF 7 [(.var 4)]),(.cmp (.callF 5 [(.var 4)]) .in_ (.var 1))])
   [.assign 5 (.attr (.idx (.var 0) (.idx (.var 1) (.callF 5 [(.var 4)]))) .instruction),
   .ite (.and [(.cmp (.var 5) .isnt (.cst .none)),(.cmp (.attr (.var 5) .name) .in_ (.callS .split (.glob [69,78,68,83]) []))])
    [.assign 4 (.var 5)]
    []]
   [],
  .expr (.callS .append (.var 2) [(.mk .line [(.attr (.var 3) .labels),(.var 4)])])],
 .ret (.var 2)]}
noncomputable def mI:Fn:={np:=2,dflts:=[],size:=3,body:=
 [.for_ (.one 2) (.range [(.var 1),(.bin .sub (.callB .len [(.var 0)]) (.cst (.int 1)))])
  [.ite (.not (.callF 9 [(.attr (.idx (.var 0) (.var 2)) .instruction)]))
   [.ret (.var 2)]
   []],
 .ret (.neg 1)]}
noncomputable def pG:Fn:={np:=5,dflts:=[],size:=10,body:=
 [.for_ (.two 5 6) (.enum (.slc (.var 0) none (some (.neg 1))))
  [.assign 7 (.attr (.var 6) .instruction),
  .assign 8 (.callS .get (.var 1) [(.callF 5 [(.var 7)]),(.neg 1)]),
  .ite (.or [(.cmp (.var 8) .lt (.cst (.int 0))),(.cmp (.callF 4 [(.attr (.var 7) .name)]) .ne (.cst (.str [98,114,97,110,99,104]))),(.cmp (.callF 6 [(.var 7)]) .ne (.cst (.str [])))])
   [.cont]
   [],
  .assign 9 (.cmp2 (.var 3) .le (.var 5) .le (.var 4)),
  .ite (.or [(.cmp (.var 9) .ne (.cmp2 (.var 3) .le (.var 8) .le (.var 4))),(.and [(.not (.var 9)),(.cmp2 (.callB .min_ [(.var 5),(.var 8)]) .le (.var 2) .lt (.callB .max_ [(.var 5),(.var 8)]))])])
   [.ret (.cst (.bool true))]
   []],
 .ret (.cst (.bool false))]}
noncomputable def j0:Fn:={np:=1,dflts:=[],size:=7,body:=
 [.assign 1 (.callF 10 [(.var 0)]),
 .for_ (.one 2) (.range [(.bin .sub (.callB .len [(.var 0)]) (.cst (.int 1)))])
  [.assign 3 (.attr (.idx (.var 0) (.var 2)) .instruction),
  .ite (.or [(.not (.callF 7 [(.var 3)])),(.cmp (.callF 5 [(.var 3)]) .nin (.var 1))])
   [.cont]
   [],
  .assign 4 (.idx (.var 1) (.callF 5 [(.var 3)])),
  .assign 5 (.callF 28 [(.var 0),(.var 4)]),
  .ite (.or [(.cmp (.var 4) .eq (.cst (.int 0))),(.cmp (.var 5) .lt (.cst (.int 0))),(.cmp2 (.var 4) .le (.var 2) .le (.var 5)),(.callF 9 [(.attr (.idx (.var 0) (.bin .sub (.var 4) (.cst (.int 1)))) .instruction)])])
   [.cont]
   [],
  .ite (.callF 29 [(.var 0),(.var 1),(.var 2),(.var 4),(.var 5)])
   [.cont]
   [],
  .assign 6 (.bin .add (.lst [(.mk .line [(.bin .add (.attr (.idx (.var 0) (.var 2)) .labels) (.attr (.idx (.var 0) (.var 4)) .labels)),(.attr (.idx (.var 0) (.var 4)) .instruction)])]) (.slc (.var 0) (some (.bin .add (.var 4) (.cst (.int 1)))) (some (.bin .add (.var 5) (.cst (.int 1)))))),
  .ite (.cmp (.var 4) .gt (.var 2))
   [.ret (.bin .add (.bin .add (.bin .add (.slc (.var 0) none (some (.var 2))) (.var 6)) (.slc (.var 0) (some (.bin .add (.var 2) (.cst (.int 1)))) (some (.var 4)))) (.slc (.var 0) (some (.bin .add (.var 5) (.cst (.int 1)))) none))]
   [],
  .ret (.bin .add (.bin .add (.bin .add (.slc (.var 0) none (some (.var 4))) (.slc (.var 0) (some (.bin .add (.var 5) (.cst (.int 1)))) (some (.var 2)))) (.var 6)) (.slc (.var 0) (some (.bin .add (.var 2) (.cst (.int 1)))) none))],
 .ret (.var 0)]}
noncomputable def mq:Fn:={np:=2,dflts:=[],size:=2,body:=
 [.assign 0 (.callF 22 [(.callF 18 [(.var 0),(.var 1)]),(.var 1)]),
 .assign 0 (.callF 26 [(.callF 20 [(.var 0),(.var 1)])]),
 .assign 0 (.callF 25 [(.callF 20 [(.var 0),(.var 1)])]),
 .assign 0 (.callF 27 [(.callF 24 [(.var 0)])]),
 .ret (.callF 20 [(.callF 30 [(.callF 22 [(.var 0),(.var 1)])]),(.var 1)])]}
noncomputable def iM:Fn:={np:=2,dflts:=[.tup []],size:=4,body:=
 [.expr (.callF 11 [(.var 0)]),
 .assign 2 (.callF 20 [(.var 0),(.var 1)]),
 .assign 3 (.lst []),
 .while_ (.cmp (.callF 33 [(.var 2)]) .ne (.var 3))
  [.assign 3 (.callF 33 [(.var 2)]),
  .assign 2 (.callF 31 [(.var 2),(.var 1)])],
 .ret (.var 2)]}
noncomputable def kR:Fn:={np:=1,dflts:=[],size:=2,body:=
 [.ret (.comp (.callM (.var 1) .told) [(.mk (.one 1) (.seq (.var 0)) [])])]}
noncomputable def qg:Fn:={np:=1,dflts:=[],size:=1,body:=
 [.ite (.cmp (.var 0) .eq (.cst (.int 64)))
  [.ret (.callS .split (.glob [78,65,77,69,83,95,54,52]) [])]
  [],
 .ite (.cmp (.var 0) .eq (.cst (.int 32)))
  [.ret (.callS .split (.glob [78,65,77,69,83,95,51,50]) [])]
  [],
 .ite (.cmp (.var 0) .eq (.cst (.int 16)))
  [.ret (.callS .split (.glob [78,65,77,69,83,95,49,54]) [])]
  [],
 .ite (.cmp (.var 0) .eq (.cst (.int 8)))
  [.ret (.callS .split (.glob [78,65,77,69,83,95,56]) [])]
  [],
 .ret (.lst [])]}
noncomputable def pE:Fn:={np:=1,dflts:=[],size:=1,body:=
 [.ite (.cmp (.var 0) .eq (.cst (.int 32)))
  [.ret (.cst (.str [100]))]
  [],
 .ite (.cmp (.var 0) .eq (.cst (.int 16)))
  [.ret (.cst (.str [119]))]
  [],
 .ite (.cmp (.var 0) .eq (.cst (.int 8)))
  [.ret (.cst (.str [98]))]
  [],
 .ret (.cst (.str []))]}
noncomputable def IE:Fn:={np:=2,dflts:=[],size:=3,body:=
 [.assign 2 (.callF 34 [(.var 1)]),
 .ite (.or [(.cmp (.var 2) .eq (.lst [])),(.not (.cmp2 (.cst (.int 0)) .le (.var 0) .le (.cst (.int 15))))])
  [.raise_]
  [],
 .ite (.cmp (.var 0) .lt (.cst (.int 8)))
  [.ret (.mk .register [(.idx (.var 2) (.var 0)),(.cst (.str [103,112,114])),(.var 0),(.var 1)])]
  [],
 .ret (.mk .register [(.bin .add (.bin .add (.cst (.str [114])) (.callB .str_ [(.var 0)])) (.callF 35 [(.var 1)])),(.cst (.str [103,112,114])),(.var 0),(.var 1)])]}
noncomputable def vw:Fn:={np:=0,dflts:=[],size:=0,body:=
 [.ret (.bin .add (.bin .pow (.cst (.int 10)) (.cst (.int 30))) (.cst (.int 57)))]}
noncomputable def pZ:Fn:={np:=1,dflts:=[],size:=3,body:=
 [.assign 1 (.cst (.int 0)),
 .for_ (.one 2) (.seq (.rev (.slc (.var 0) none (some (.cst (.int 40))))))
  [.assign 1 (.bin .add (.bin .mul (.var 1) (.callF 37 [])) (.bin .mod (.callB .int_ [(.var 2)]) (.callF 37 [])))],
 .ret (.lst [(.var 1),(.bin .add (.cst (.int 149)) (.bin .mod (.callB .len [(.var 0)]) (.cst (.int 1000)))),(.cst (.int 0))])]}
noncomputable def jV:Fn:={np:=2,dflts:=[],size:=3,body:=
 [.ite (.cmp (.idx (.var 0) (.cst (.int 0))) .gt (.cst (.int 0)))
  [.assign 2 (.bin .mod (.idx (.var 0) (.cst (.int 0))) (.var 1)),
  .setIdx (.var 0) (.cst (.int 0)) (.bin .fdiv (.idx (.var 0) (.cst (.int 0))) (.var 1)),
  .ret (.var 2)]
  [],
 .setIdx (.var 0) (.cst (.int 2)) (.bin .add (.idx (.var 0) (.cst (.int 2))) (.cst (.int 1))),
 .setIdx (.var 0) (.cst (.int 1)) (.bin .mod (.bin .add (.bin .mul (.idx (.var 0) (.cst (.int 1))) (.cst (.int 48271))) (.bin .mul (.idx (.var 0) (.cst (.int 2))) (.idx (.var 0) (.cst (.int 2))))) (.cst (.int 2147483647))),
 .ret (.bin .mod (.bin .fdiv (.idx (.var 0) (.cst (.int 1))) (.cst (.int 32))) (.var 1))]}
noncomputable def qx:Fn:={np:=4,dflts:=[],size:=6,body:=
 [.assignT [(4,false),(5,false)] [(.callF 39 [(.var 0),(.cst (.int 8))]),(.bin .add (.cst (.str [97])) (.callB .str_ [(.callF 39 [(.var 0),(.bin .add (.var 2) (.cst (.int 1)))])]))],
 .ite (.cmp (.var 4) .in_ (.tup [(.cst (.int 1)),(.cst (.int 2))]))
  [.ret (.mk .ins [(.cst (.str [106,109,112])),(.lst [(.mk .rel [(.cst (.int 0)),(.var 5)])])])]
  [],
 .ite (.and [(.cmp (.var 4) .eq (.cst (.int 3))),(.cmp (.var 3) .ne (.lst []))])
  [.ret (.mk .ins [(.callS .pop (.var 3) []),(.lst [(.mk .rel [(.cst (.int 0)),(.var 5)])])])]
  [],
 .ite (.cmp (.var 4) .eq (.cst (.int 4)))
  [.ret (.mk .ins [(.cst (.str [114,101,116])),(.lst [])])]
  [],
 .ite (.cmp (.var 4) .eq (.cst (.int 5)))
  [.ret (.mk .ins [(.idx (.lst [(.cst (.str [106,101])),(.cst (.str [106,97,101]))]) (.callF 39 [(.var 0),(.cst (.int 2))])),(.lst [(.mk .rel [(.cst (.int 0)),(.var 5)])])])]
  [],
 .ite (.cmp (.var 4) .eq (.cst (.int 6)))
  [.ret (.mk .ins [(.cst (.str [99,97,108,108])),(.lst [(.mk .rel [(.cst (.int 0)),(.idx (.lst [(.cst (.str [48,116,49])),(.cst (.str [102,97,114])),(.cst (.str [48,116,50]))]) (.callF 39 [(.var 0),(.cst (.int 3))]))])])])]
  [],
 .ret (.mk .ins [(.cst (.str [109,111,118])),(.lst [(.mk .reg [(.callF 36 [(.cst (.int 0)),(.cst (.int 32))])]),(.mk .imm [(.var 1)])])])]}
noncomputable def uk:Fn:={np:=1,dflts:=[],size:=1,body:=
 [.ret (.ite (.and [(.cmp (.var 0) .ne (.tup [])),(.cmp (.idx (.var 0) (.cst (.int 2))) .ne (.tup [])),(.cmp (.idx (.idx (.idx (.var 0) (.cst (.int 2))) (.cst (.int 0))) (.cst (.int 0))) .eq (.cst (.str [114,101,108])))]) (.idx (.idx (.idx (.var 0) (.cst (.int 2))) (.cst (.int 0))) (.cst (.int 2))) (.cst (.str [])))]}
noncomputable def kh:Fn:={np:=1,dflts:=[],size:=11,body:=
 [.assign 1 (.callB .dict_ [(.comp (.tup [(.var 9),(.var 7)]) [(.mk (.two 7 8) (.enum (.var 0)) []),(.mk (.one 9) (.seq (.idx (.var 8) (.cst (.int 0)))) [])])]),
 .own 2 .dct0,
 .for_ (.two 3 4) (.enum (.var 0))
  [.assign 5 (.callS .get (.var 1) [(.callF 41 [(.idx (.var 4) (.cst (.int 1)))]),(.neg 1)]),
  .ite (.and [(.cmp (.var 5) .ge (.cst (.int 0))),(.or [(.cmp (.slc (.idx (.idx (.var 4) (.cst (.int 1))) (.cst (.int 0))) none (some (.cst (.int 4)))) .eq (.cst (.str [108,111,111,112]))),(.cmp (.idx (.idx (.var 4) (.cst (.int 1))) (.cst (.int 0))) .eq (.cst (.str [106,114,99,120,122])))])])
   [.assign 6 (.ite (.cmp (.var 5) .le (.var 3)) (.slc (.var 0) (some (.var 5)) (some (.var 3))) (.slc (.var 0) (some (.bin .add (.var 3) (.cst (.int 1)))) (some (.var 5)))),
   .setIdx (.var 2) (.idx (.idx (.var 4) (.cst (.int 1))) (.cst (.int 0))) (.comp (.idx (.idx (.idx (.idx (.var 10) (.cst (.int 1))) (.cst (.int 2))) (.cst (.int 1))) (.cst (.int 1))) [(.mk (.one 10) (.seq (.var 6)) [(.and [(.cmp (.idx (.var 10) (.cst (.int 1))) .ne (.tup [])),(.cmp (.idx (.idx (.var 10) (.cst (.int 1))) (.cst (.int 0))) .eq (.cst (.str [109,111,118])))])])])]
   []],
 .ret (.var 2)]}
noncomputable def dS:Fn:={np:=1,dflts:=[],size:=1,body:=
 [.try_ [.expr (.callF 32 [(.var 0)])] [.ret (.cst (.bool true))],
 .ret (.cst (.bool false))]}
noncomputable def wa:List CS:=
 [.own 1 (.callF 38 [(.var 0)]),
 .assignT [(2,false),(3,true)] [(.bin .add (.cst (.int 4)) (.callF 39 [(.var 1),(.cst (.int 6))])),(.lst [(.cst (.str [106,114,99,120,122])),(.cst (.str [108,111,111,112,110,101])),(.cst (.str [108,111,111,112,101])),(.cst (.str [108,111,111,112]))])],
 .assign 4 (.comp (.callF 40 [(.var 1),(.var 16),(.var 2),(.var 3)]) [(.mk (.one 16) (.range [(.var 2)]) [])]),
 .assign 5 (.comp (.mk .line [(.lst [(.bin .add (.cst (.str [97])) (.callB .str_ [(.var 17)]))]),(.var 18)]) [(.mk (.two 17 18) (.enum (.bin .add (.var 4) (.lst [(.cst .none)]))) [])]),
 .assignT [(6,false),(7,false)] [(.callF 33 [(.var 5)]),(.callF 32 [(.var 5)])],
 .assign 8 (.callF 33 [(.var 7)]),
 .assignT [(9,false),(10,false)] [(.callF 42 [(.var 6)]),(.callF 42 [(.var 8)])],
 .for_ (.one 11) (.seq (.var 10))
  [.ite (.cmp (.comp (.var 19) [(.mk (.one 19) (.seq (.idx (.var 10) (.var 11))) [(.cmp (.var 19) .nin (.idx (.var 9) (.var 11)))])]) .ne (.lst []))
   [.ret (.cst (.bool false))]
   []],
 .assign 12 (.comp (.var 21) [(.mk (.one 20) (.seq (.var 8)) []),(.mk (.one 21) (.seq (.idx (.var 20) (.cst (.int 0)))) [])]),
 .assign 13 (.comp (.callF 41 [(.idx (.var 22) (.cst (.int 1)))]) [(.mk (.one 22) (.seq (.var 8)) [(.and [(.cmp (.idx (.var 22) (.cst (.int 1))) .ne (.tup [])),(.cmp (.idx (.idx (.var 22) (.cst (.int 1))) (.cst (.int 0))) .eq (.cst (.str [99,97,108,108])))])])]),
 .ite (.or [(.cmp (.comp (.var 23) [(.mk (.one 23) (.seq (.var 13)) [(.or [(.cmp (.var 23) .in_ (.var 12)),(.cmp (.var 23) .nin (.comp (.callF 41 [(.idx (.var 24) (.cst (.int 1)))]) [(.mk (.one 24) (.seq (.var 6)) [])]))])])]) .ne (.lst [])),(.cmp (.callF 33 [(.callF 32 [(.var 7)])]) .ne (.var 8))])
  [.ret (.cst (.bool false))]
  [],
 .assignT [(11,false),(14,false)] [(.idx (.lst [(.cst (.str [97,48])),(.bin .add (.cst (.str [97])) (.callB .str_ [(.var 2)])),(.cst (.str [102,97,114]))]) (.callF 39 [(.var 1),(.cst (.int 3))])),(.idx (.lst [(.cst (.int 0)),(.cst (.int 4)),(.neg 1)]) (.callF 39 [(.var 1),(.cst (.int 3))]))],
 .assign 15 (.bin .add (.lst [(.mk .line [(.lst [(.cst (.str [98]))]),(.mk .ins [(.cst (.str [109,111,118])),(.lst [(.mk .reg [(.callF 36 [(.cst (.int 0)),(.cst (.int 64))])]),(.mk .imm [(.var 14),(.var 11)])])])])]) (.var 5))]
noncomputable def sF:CE:= .and [(.cmp (.var 11) .ne (.cst (.str [102,97,114]))),(.cmp (.var 14) .ne (.cst (.int 0)))]
noncomputable def vZ:Fn:={np:=1,dflts:=[],size:=25,body:=wa++[.ret (.cmp (.callF 43 [(.var 15)]) .eq sF)]}
noncomputable def sW:Fn:={np:=1,dflts:=[],size:=1,body:=
 [.ret (.tup [(.attr (.var 0) .labels),(.ite (.cmp (.attr (.var 0) .instruction) .is_ (.cst .none)) (.tup []) (.callM (.attr (.var 0) .instruction) .told))])]}
noncomputable def kP:Fn:={np:=1,dflts:=[],size:=2,body:=
 [.ret (.tup [(.attr (.var 0) .name),(.attr (.var 0) .prefix_),(.callB .tuple_ [(.comp (.callM (.var 1) .told) [(.mk (.one 1) (.seq (.attr (.var 0) .operands)) [])])])])]}
noncomputable def vh:Fn:={np:=1,dflts:=[],size:=1,body:=
 [.ret (.tup [(.cst (.str [114,101,103])),(.attr (.attr (.var 0) .register) .name)])]}
noncomputable def vC:Fn:={np:=1,dflts:=[],size:=1,body:=
 [.ret (.tup [(.cst (.str [105,109,109])),(.attr (.var 0) .worth),(.attr (.var 0) .name)])]}
noncomputable def uI:Fn:={np:=1,dflts:=[],size:=1,body:=
 [.ret (.tup [(.cst (.str [114,101,108])),(.attr (.var 0) .worth),(.attr (.var 0) .name)])]}
noncomputable def me:Fn:={np:=1,dflts:=[],size:=1,body:=
 [.ret (.cst (.str []))]}
noncomputable def qP:Fn:={np:=1,dflts:=[],size:=1,body:=
 [.ret (.attr (.var 0) .name)]}
noncomputable def qU:Fn:={np:=1,dflts:=[],size:=1,body:=
 [.ret (.attr (.var 0) .name)]}
noncomputable def Jy:List Fn:=[
 lN,
 kI,
 ue,
 oB,
 qV,
 qs,
 mM,
 wq,
 IV,
 B4,
 jL,
 aU,
 uc,
 wI,
 tf,
 nZ,
 nY,
 i4,
 kT,
 ip,
 j9,
 qb,
 jM,
 ql,
 gw,
 jI,
 iu,
 mJ,
 mI,
 pG,
 j0,
 mq,
 iM,
 kR,
 qg,
 pE,
 IE,
 vw,
 pZ,
 jV,
 qx,
 uk,
 kh,
 dS,
 vZ,
 sW,
 kP,
 vh,
 vC,
 uI,
 me,
 qP,
 qU]
noncomputable def tab (i:Nat):Nh Fn:=Jy[i]?
noncomputable def meth (c:iG) (m:EE):Nh Nat:=match c with
 | .line=>match m with
  | .told=>some 45
  | .symbol=>none
 | .ins=>match m with
  | .told=>some 46
  | .symbol=>none
 | .reg=>match m with
  | .told=>some 47
  | .symbol=>some 50
 | .imm=>match m with
  | .told=>some 48
  | .symbol=>some 51
 | .rel=>match m with
  | .told=>some 49
  | .symbol=>some 52
 | .register=>none
noncomputable def Dd:List (Sg×Sg):=[
 ([67,79,78,68,73,84,73,79,78,83],[111,32,110,111,32,98,32,97,101,32,101,32,110,101,32,98,101,32,97,32,115,32,110,115,32,112,32,110,112,32,108,32,103,101,32,108,101,32,103]),
 ([65,84,79,77,83],[111,32,98,32,101,32,98,101,32,115,32,112,32,108,32,108,101]),
 ([69,78,68,83],[114,101,116,32,104,108,116,32,117,100,50]),
 ([78,65,77,69,83,95,56],[97,108,32,99,108,32,100,108,32,98,108,32,115,112,108,32,98,112,108,32,115,105,108,32,100,105,108]),
 ([78,65,77,69,83,95,49,54],[97,120,32,99,120,32,100,120,32,98,120,32,115,112,32,98,112,32,115,105,32,100,105]),
 ([78,65,77,69,83,95,51,50],[101,97,120,32,101,99,120,32,101,100,120,32,101,98,120,32,101,115,112,32,101,98,112,32,101,115,105,32,101,100,105]),
 ([78,65,77,69,83,95,54,52],[114,97,120,32,114,99,120,32,114,100,120,32,114,98,120,32,114,115,112,32,114,98,112,32,114,115,105,32,114,100,105])]
noncomputable def pV:List ((Sg×Nh Sg)×List Sg):=[
 (([111,32,110,111,32,98,32,97,101,32,101,32,110,101,32,98,101,32,97,32,115,32,110,115,32,112,32,110,112,32,108,32,103,101,32,108,101,32,103],some [32]),[[111],[110,111],[98],[97,101],[101],[110,101],[98,101],[97],[115],[110,115],[112],[110,112],[108],[103,101],[108,101],[103]]),
 (([111,32,98,32,101,32,98,101,32,115,32,112,32,108,32,108,101],none),[[111],[98],[101],[98,101],[115],[112],[108],[108,101]]),
 (([114,101,116,32,104,108,116,32,117,100,50],none),[[114,101,116],[104,108,116],[117,100,50]]),
 (([97,108,32,99,108,32,100,108,32,98,108,32,115,112,108,32,98,112,108,32,115,105,108,32,100,105,108],none),[[97,108],[99,108],[100,108],[98,108],[115,112,108],[98,112,108],[115,105,108],[100,105,108]]),
 (([97,120,32,99,120,32,100,120,32,98,120,32,115,112,32,98,112,32,115,105,32,100,105],none),[[97,120],[99,120],[100,120],[98,120],[115,112],[98,112],[115,105],[100,105]]),
 (([101,97,120,32,101,99,120,32,101,100,120,32,101,98,120,32,101,115,112,32,101,98,112,32,101,115,105,32,101,100,105],none),[[101,97,120],[101,99,120],[101,100,120],[101,98,120],[101,115,112],[101,98,112],[101,115,105],[101,100,105]]),
 (([114,97,120,32,114,99,120,32,114,100,120,32,114,98,120,32,114,115,112,32,114,98,112,32,114,115,105,32,114,100,105],none),[[114,97,120],[114,99,120],[114,100,120],[114,98,120],[114,115,112],[114,98,112],[114,115,105],[114,100,105]])]
noncomputable def aj:Af:={tab:=tab,meth:=meth,glob:=fun x=>Dd.lookup x,splits:=fun x s=>pV.lookup (x,s)}
end
section
open PySem PySem.W PyProof.Rows
set_option tactic.hygienic false
section
noncomputable def bF (s:Sg):Str:=⟨s.toArray⟩
theorem oK {a b:Sg} (h:bF a=bF b):a=b:=by
 have:=Nt Str.cps h
 exact List.toArray_inj this
theorem gK (s:Sg):(bF s).length=s.length:=by simp [bF,Str.length]
structure Wd where
 prog:N2
 w:PK
 K:Frag
 ca:iG→Addr
 fa:Nat→Addr
 fname:Nat→Nh Str
 P:Af
 base:Heap
noncomputable def fs:gU→Str
 | .labels=>NB "labels"
 | .instruction=>NB "instruction"
 | .name=>NB "name"
 | .operands=>NB "operands"
 | .prefix_=>NB "prefix"
 | .kind=>NB "kind"
 | .register=>NB "register"
 | .worth=>NB "worth"
 | .number=>NB "number"
 | .size=>NB "size"
inductive jJ:List gU→List PD→Prop
 |nil:jJ [] []
 |cons {f fs' e es t}:e.key= .str (fs f) t→jJ fs' es→jJ (f::fs') (e::es)
mutual
inductive b8 (Z:Wd) (D:Addr→Prop) (h:Heap):Nk→V→Prop
 |none:b8 Z D h .none .none
 |bool (b:Bool):b8 Z D h (.bool b) (.bool b)
 |int (i:Int) (t:Tok):b8 Z D h (.int i t) (.int i)
 |str (s:Sg) (t:Tok):eV s=true→b8 Z D h (.str (bF s) t) (.str s)
 |tup {a:Addr} {o:Obj} {vs:P5 Nk} {n:Nat} {us:List V}:us.length≤16777216→¬D a→h.get? a=some o→o.cls= .type "tuple"→o.data= .seq vs n→ak Z D h vs.toList us→b8 Z D h (.ref a) (.tup us)
 |lst {a:Addr} {o:Obj} {vs:P5 Nk} {n:Nat} {us:List V}:us.length≤16777216→¬D a→h.get? a=some o→o.cls= .type "list"→o.dict=none→o.data= .seq vs n→ak Z D h vs.toList us→b8 Z D h (.ref a) (.lst us)
 |dct {a:Addr} {kvs:List (Str×Nk)} {ks:List Sg} {us:List V}:ks.all eV=true→¬D a→(a==QN)=false→h.DictOf (Op Z.prog Z.w) a kvs→kvs.map (·.1)=ks.map bF→ak Z D h (kvs.map (·.2)) us→b8 Z D h (.ref a) (.dct ks us)
 |inst {a dx:Addr} {c:iG} {es:List PD} {n:Nat} {us:List V}:¬D a→¬D dx→h.get? a=some (Q2 (Z.ca c) dx)→h.get? dx=some (Tr es n)→jJ c.fields es→
   ak Z D h (es.map (·.val)) us→b8 Z D h (.ref a) (.inst c us)
inductive ak (Z:Wd) (D:Addr→Prop) (h:Heap):List Nk→List V→Prop
 |nil:ak Z D h [] []
 |cons {v:Nk} {vs:List Nk} {u:V} {us:List V}:b8 Z D h v u→ak Z D h vs us→ak Z D h (v::vs) (u::us)
end
section
variable {Z:Wd} {D D':Addr→Prop} {h h':Heap}
noncomputable def Mz (Z:Wd) (D:Addr→Prop) (h:Heap) (v:Nk):V→Prop:=V.el (v= .none) (fun b=>v= .bool b) (fun i=>∃t,v= .int i t) (fun s=>eV s=true∧∃t,v= .str (bF s) t)
 (fun us=>∃a o vs n,v= .ref a∧us.length≤16777216∧¬D a∧h.get? a=some o∧o.cls= .type "tuple"∧o.data= .seq vs n∧ak Z D h vs.toList us) (fun us=>∃a o vs n,v= .ref a∧us.length≤16777216∧¬D a∧h.get? a=some o∧o.cls= .type "list"∧o.dict=none∧o.data= .seq vs n∧ak Z D h vs.toList us)
 (fun ks us=>∃a kvs,v= .ref a∧ks.all eV=true∧¬D a∧(a==QN)=false∧h.DictOf (Op Z.prog Z.w) a kvs∧kvs.map (·.1)=ks.map bF∧ak Z D h (kvs.map (·.2)) us)
 (fun c us=>∃a dx es n,v= .ref a∧¬D a∧¬D dx∧h.get? a=some (Q2 (Z.ca c) dx)∧h.get? dx=some (Tr es n)∧jJ c.fields es∧ak Z D h (es.map (·.val)) us)
theorem b8.says {v:Nk} {u:V} (r:b8 Z D h v u):Mz Z D h v u:=by
 cases r with
 |none=>rfl
 |bool b=>rfl
 |int i t=>exact ⟨t,rfl⟩
 |str s t z=>exact ⟨z,t,rfl⟩
 |tup z d g c e r=>exact ⟨_,_,_,_,rfl,z,d,g,c,e,r⟩
 |lst z d g c x e r=>exact ⟨_,_,_,_,rfl,z,d,g,c,x,e,r⟩
 |dct z d m g e r=>exact ⟨_,_,rfl,z,d,m,g,e,r⟩
 |inst d d' g g' k r=>exact ⟨_,_,_,_,rfl,d,d',g,g',k,r⟩
theorem b8.mono (k:∀b o,¬D b→h.get? b=some o→¬D' b∧h'.get? b=some o) {v:Nk} {u:V} (r:b8 Z D h v u):b8 Z D' h' v u:=
 b8.rec (motive_1:=fun v u _=>b8 Z D' h' v u) (motive_2:=fun vs us _=>ak Z D' h' vs us) (.none) (fun b=> .bool b) (fun i t=> .int i t) (fun s t z=> .str s t z) (fun z d g c e _ ih=> .tup z (k _ _ d g).1 (k _ _ d g).2 c e ih) (fun z d g c x e _ ih=> .lst z (k _ _ d g).1 (k _ _ d g).2 c x e ih)
  (fun z d sm x e _ ih=>let ⟨o,es,ep,g,y⟩:=x;.dct z (k _ _ d g).1 sm ⟨o,es,ep,(k _ _ d g).2,y⟩ e ih) (fun d d' g g' e _ ih=> .inst (k _ _ d g).1 (k _ _ d' g').1 (k _ _ d g).2 (k _ _ d' g').2 e ih) .nil (fun _ _ x r=> .cons x r) r
theorem ak.mono (k:∀b o,¬D b→h.get? b=some o→¬D' b∧h'.get? b=some o) {vs:List Nk} {us:List V} (r:ak Z D h vs us):ak Z D' h' vs us:=
 ak.rec (motive_1:=fun v u _=>b8 Z D' h' v u) (motive_2:=fun vs us _=>ak Z D' h' vs us) (.none) (fun b=> .bool b) (fun i t=> .int i t) (fun s t z=> .str s t z) (fun z d g c e _ ih=> .tup z (k _ _ d g).1 (k _ _ d g).2 c e ih) (fun z d g c x e _ ih=> .lst z (k _ _ d g).1 (k _ _ d g).2 c x e ih)
  (fun z d sm x e _ ih=>let ⟨o,es,ep,g,y⟩:=x;.dct z (k _ _ d g).1 sm ⟨o,es,ep,(k _ _ d g).2,y⟩ e ih) (fun d d' g g' e _ ih=> .inst (k _ _ d g).1 (k _ _ d' g').1 (k _ _ d g).2 (k _ _ d' g').2 e ih) .nil (fun _ _ x r=> .cons x r) r
theorem ak.length {vs:List Nk} {us:List V} (r:ak Z D h vs us):vs.length=us.length:=by
 induction us generalizing vs with
 |nil=>cases r;rfl
 |cons u us ih=>cases r with|cons _ r=>simp [ih r]
theorem ak.append {vs vs':List Nk} {us us':List V} (r:ak Z D h vs us) (q:ak Z D h vs' us'):ak Z D h (vs++vs') (us++us'):=by
 induction us generalizing vs with
 |nil=>cases r;exact q
 |cons u us ih=>cases r with|cons x r=>exact .cons x (ih r)
theorem ak.get {vs:List Nk} {us:List V} (r:ak Z D h vs us):∀{k:Nat} {u:V},us[k]? =some u→∃v,vs[k]? =some v∧b8 Z D h v u:=by
 induction us generalizing vs with
 |nil=>intro k u e;cases e
 |cons w us ih=>
  cases r with
  |cons x r=>
   intro k u e
   cases k with
   |zero=>cases Ng e;exact ⟨_,rfl,x⟩
   |succ k=>exact ih r e
theorem ak.take (n:Nat) {vs:List Nk} {us:List V} (r:ak Z D h vs us):ak Z D h (vs.take n) (us.take n):=by
 induction us generalizing vs n with
 |nil=>cases r;rw [List.take_nil,List.take_nil];exact .nil
 |cons w us ih=>cases r with|cons x r=>cases n with
  |zero=>exact .nil
  |succ n=>exact .cons x (ih n r)
theorem ak.drop (n:Nat) {vs:List Nk} {us:List V} (r:ak Z D h vs us):ak Z D h (vs.drop n) (us.drop n):=by
 induction us generalizing vs n with
 |nil=>cases r;rw [Sm,Sm];exact .nil
 |cons w us ih=>cases r with|cons x r=>cases n with
  |zero=>exact .cons x r
  |succ n=>exact ih n r
theorem ak.reverse {vs:List Nk} {us:List V} (r:ak Z D h vs us):ak Z D h vs.reverse us.reverse:=by
 induction us generalizing vs with
 |nil=>cases r;exact .nil
 |cons w us ih=>cases r with|cons x r=>rw [UA,UA];exact (ih r).append (.cons x .nil)
theorem ak.set (n:Nat) {v:Nk} {u:V} {vs:List Nk} {us:List V} (r:ak Z D h vs us) (y:b8 Z D h v u):ak Z D h (vs.set n v) (us.set n u):=by
 induction us generalizing vs n with
 |nil=>cases r;exact .nil
 |cons w us ih=>cases r with|cons x r=>cases n with
  |zero=>exact .cons y r
  |succ n=>exact .cons x (ih n r)
theorem ak.dropLast:∀{vs:List Nk} {us:List V},ak Z D h vs us→ak Z D h vs.dropLast us.dropLast:=fun {vs us} r=>by
 rw [Rh,Rh,r.length];exact r.take _
end
noncomputable def aw (W:Addr→Prop) (h h':Heap):Prop:=∀b o,h.get? b=some o→¬W b→h'.get? b=some o
theorem aw.refl {W:Addr→Prop} {h:Heap}:aw W h h:=fun _ _ e _=>e
theorem aw.trans {W:Addr→Prop} {h h' h'':Heap} (a:aw W h h') (b:aw W h' h''):aw W h h'':=fun x o e n=>b x o (a x o e n) n
theorem aw.weaken {W W':Addr→Prop} {h h':Heap} (a:aw W h h') (s:∀b,W b→W' b):aw W' h h':=fun x o e n=>a x o e fun y=>n (s x y)
theorem aw.of_all {W:Addr→Prop} {h h':Heap} (k:∀b o,h.get? b=some o→h'.get? b=some o):aw W h h':=fun b o e _=>k b o e
theorem aw.push {W:Addr→Prop} {h:Heap} (o:Obj):aw W h (h.push o):=fun _ _ e _=>NM _ e
theorem aw.sameBut {W:Addr→Prop} {h h':Heap} {a:Addr} (s:Pe a h h') (w:W a):aw W h h':=fun b o e n=>s.extBut b o (fun x=>n (x▸w)) e
theorem aw.extBut {W:Addr→Prop} {h h':Heap} {a:Addr} (s:Heap.ExtBut a h h') (w:W a):aw W h h':=fun b o e n=>s b o (fun x=>n (x▸w)) e
theorem aw.fresh {W W':Addr→Prop} {h h' h'':Heap} (a:aw W h h') (b:aw W' h' h'') (s:∀x,W' x→W x∨h.get? x=Sb):aw W h h'':=fun x o e n=>
 b x o (a x o e n) fun y=>(s x y).elim n fun z=>by rw [z] at e;cases e
noncomputable def gE (Z:Wd) (D:Addr→Prop) (h:Heap) (a:Addr):V→Prop
 | .lst us=>us.length≤16777216∧∃items:P5 Nk,h.PlainList a items∧ak Z D h items.toList us
 | .dct ks us=>ks.all eV=true∧∃kvs:List (Str×Nk),(a==QN)=false∧h.DictOf (Op Z.prog Z.w) a kvs∧kvs.map (·.1)=ks.map bF∧ak Z D h (kvs.map (·.2)) us
 |_=>Rr
theorem gE.live {Z:Wd} {D:Addr→Prop} {h:Heap} {a:Addr} {u:V} (c:gE Z D h a u):∃o,h.get? a=some o:=by
 cases u<;>simp only [gE] at c
 ·obtain ⟨_,_,⟨_,e⟩,_⟩:=c;exact ⟨_,e⟩
 ·obtain ⟨_,_,_,⟨_,_,_,e,_⟩,_⟩:=c;exact ⟨_,e⟩
theorem gE.mono {Z:Wd} {D D':Addr→Prop} {h h':Heap} {a:Addr} {u:V} (c:gE Z D h a u) (ha:∀o,h.get? a=some o→h'.get? a=some o)
  (k:∀b o,¬D b→h.get? b=some o→¬D' b∧h'.get? b=some o):gE Z D' h' a u:=by
 cases u<;>simp only [gE] at c ⊢
 ·obtain ⟨z,i,⟨n,e⟩,r⟩:=c;exact ⟨z,i,⟨n,ha _ e⟩,r.mono k⟩
 ·obtain ⟨z,i,sm,⟨o,es,ep,e,x⟩,y,r⟩:=c;exact ⟨z,i,sm,⟨o,es,ep,ha _ e,x⟩,y,r.mono k⟩
theorem gE.rep {Z:Wd} {D D':Addr→Prop} {h:Heap} {a:Addr} {u:V} (c:gE Z D h a u) (d:¬D' a) (s:∀b,D' b→D b):b8 Z D' h (.ref a) u:=by
 have k:∀b o,¬D b→h.get? b=some o→¬D' b∧h.get? b=some o:=fun b o n e=>⟨fun x=>n (s b x),e⟩
 cases u<;>simp only [gE] at c
 ·obtain ⟨z,i,⟨n,e⟩,r⟩:=c;exact .lst z d e rfl rfl rfl (r.mono k)
 ·obtain ⟨z,i,sm,x,y,r⟩:=c;exact .dct z d sm x y (r.mono k)
structure aF (Z:Wd) (CA:List Addr) (σ:ag) (D:Addr→Prop) (h:Heap):Prop where
 len:CA.length=σ.length
 nodup:CA.Nodup
 at_:∀(k:Nat) (a:Addr) (u:V),CA[k]? =some a→σ[k]? =some u→gE Z D h a u
 inD:∀a∈CA,D a
theorem aF.live {Z:Wd} {CA:List Addr} {σ:ag} {D:Addr→Prop} {h:Heap} (c:aF Z CA σ D h) {a:Addr} (m:a∈CA):∃o,h.get? a=some o:=by
 obtain ⟨k,hk,e⟩:=O5 m
 have hk':k <σ.length:=c.len▸hk
 exact (c.at_ k a σ[k] (by rw [Nr hk,e]) (Nr hk')).live
theorem aF.mono {Z:Wd} {CA:List Addr} {σ:ag} {D:Addr→Prop} {h h':Heap} (c:aF Z CA σ D h) (k:∀b o,h.get? b=some o→(b∈CA∨¬D b)→h'.get? b=some o):aF Z CA σ D h' where
 len:=c.len
 nodup:=c.nodup
 at_:=fun i a u e e'=>(c.at_ i a u e e').mono (fun o x=>k a o x (.inl (NF e))) fun b o d x=>⟨d,k b o x (.inr d)⟩
 inD:=c.inD
theorem aF.keep {Z:Wd} {CA:List Addr} {σ:ag} {D W:Addr→Prop} {h h':Heap} (c:aF Z CA σ D h) (k:aw W h h') (s:∀b,W b→D b∧b∉CA):aF Z CA σ D h':=
 c.mono fun b o e x=>k b o e fun y=>x.elim (s b y).2 fun z=>z (s b y).1
theorem aF.shift {Z:Wd} {CA:List Addr} {σ:ag} {D D':Addr→Prop} {h:Heap} (c:aF Z CA σ D h) (s:∀b o,h.get? b=some o→D' b→D b) (m:∀a∈CA,D' a):aF Z CA σ D' h where
 len:=c.len
 nodup:=c.nodup
 at_:=fun i a u e e'=>(c.at_ i a u e e').mono (fun _ x=>x) fun b o d x=>⟨fun y=>d (s b o x y),x⟩
 inD:=m
abbrev DC (D:Addr→Prop) (C:Addr):Addr→Prop:=fun b=>D b∨b=C
noncomputable def iI (Z:Wd) (g:Heap) (CA:List Addr) (σ:ag) (D:Addr→Prop) (h:Heap) (v:Nk):aA→Prop
 | .v u=>b8 Z D h v u
 | .own u=>∃a,v= .ref a∧g.get? a=none∧Z.base.objs.size≤a∧gE Z (DC D a) h a u∧aF Z CA σ (DC D a) h
 | .cell k=>∃a,CA[k]? =some a∧v= .ref a
noncomputable def Rd (Z:Wd) (D:Addr→Prop) (h:Heap) (v:Nk) (u:V):Prop:=b8 Z D h v u∨∃a,v= .ref a∧gE Z D h a u
end
noncomputable def V.py (v:V):Ul:=V.rec (motive_1:=fun _=>Ul) (motive_2:=fun _=>List Ul) .none .bool .int (fun s=> .str (bF s)) (fun _=> .tuple) (fun _=> .list) (fun _ _ _=> .none) (fun _ _ _=> .none) [] (fun _ _=> .cons) v
noncomputable def V.pys (l:List V):List Ul:=V.rec_1 (motive_1:=fun _=>Ul) (motive_2:=fun _=>List Ul) .none .bool .int (fun s=> .str (bF s)) (fun _=> .tuple) (fun _=> .list) (fun _ _ _=> .none) (fun _ _ _=> .none) [] (fun _ _=> .cons) l
theorem v8 (u:V):u.py.depth≤u.dep:=
 V.rec (motive_1:=fun u=>u.py.depth≤u.dep) (motive_2:=fun l=>QJ (V.pys l)≤V.deps l) (Nz 0) (fun _=>Nz 0) (fun _=>Nz 0) (fun _=>Nz 0) (fun _=>NO) (fun _=>NO) (fun _ _ _=>Nz 0) (fun _ _ _=>Nz 0) (Nz 0)
  (fun _ _ h g=>Um.mpr ⟨Ni h (Nat.le_max_left ..),Ni g (Nat.le_max_right ..)⟩) u
theorem Hx (s t:Sg):(bF s==bF t)=decide (s=t):=by
 by_cases e:s=t
 ·rw [Nw e,e,Rl]
 ·rw [NR e,PL.mpr fun x=>e (oK x)]
theorem HW (a:V):a.dat=true→∀b:V,b.dat=true→Qs a.py b.py=a.eqb b:=
 V.rec (motive_1:=fun a=>a.dat=true→∀b:V,b.dat=true→Qs a.py b.py=a.eqb b) (motive_2:=fun l=>V.dats l=true→∀m,V.dats m=true→PyData.eqvAll (V.pys l) (V.pys m)=(V.tup l).eqb (.tup m))
  (fun _ b hb=>by cases b<;>first|rfl|cases hb) (fun _=>OU) (fun _ _ b hb=>by cases b<;>first|rfl|cases hb) (fun s _ b hb=>by cases b<;>first|exact Hx s _|rfl|cases hb)
  (fun _ f ha b hb=>by cases b<;>first|exact f ha _ hb|rfl|cases hb) (fun _ f ha b hb=>by cases b<;>first|exact f ha _ hb|rfl|cases hb) (fun _ _ _=>OU) (fun _ _ _=>OU) (fun _ m _=>by cases m<;>rfl)
  (fun _ _ f g ha m hm=>by
   cases m with
   |nil=>rfl
   |cons y ys=>exact congr (Nt and (f (Np.mp ha).1 y (Np.mp hm).1)) (g (Np.mp ha).2 ys (Np.mp hm).2)) a
theorem vU (a b:V) (ha:a.dat=true) (hb:b.dat=true):Qs a.py b.py=decide (a=b):=(HW a ha b hb).trans (Fg a b).symm
theorem Ee (x:V) (hx:x.dat=true) (us:List V):V.dats us=true→(V.pys us).any (fun y=>Qs y x.py)=decide (x∈us):=by
 induction us with
 |nil=>exact fun _=>(NR U0).symm
 |cons u us ih=>
  intro h
  have h:=Np.mp h
  show (Qs u.py x.py||(V.pys us).any _)=_
  rw [vU u x h.1 hx,ih h.2,←VB]
  exact OW.mpr ⟨fun z=>z.elim (fun z=>z▸ .head _) (.tail _),fun m=>(NN.mp m).imp Eq.symm id⟩
section
variable {Z:Wd} {D:Addr→Prop} {h:Heap}
theorem El {us:List V} (k:(V.tup us).dat=true∨∃b,V.tup us= .bool b):V.dats us=true:=k.elim id fun ⟨_,e⟩=>V.noConfusion e
theorem DJ {us:List V} (k:(V.lst us).dat=true∨∃b,V.lst us= .bool b):V.dats us=true:=k.elim id fun ⟨_,e⟩=>V.noConfusion e
theorem Fe {ks:List Sg} {us:List V} (k:(V.dct ks us).dat=true∨∃b,V.dct ks us= .bool b):Rr:=k.elim OU fun ⟨_,e⟩=>V.noConfusion e
theorem Bz {c:iG} {us:List V} (k:(V.inst c us).dat=true∨∃b,V.inst c us= .bool b):Rr:=k.elim OU fun ⟨_,e⟩=>V.noConfusion e
abbrev MV (h:Heap) (v:Nk) (u:V):Prop:=(u.dat=true∨∃b,u= .bool b)→∃as,Reads h v u.py as
abbrev J3 (h:Heap) (vs:List Nk) (us:List V):Prop:=V.dats us=true→∃as,ReadsAll h vs (V.pys us) as
theorem b8.reads {v:Nk} {u:V} (r:b8 Z D h v u):MV h v u:=
 b8.rec (motive_1:=fun v u _=>MV h v u) (motive_2:=fun vs us _=>J3 h vs us) (fun _=>⟨_,.none⟩) (fun b _=>⟨_,.bool b⟩) (fun i t _=>⟨_,.int i t⟩) (fun s t _ _=>⟨_,.str (bF s) t⟩)
  (fun _ _ g c e _ ih k=>let ⟨_,q⟩:=ih (El k);⟨_,reads_tuple_at g c e q⟩) (fun _ _ g c _ e _ ih k=>let ⟨_,q⟩:=ih (DJ k);⟨_,reads_list_at g c e q⟩)
  (fun _ _ _ _ _ _ _ k=>(Fe k).elim) (fun _ _ _ _ _ _ _ k=>(Bz k).elim) (fun _=>⟨_,.nil⟩)
  (fun _ _ ih1 ih2 k=>let k:=Np.mp k;let ⟨_,a⟩:=ih1 (.inl k.1);let ⟨_,b⟩:=ih2 k.2;⟨_,.cons a b⟩) r
theorem ak.reads {vs:List Nk} {us:List V} (r:ak Z D h vs us):J3 h vs us:=by
 induction us generalizing vs with
 |nil=>cases r;exact fun _=>⟨_,.nil⟩
 |cons u us ih=>cases r with|cons x r=>exact fun k=>let k:=Np.mp k;let ⟨_,a⟩:=x.reads (.inl k.1);let ⟨_,b⟩:=ih r k.2;⟨_,.cons a b⟩
theorem D0 {s:Sg} (z:eV s=true):(V.str s).py.canLay0=true:=by show VC (.str (bF s))=true;simpa [VC,PyData.strOk,bF,eV] using z
theorem b8.lay {v:Nk} {u:V} (r:b8 Z D h v u):u.dat=true→u.py.canLay0=true:=
 b8.rec (motive_1:=fun _ u _=>u.dat=true→u.py.canLay0=true) (motive_2:=fun _ us _=>V.dats us=true→P6 (V.pys us)=true) (fun _=>rfl) (fun _ _=>rfl) (fun _ _ _=>rfl) (fun _ _ z _=>D0 z)
  (fun _ _ _ _ _ _ ih k=>ih k) (fun _ _ _ _ _ _ _ ih k=>ih k) (fun _ _ _ _ _ _ _ _=>rfl) (fun _ _ _ _ _ _ _ _=>rfl) (fun _=>rfl) (fun _ _ ih1 ih2 k=>Np.mpr ⟨ih1 (Np.mp k).1,ih2 (Np.mp k).2⟩) r
theorem Rd.rep {v:Nk} {u:V} (r:Rd Z D h v u):b8 Z (fun _=>Rr) h v u:=by
 rcases r with r|⟨a,rfl,c⟩
 ·exact r.mono fun b o _ e=>⟨fun x=>x,e⟩
 ·exact c.rep (fun x=>x) (fun _ x=>x.elim)
theorem Rd.reads {v:Nk} {u:V} (r:Rd Z D h v u) (k:u.dat=true∨∃b,u= .bool b):∃as,Reads h v u.py as:=r.rep.reads k
end
section
variable {Z:Wd} {D:Addr→Prop} {A:N4} {E:Nk→Nn→Prop} {s:Nn} {a b:Nk} {x y:V} {Q:Nk→Nn→Prop}
theorem isNone {D:Addr→Prop} {h:Heap} {v:Nk} {u:V} (r:b8 Z D h v u):(v==Value.none)=decide (u= .none):=by cases r<;>rfl
theorem jU {kvs:List (Str×Nk)} {ks:List Sg} {x:Sg} (e:kvs.map (·.1)=ks.map bF):(Rp kvs (bF x)).isSome=decide (x∈ks):=by
 induction kvs generalizing ks with
 |nil=>cases ks with
  |nil=>rfl
  |cons _ _=>simp at e
 |cons kv kvs ih=>cases ks with
  |nil=>simp at e
  |cons k ks=>
   simp only [NA,List.cons.injEq] at e
   have:=ih e.2
   simp only [Rp,RC] at this ⊢
   by_cases q:k=x
   ·subst q;simp [e.1]
   ·have:¬kv.1=bF x:=fun z=>q (oK (e.1.symm.trans z))
    have q':¬x=k:=fun z=>q z.symm
    simp_all [NN]
noncomputable def eD:um→CmpOp
 | .eq=> .Eq| .ne=> .NotEq| .lt=> .Lt| .le=> .LtE| .gt=> .Gt| .ge=> .GtE| .in_=> .In| .nin=> .NotIn| .is_=> .Is| .isnt=> .IsNot
structure LG (h:Heap) (a b:Nk) (x y:V):Prop where
 ra:∃as,Reads h a x.py as
 rb:∃as,Reads h b y.py as
 sa:RO x.py=true
 sb:RO y.py=true
 eq:Qs x.py y.py=decide (x=y)
theorem b8.shaped {h:Heap} (r:b8 Z D h a x) (k:x.dat=true) (d:x.dep≤60):RO x.py=true:=
 Np.mpr ⟨r.lay k,Nw (Ni (v8 x) (Ni d (by decide)))⟩
theorem vG (k:x.bool?.isSome=true):∃b,x= .bool b:=by cases x<;>first|exact ⟨_,rfl⟩|cases k
theorem mG (ra:Rd Z D s.heap a x) (rb:Rd Z D s.heap b y) (c:l9 x y=true):LG s.heap a b x y:=by
 rcases O6.mp c with c|c
 ·obtain ⟨p,rfl⟩:=vG (Np.mp c).1
  obtain ⟨q,rfl⟩:=vG (Np.mp c).2
  exact ⟨ra.reads (.inr ⟨p,rfl⟩),rb.reads (.inr ⟨q,rfl⟩),rfl,rfl,by cases p<;>cases q<;>rfl⟩
 ·have c1:=Np.mp c
  have c2:=Np.mp c1.1
  have c3:=Np.mp c1.2
  exact ⟨ra.reads (.inl c2.1),rb.reads (.inl c2.2),ra.rep.shaped c2.1 (Nu c3.1),rb.rep.shaped c2.2 (Nu c3.2),vU _ _ c2.1 c2.2⟩
structure My (h:Heap) (a b:Nk) (x:V) (us:List V) (n:Nat) (l:Ul):Prop where
 ra:∃as,Reads h a x.py as
 rb:∃as,Reads h b l as
 la:x.py.canLay0=true
 lb:P6 (V.pys us)=true
 room:n+1+min (QJ (V.pys us)) x.py.depth <Sv
 any:(V.pys us).any (fun y=>Qs y x.py)=decide (x∈us)
theorem AN {us:List V} {n:Nat} {l:Ul} (ra:Rd Z D s.heap a x) (ll:V.dats us=true→(∃as,Reads s.heap b l as)∧P6 (V.pys us)=true) (c:gW x us=true) (hu:n+64 <Sv):My s.heap a b x us n l:=by
 have c1:=Np.mp c
 have c2:=Np.mp c1.1
 have c3:=Nu (Np.mp c1.2).1
 refine ⟨ra.reads (.inl c2.1),(ll c2.2).1,ra.rep.lay c2.1,(ll c2.2).2,?_,Ee _ c2.1 _ c2.2⟩
 have h1:=Ni (Rn (QJ (V.pys us)) x.py.depth) (Ni (v8 x) c3)
 clear ra ll c c1 c2 c3
 omega
theorem b8.lst_lay {us:List V} {h:Heap} (r:b8 Z D h b (.lst us)) (k:V.dats us=true):P6 (V.pys us)=true:=r.lay k
theorem b8.tup_lay {us:List V} {h:Heap} (r:b8 Z D h b (.tup us)) (k:V.dats us=true):P6 (V.pys us)=true:=r.lay k
theorem bind_some {α β:Type} {x:Nh α} {f:α→Nh β} {b:β} (e:x.bind f=some b):∃a,x=some a∧f a=some b:=by
 cases x with
 |none=>cases e
 |some a=>exact ⟨a,rfl,e⟩
theorem map_some {α β:Type} {x:Nh α} {f:α→β} {b:β} (e:x.map f=some b):∃a,x=some a∧f a=b:=by
 cases x with
 |none=>cases e
 |some a=>exact ⟨a,rfl,Ng e⟩
theorem af {α β:Type} {x:Nh α} {f:α→Nh β} {b:β} {P:Prop} (e:x.bind f=some b) (k:∀a,x=some a→f a=some b→P):P:=let ⟨a,h1,h2⟩:=bind_some e;k a h1 h2
theorem am {α β:Type} {x:Nh α} {f:α→β} {b:β} {P:Prop} (e:x.map f=some b) (k:∀a,x=some a→f a=b→P):P:=let ⟨a,h1,h2⟩:=map_some e;k a h1 h2
theorem bU {α:Type} {c:Prop} [Su c] {x:Nh α} {b:α} (e:(if c then x else none)=some b):c∧x=some b:=by
 by_cases h:c
 ·rw [NG h] at e;exact ⟨h,e⟩
 ·rw [NV h] at e;cases e
theorem aL {α:Type} {c:Prop} [Su c] {x:Nh α} {b:α} {P:Prop} (e:(if c then x else none)=some b) (k:c→x=some b→P):P:=k (bU e).1 (bU e).2
section
variable {r:Bool}
theorem Rd.int {h:Heap} {v:Nk} {i:Int} (r:Rd Z D h v (.int i)):∃t,v= .int i t:=r.rep.says
theorem Rd.str {h:Heap} {v:Nk} {x:Sg} (r:Rd Z D h v (.str x)):∃t,v= .str (bF x) t:=r.rep.says.2
theorem Rd.strOk {h:Heap} {v:Nk} {x:Sg} (r:Rd Z D h v (.str x)):eV x=true:=r.rep.says.1
structure Kn (Z:Wd) (D:Addr→Prop) (h:Heap) (v:Nk) (ks:List Sg) (us:List V) (d:Addr) (kvs:List (Str×Nk)):Prop where
 v:v= .ref d
 sm:(d==QN)=false
 dof:h.DictOf (Op Z.prog Z.w) d kvs
 keys:kvs.map (·.1)=ks.map bF
 vals:ak Z D h (kvs.map (·.2)) us
 ok:ks.all eV=true
theorem Rd.dct {h:Heap} {v:Nk} {ks:List Sg} {us:List V} (r:Rd Z D h v (.dct ks us)):∃d kvs,Kn Z D h v ks us d kvs:=by
 refine Nf fun nG=> ?_
 rcases r with r|⟨a,e0,z,kvs,sm,g,e,r⟩
 ·obtain ⟨a,kvs,e0,z,_,sm,g,e,r⟩:=r.says
  exact nG ⟨a,kvs,e0,sm,g,e,r,z⟩
 ·exact nG ⟨a,kvs,e0,sm,g,e,r,z⟩
theorem l8 {f:Int→Int→Bool} {P:Prop} (ra:Rd Z D s.heap a x) (rb:Rd Z D s.heap b y) (e:Bk f x y=some r) (k:∀i j t t',a= .int i t→b= .int j t'→f i j=r→P):P:=
 af e fun _ e1 e=>am e fun _ e2 e=>let ⟨t,h1⟩:=(cX e1▸ra:Rd Z D s.heap a _).int;let ⟨t',h2⟩:=(cX e2▸rb:Rd Z D s.heap b _).int;k _ _ t t' h1 h2 e
theorem yI (rb:Rd Z D s.heap b y) (e:DR x y=some r):y= .none∧b= .none∧decide (x= .none)=r:=
 V.casesOn (motive_1:=fun y=>Rd Z D s.heap b y→DR x y=some r→y= .none∧b= .none∧decide (x= .none)=r) y (fun q e=>⟨rfl,q.rep.says,Ng e⟩) (fun _ _=>ao) (fun _ _=>ao) (fun _ _=>ao) (fun _ _=>ao) (fun _ _=>ao) (fun _ _ _=>ao) (fun _ _ _=>ao) rb e
theorem uG (ra:Rd Z D s.heap a x) (rb:Rd Z D s.heap b y) (e:Cp x y=some r) (hu:A.units+64 <Sv):
  ((∀k,Q (.bool r) {s with toks:=k})→Ny (model Z.prog Z.w) A (Sw .In a b) Q E s)∧((∀k,Q (.bool !r) {s with toks:=k})→Ny (model Z.prog Z.w) A (Sw .NotIn a b) Q E s):=by
 cases y<;>first|cases e;done|skip
 ·refine aL (c:=gW x _=true) e fun c e'=> ?_
  rw [←Ng e']
  obtain ⟨⟨_,q⟩,⟨_,q'⟩,l1,l2,l3,l4⟩:=AN ra (fun k=>⟨rb.reads (.inl k),rb.rep.tup_lay k⟩) c hu
  exact ⟨fun h=>VD q' q l2 l1 l3 (Eq.mpr (Nt (fun z=>Q (.bool z) s) l4) (h s.toks)),fun h=>Vh q' q l2 l1 l3 (Eq.mpr (Nt (fun z=>Q (.bool !z) s) l4) (h s.toks))⟩
 ·refine aL (c:=gW x _=true) e fun c e'=> ?_
  rw [←Ng e']
  obtain ⟨⟨_,q⟩,⟨_,q'⟩,l1,l2,l3,l4⟩:=AN ra (fun k=>⟨rb.reads (.inl k),rb.rep.lst_lay k⟩) c hu
  exact ⟨fun h=>VW q' q l2 l1 l3 (Eq.mpr (Nt (fun z=>Q (.bool z) s) l4) (h s.toks)),fun h=>Vp q' q l2 l1 l3 (Eq.mpr (Nt (fun z=>Q (.bool !z) s) l4) (h s.toks))⟩
 ·refine am e fun i e1 e2=> ?_
  clear e
  cases dU e1
  rw [←e2]
  refine Nf fun nG=> ?_
  obtain ⟨t,rfl⟩:=ra.str
  obtain ⟨d,kvs,rfl,sm,dd,ek,_,_⟩:=rb.dct
  refine nG ?_
  exact ⟨fun h=>wpAny_in_of (knd:=Op Z.prog Z.w) (k:=bF _) (SV _ _ _ _) sm dd.mapOf (by rw [jU ek];exact h _),
   fun h=>wpAny_notIn_of (knd:=Op Z.prog Z.w) (k:=bF _) (SV _ _ _ _) sm dd.mapOf (by rw [jU ek];exact h _)⟩
theorem ko {o:um} (ra:Rd Z D s.heap a x) (rb:Rd Z D s.heap b y) (e:gD o x y=some r) (hu:A.units+64 <Sv) (h:∀k,Q (.bool r) {s with toks:=k}):Ny (model Z.prog Z.w) A (Sw (eD o) a b) Q E s:=by
 cases o with
 |eq=>exact bU (c:=l9 x y=true) e|>.elim fun c e=>let ⟨⟨_,p⟩,⟨_,q⟩,k1,k2,k3⟩:=mG ra rb c;eq_dataH p q k1 k2 hu (by rw [k3,Ng e];exact h s.toks)
 |ne=>exact am e fun _ e e'=>bU (c:=l9 x y=true) e|>.elim fun c e=>let ⟨⟨_,p⟩,⟨_,q⟩,k1,k2,k3⟩:=mG ra rb c;ne_dataH p q k1 k2 hu (by rw [k3,Ng e,e'];exact h s.toks)
 |lt=>exact l8 ra rb e fun i j t t' h1 h2 e=>by rw [h1,h2];rw [←e] at h;exact lt_int (h s.toks)
 |le=>exact l8 ra rb e fun i j t t' h1 h2 e=>by rw [h1,h2];rw [←e] at h;exact le_int (h s.toks)
 |gt=>exact l8 ra rb e fun i j t t' h1 h2 e=>by rw [h1,h2];rw [←e] at h;exact gt_int (h s.toks)
 |ge=>exact l8 ra rb e fun i j t t' h1 h2 e=>by rw [h1,h2];rw [←e] at h;exact ge_int (h s.toks)
 |in_=>exact (uG ra rb e hu).1 h
 |nin=>exact am e fun _ e e'=>(uG ra rb e hu).2 (by rw [e'];exact h)
 |is_=>exact (yI rb e).elim fun _ q=>by rw [q.1];exact VY (by rw [isNone ra.rep,q.2];exact h s.toks)
 |isnt=>exact am e fun _ e e'=>(yI rb e).elim fun _ q=>by rw [q.1];exact Vz (by rw [isNone ra.rep,q.2,e'];exact h s.toks)
end
end
noncomputable def wr (env:Env) (h:Heap) (x:Str) (v:Nh Nk):Prop:=
 (env.kindOf x=some .local∧∃m,h.Ns env.locals m∧m x=v)∨
 ((env.kindOf x=some .cell∨env.kindOf x=some .free)∧∃c,env.cells.lookup x=some c∧h.IsCell c v)
noncomputable def eE (Z:Wd) (CA:List Addr) (D:Addr→Prop) (h:Heap) (v:Nk):aA→Prop
 | .v u=>b8 Z D h v u
 | .own _=>Rr
 | .cell k=>∃a,CA[k]? =some a∧v= .ref a
inductive bS (Z:Wd) (CA:List Addr) (D:Addr→Prop) (h:Heap):List Nk→List aA→Prop
 |nil:bS Z CA D h [] []
 |cons {v vs U Us}:eE Z CA D h v U→bS Z CA D h vs Us→bS Z CA D h (v::vs) (U::Us)
structure Gd (Z:Wd) (CA:List Addr) (σ:ag) (D:Addr→Prop) (h:Heap):Prop where
 base:∀b o,Z.base.get? b=some o→h.get? b=some o
 dabove:∀a,D a→Z.base.objs.size≤a
 low:D Z.base.objs.size
 live:∀a,D a→∃o,h.get? a=some o
 cells:aF Z CA σ D h
noncomputable def Wx (env:Env) (a:Addr):Prop:=a=env.locals∨∃x,env.kindOf x=some .cell∧env.cells.lookup x=some a
noncomputable def Wv (env:Env) (x:Str) (a:Addr):Prop:=(env.kindOf x=some .local∧a=env.locals)∨(env.kindOf x=some .cell∧env.cells.lookup x=some a)
abbrev We (CA:List Addr):Addr→Prop:=fun a=>a∈CA
noncomputable def Ws (env:Env) (CA:List Addr) (a:Addr):Prop:=a∈CA∨Wx env a
abbrev eF:=List (Str×Nat)
structure j3 (vars:eF):Prop where
 inj:∀x i y j,(x,i)∈vars→(y,j)∈vars→(x=y↔i=j)
structure St (Z:Wd) (env:Env) (vars:eF) (ρ:Loc) (CA:List Addr) (σ:ag) (D:Addr→Prop) (h:Heap):Prop extends Gd Z CA σ D h where
 ns:∃m,h.Ns env.locals m
 nsD:D env.locals
 nsCA:env.locals∉CA
 pc:∀x c,env.cells.lookup x=some c→D c∧∃v,h.IsCell c v
 pinj:∀x y c,env.cells.lookup x=some c→env.cells.lookup y=some c→x=y
 pcel:∀x,env.kindOf x=some .cell→∃c,env.cells.lookup x=some c
 vars:∀x i,(x,i)∈vars→∀U,ρ[i]? =some (some U)→∃v,wr env h x (some v)∧eE Z CA D h v U
theorem Gd.dbase {Z:Wd} {CA:List Addr} {σ:ag} {D:Addr→Prop} {h:Heap} (G:Gd Z CA σ D h) (a:Addr) (d:D a):Z.base.get? a=none:=by
 cases e:Z.base.get? a with
 |none=>rfl
 |some o=>exact absurd (NY e) (Pt.mpr (G.dabove a d))
theorem Gd.size {Z:Wd} {CA:List Addr} {σ:ag} {D:Addr→Prop} {h:Heap} (G:Gd Z CA σ D h):Z.base.objs.size <h.objs.size:=let ⟨_,e⟩:=G.live _ G.low;NY e
section
variable {Z:Wd} {env:Env} {vars:eF} {ρ:Loc} {CA:List Addr} {σ σ':ag} {D D':Addr→Prop} {h h':Heap}
theorem eE.mono {v:Nk} {U:aA} (r:eE Z CA D h v U) (k:∀b o,¬D b→h.get? b=some o→¬D' b∧h'.get? b=some o):eE Z CA D' h' v U:=by
 cases U<;>simp only [eE] at r ⊢
 ·exact r.mono k
 ·exact r
theorem bS.length {vs:List Nk} {Us:List aA} (r:bS Z CA D h vs Us):vs.length=Us.length:=by
 induction r with
 |nil=>rfl
 |cons _ _ ih=>exact Nt Ts ih
theorem bS.append {vs vs':List Nk} {us us':List aA} (r:bS Z CA D h vs us) (q:bS Z CA D h vs' us'):bS Z CA D h (vs++vs') (us++us'):=by
 induction r with
 |nil=>exact q
 |cons x _ ih=>exact .cons x ih
theorem eE.more {CA':List Addr} {v:Nk} {U:aA} (r:eE Z CA D h v U) (e:CA<+:CA'):eE Z CA' D h v U:=by
 cases U<;>simp only [eE] at r ⊢
 ·exact r
 ·obtain ⟨a,x,y⟩:=r
  obtain ⟨t,rfl⟩:=e
  have:∀k:Nat,CA[k]? =some a→(CA++t)[k]? =some a:=fun k q=>by
   have hk:k <CA.length:=by
    rcases Qk k CA.length with l|l
    ·exact l
    ·rw [OR l] at q;cases q
   rw [Ov hk];exact q
  exact ⟨a,this _ x,y⟩
theorem ar {a:Addr} {o:Obj} (n:h.get? a=none) (e:h.get? a=some o):Rr:=by rw [n] at e;cases e
theorem Gd.fresh_notD (G:Gd Z CA σ D h) {a:Addr} (n:h.get? a=none):¬D a:=fun x=>let ⟨_,e⟩:=G.live a x;ar n e
theorem ee (h:Heap):h.get? h.objs.size=none:=by
 cases e:h.get? h.objs.size with
 |none=>rfl
 |some o=>exact absurd (NY e) (Ou _)
theorem iI.bindV {g:Heap} {v:Nk} {U:aA} (r:iI Z g CA σ D h v U) (nd:∀a,g.get? a=none→¬D a):eE Z CA D h v U.bind:=by
 cases U<;>simp only [iI,aA.bind,eE] at r ⊢
 ·exact r
 ·obtain ⟨a,rfl,n,_,c,_⟩:=r
  exact c.rep (nd a n) fun b x=> .inl x
 ·exact r
theorem Gd.step (G:Gd Z CA σ D h) (k:aw (We CA) h h') (c:aF Z CA σ' D h'):Gd Z CA σ' D h' where
 base:=fun b o e=>k b o (G.base b o e) fun m=>by rw [G.dbase b (G.cells.inD b m)] at e;cases e
 dabove:=G.dabove
 low:=G.low
 live:=fun a d=>by
  by_cases m:a∈CA
  ·exact c.live m
  ·let ⟨o,e⟩:=G.live a d;exact ⟨o,k a o e m⟩
 cells:=c
theorem Gd.old (G:Gd Z CA σ D h) (k:aw (We CA) h h'):∀b o,¬D b→h.get? b=some o→¬D b∧h'.get? b=some o:=
 fun b o d e=>⟨d,k b o e fun m=>d (G.cells.inD b m)⟩
theorem Gd.alive (G:Gd Z CA σ D h) (k:aw (We CA) h h') (c:aF Z CA σ' D h') {a:Addr} (n:h'.get? a=none):h.get? a=none:=by
 cases e:h.get? a with
 |none=>rfl
 |some o=>
  by_cases m:a∈CA
  ·exact (let ⟨_,e'⟩:=c.live m;ar n e').elim
  ·exact (ar n (k a o e m)).elim
theorem gE.notCell {a:Addr} {u:V} {v:Nh Nk} (c:gE Z D h a u) (ic:h.IsCell a v):Rr:=by
 obtain ⟨o,e,f⟩:=ic
 cases u<;>first|exact c|skip
 ·obtain ⟨_,_,⟨n,z⟩,_⟩:=c;rw [z] at e;cases e;cases f
 ·obtain ⟨_,_,_,⟨_,_,_,z,_,w,_⟩,_⟩:=c;rw [z] at e;cases e;rw [w] at f;cases f
theorem aF.notCell (c:aF Z CA σ D h) {q:Addr} {v:Nh Nk} (ic:h.IsCell q v):q∉CA:=fun m=>
 let ⟨i,hi,e⟩:=O5 m
 have hi':i <σ.length:=c.len▸hi
 (c.at_ i q σ[i] (by rw [Nr hi,e]) (Nr hi')).notCell ic
theorem St.notCA (S:St Z env vars ρ CA σ D h) {x:Str} {q:Addr} (l:env.cells.lookup x=some q):q∉CA:=let ⟨_,_,i⟩:=S.pc x q l;S.cells.notCell i
theorem wr.keep {x:Str} {v:Nh Nk} (sl:wr env h x v) (a:∀o,h.get? env.locals=some o→h'.get? env.locals=some o) (b:∀c,env.cells.lookup x=some c→∀o,h.get? c=some o→h'.get? c=some o):wr env h' x v:=by
 rcases sl with ⟨k,m,n,z⟩|⟨k,c,l,o,e,f⟩
 ·exact .inl ⟨k,m,n.at' a,z⟩
 ·exact .inr ⟨k,c,l,o,b c l o e,f⟩
theorem IsCell.keep {c:Addr} {v:Nh Nk} (i:h.IsCell c v) (k:∀o,h.get? c=some o→h'.get? c=some o):h'.IsCell c v:=let ⟨o,e,f⟩:=i;⟨o,k o e,f⟩
theorem St.step (S:St Z env vars ρ CA σ D h) (k:aw (We CA) h h') (c:aF Z CA σ' D h'):St Z env vars ρ CA σ' D h' where
 toGd:=S.toGd.step k c
 ns:=let ⟨m,n⟩:=S.ns;⟨m,n.at' fun o e=>k _ o e S.nsCA⟩
 nsD:=S.nsD
 nsCA:=S.nsCA
 pc:=fun x q l=>let ⟨d,v,i⟩:=S.pc x q l;⟨d,v,IsCell.keep i fun o e=>k q o e (S.notCA l)⟩
 pinj:=S.pinj
 pcel:=S.pcel
 vars:=fun x i m U e=>let ⟨v,s,r⟩:=S.vars x i m U e;⟨v,s.keep (fun o e=>k _ o e S.nsCA) (fun _ l o e=>k _ o e (S.notCA l)),r.mono (S.toGd.old k)⟩
theorem aF.grow (c:aF Z CA σ D h) (k:∀b o,h.get? b=some o→h'.get? b=some o) (q:∀b o,h.get? b=some o→D' b→D b) (m:∀b,D b→D' b):aF Z CA σ D' h' where
 len:=c.len
 nodup:=c.nodup
 at_:=fun i a u e e'=>(c.at_ i a u e e').mono (fun o x=>k a o x) fun b o d x=>⟨fun y=>d (q b o x y),k b o x⟩
 inD:=fun a x=>m a (c.inD a x)
end
section
variable {Z:Wd} {M:Model} {A:N4} {E:Nk→Nn→Prop} {s:Nn} {env:Env} {vars:eF} {ρ:Loc} {CA:List Addr} {σ:ag} {D:Addr→Prop}
theorem Ch {x:Str} {i:Nat} {U:aA} {Q:Nk→Nn→Prop} (S:St Z env vars ρ CA σ D s.heap) (hk:env.scope.kind= .function) (m:(x,i)∈vars) (e:ρ[i]? =some (some U)) (hn:(x==("__classdict__":Str))=false)
  (h:∀v,eE Z CA D s.heap v U→Q v s):Ny M A (loadName env x) Q E s:=by
 refine Nf fun nG=> ?_
 obtain ⟨v,sl,r⟩:=S.vars x i m U e
 refine nG ?_
 rcases sl with ⟨a,mm,n,z⟩|⟨a|a,c,l,i⟩
 ·exact Tt hk a n z (h v r)
 ·exact wpAny_loadName_cell hk a l i (h v r)
 ·exact wpAny_loadName_free hk a l i (h v r) hn
theorem FN {ρ:Loc} {i j:Nat} {x y:Nh aA} (e:(ρ.set i x)[j]? =some y):(i=j∧y=x)∨(i≠j∧ρ[j]? =some y):=by
 by_cases h:i=j
 ·subst h
  by_cases hl:i <ρ.length
  ·rw [Ob hl] at e;exact .inl ⟨rfl,by injection e with e;exact e.symm⟩
  ·rw [OR (by simpa using hl)] at e;cases e
 ·rw [Oe h] at e;exact .inr ⟨h,e⟩
theorem Ns.notCell {h:Heap} {a:Addr} {m:Str→Nh Nk} {v:Nh Nk} (n:h.Ns a m) (i:h.IsCell a v):Rr:=by
 obtain ⟨o',_,_,y1,y2,_⟩:=n
 obtain ⟨o,z,z'⟩:=i
 rw [y1] at z;cases z;rw [y2] at z';cases z'
theorem Ns.same {h:Heap} {a:Addr} {m m':Str→Nh Nk} (n:h.Ns a m) (n':h.Ns a m'):m=m':=by
 obtain ⟨o1,es1,ep1,g1,g2,g3,g4⟩:=n
 obtain ⟨o2,es2,ep2,g5,g6,g7,g8⟩:=n'
 rw [g1] at g5;cases g5
 rw [g2] at g6;cases g6
 exact funext fun x=>(g4 x).symm.trans (g8 x)
theorem Gd.set1 {h h':Heap} {a:Addr} (G:Gd Z CA σ D h) (d:D a) (n:a∉CA) (kp:∀b o,b≠a→h.get? b=some o→h'.get? b=some o) (l:∃o,h'.get? a=some o):Gd Z CA σ D h' where
 base:=fun b o e=>kp b o (fun q=>by subst q;rw [G.dbase _ d] at e;cases e) (G.base b o e)
 dabove:=G.dabove
 low:=G.low
 live:=fun b db=>(SW (b=a)).elim (fun q=>q▸l) fun q=>let ⟨o,e⟩:=G.live b db;⟨o,kp b o q e⟩
 cells:=G.cells.mono fun b o e q=>kp b o (fun z=>by subst z;exact q.elim n fun y=>y d) e
theorem St.set1 {h h':Heap} {a:Addr} {x:Str} {i:Nat} {v:Nk} {U:aA} (S:St Z env vars ρ CA σ D h) (V:j3 vars) (m:(x,i)∈vars) (d:D a) (n:a∉CA) (kp:∀b o,b≠a→h.get? b=some o→h'.get? b=some o) (l:∃o,h'.get? a=some o)
  (ns:∃m,h'.Ns env.locals m) (pc:∀c,env.cells.lookup x=some c∧c=a∨c≠a→(∃v,h.IsCell c v)→∃v,h'.IsCell c v) (pc':∀y c,env.cells.lookup y=some c→env.cells.lookup x=some c∧c=a∨c≠a)
  (r:eE Z CA D h v U) (new:wr env h' x (some v)) (oth:∀y v',y≠x→wr env h y (some v')→wr env h' y (some v')):St Z env vars (ρ.set i (some U)) CA σ D h' where
 toGd:=S.toGd.set1 d n kp l
 ns:=ns
 nsD:=S.nsD
 nsCA:=S.nsCA
 pc:=fun y c l=>let ⟨dc,i⟩:=S.pc y c l;⟨dc,pc c (pc' y c l) i⟩
 pinj:=S.pinj
 pcel:=S.pcel
 vars:=fun y j my U' e=>by
  have nd:∀b o,¬D b→h.get? b=some o→¬D b∧h'.get? b=some o:=fun b o db e=>⟨db,kp b o (fun q=>db (q▸d)) e⟩
  rcases FN e with ⟨q,q'⟩|⟨q,e'⟩
  ·cases Ng q'
   cases (V.inj x i y j m my).mpr q
   exact ⟨v,new,r.mono nd⟩
  ·let ⟨v',sl,r'⟩:=S.vars y j my U' e'
   exact ⟨v',oth y v' (fun z=>q ((V.inj x i y j m my).mp z.symm)) sl,r'.mono nd⟩
theorem fY {x:Str} {i:Nat} {v:Nk} {U:aA} {Q:Unit→Nn→Prop} (S:St Z env vars ρ CA σ D s.heap) (V:j3 vars) (hk:env.scope.kind= .function) (m:(x,i)∈vars)
  (kx:env.kindOf x=some .local∨env.kindOf x=some .cell) (r:eE Z CA D s.heap v U)
  (h:∀h' tk,St Z env vars (ρ.set i (some U)) CA σ D h'→aw (Wv env x) s.heap h'→Q () {s with heap:=h',toks:=tk}):Ny M A (storeName env x v) Q E s:=by
 rcases kx with kx|kx
 ·obtain ⟨m0,n0⟩:=S.ns
  refine wpAny_storeName_local kx n0 (fun h' n' sb=>h h' _ ?_ (aw.sameBut sb (.inl ⟨kx,rfl⟩))) (by rw [hk];rfl)
  have nl:∀y c,env.cells.lookup y=some c→c≠env.locals:=fun y c l q=>let ⟨_,_,ic⟩:=S.pc y c l;Ns.notCell n0 (q▸ic)
  exact S.set1 V m S.nsD S.nsCA sb.extBut (let ⟨o,_,_,z,_⟩:=n';⟨o,z⟩) ⟨_,n'⟩ (fun c q ⟨v,ic⟩=>⟨v,IsCell.keep ic fun o e=>sb.extBut c o (fun z=>(q.elim (fun w=>nl x c w.1) id) z) e⟩) (fun y c l=> .inr (nl y c l)) r (.inl ⟨kx,_,n',by simp⟩)
   fun y v' hy sl=>sl.elim (fun ⟨a,mm,n,z⟩=> .inl ⟨a,_,n',by rw [NV hy,Ns.same n0 n];exact z⟩) fun ⟨a,c,l,ic⟩=> .inr ⟨a,c,l,IsCell.keep ic fun o e=>sb.extBut c o (nl y c l) e⟩
 ·obtain ⟨c,lc⟩:=S.pcel x kx
  obtain ⟨dc,v0,ic⟩:=S.pc x c lc
  refine wpAny_storeName_cell hk kx lc ic (fun h' ic' sb=>h h' s.toks ?_ (aw.sameBut sb (.inr ⟨kx,lc⟩)))
  obtain ⟨m0,n0⟩:=S.ns
  have nl:env.locals≠c:=fun q=>Ns.notCell n0 (q▸ic)
  exact S.set1 V m dc (S.cells.notCell ic) sb.extBut (let ⟨o,z,_⟩:=ic';⟨o,z⟩) ⟨m0,n0.at' fun o e=>sb.extBut _ o nl e⟩ (fun c' q ⟨v,i'⟩=>q.elim (fun w=>w.2▸⟨_,ic'⟩) fun w=>⟨v,IsCell.keep i' fun o e=>sb.extBut c' o w e⟩)
   (fun y c' l=>(SW (c'=c)).imp (fun (q:c'=c)=>⟨q▸lc,q⟩) id) r (.inr ⟨.inl kx,c,lc,ic'⟩)
   fun y v' hy sl=>sl.keep (fun o e=>sb.extBut _ o nl e) fun c' l o e=>sb.extBut c' o (fun q=>hy (S.pinj y x c' l (q▸lc))) e
end
section
variable {Z:Wd} {D:Addr→Prop} {h:Heap}
structure CQ (Z:Wd) (D:Addr→Prop) (h:Heap) (v:Nk) (us:List V) (a:Addr) (items:P5 Nk):Prop where
 v:v= .ref a
 lst:h.IsList a items
 rep:ak Z D h items.toList us
 dct:∃o,h.get? a=some o∧o.dict=none
 len:items.size=us.length
 le:us.length≤16777216
theorem CQ.of {a:Addr} {items:P5 Nk} {us:List V} {n:Nat} {o:Obj} (g:h.get? a=some o) (c:o.cls= .type "list") (x:o.dict=none) (e:o.data= .seq items n) (r:ak Z D h items.toList us) (z:us.length≤16777216):CQ Z D h (.ref a) us a items:=
 ⟨rfl,⟨_,g,c,_,e⟩,r,⟨_,g,x⟩,by rw [←r.length,OH],z⟩
theorem Rd.lst {v:Nk} {us:List V} (r:Rd Z D h v (.lst us)):∃a items,CQ Z D h v us a items:=by
 refine Nf fun nG=> ?_
 rcases r with r|⟨a,e0,z,i,⟨n,p⟩,r⟩
 ·obtain ⟨a,o,vs,n,e0,z,_,g,c,x,e,r⟩:=r.says
  exact nG ⟨a,vs,e0▸ .of g c x e r z⟩
 ·exact nG ⟨a,i,e0▸ .of p rfl rfl rfl r z⟩
structure Km (Z:Wd) (D:Addr→Prop) (h:Heap) (v:Nk) (us:List V) (a:Addr) (items:P5 Nk):Prop where
 v:v= .ref a
 tup:IsTup h a items
 rep:ak Z D h items.toList us
 len:items.size=us.length
 le:us.length≤16777216
theorem Rd.tup {v:Nk} {us:List V} (r:Rd Z D h v (.tup us)):∃a items,Km Z D h v us a items:=by
 refine Nf fun nG=> ?_
 rcases r with r|⟨a,_,c⟩
 ·obtain ⟨a,o,vs,n,e0,z,_,g,c,e,r⟩:=r.says
  exact nG ⟨a,vs,e0,⟨_,g,c,_,e⟩,r,by rw [←r.length,OH],z⟩
 ·exact c.elim
theorem Rd.bool {v:Nk} {b:Bool} (r:Rd Z D h v (.bool b)):v= .bool b:=r.rep.says
theorem b8.rd {v:Nk} {u:V} (r:b8 Z D h v u):Rd Z D h v u:= .inl r
theorem Rd.mono {D':Addr→Prop} {h':Heap} {v:Nk} {u:V} (r:Rd Z D h v u) (k:∀b o,h.get? b=some o→h'.get? b=some o) (q:∀b o,¬D b→h.get? b=some o→¬D' b):Rd Z D' h' v u:=by
 rcases r with r|⟨a,rfl,c⟩
 ·exact .inl (r.mono fun b o d e=>⟨q b o d e,k b o e⟩)
 ·exact .inr ⟨a,rfl,c.mono (fun o e=>k a o e) fun b o d e=>⟨q b o d e,k b o e⟩⟩
theorem eC {n:Nat} (e:cU n=true):n≤PM:=by
 have:=Nu e
 simpa [PM] using this
end
section
variable {Z:Wd} {D:Addr→Prop} {A:N4} {E:Nk→Nn→Prop} {s:Nn} {a b:Nk} {x y u:V} {Q:Nk→Nn→Prop}
theorem sT {n:Nat} {i:Int} {k:Nat} (e:k6 n i=some k):seqIndex? i n=some k∧k <n∧(0≤i∧i.toNat=k∨i <0∧-(n:Int)≤i∧(i+n).toNat=k):=by
 unfold seqIndex?
 by_cases h0:0≤i
 ·refine aL ((NG h0).symm.trans e) fun h1 e=> ?_
  have e:=Ng e
  dsimp only
  rw [NV (VE.mpr h0),Nw h0,Nw h1,e]
  exact ⟨rfl,e▸(Int.toNat_lt h0).mpr h1,.inl ⟨h0,rfl⟩⟩
 ·refine aL ((NV h0).symm.trans e) fun h1 e=> ?_
  have e:=Ng e
  have hn:=Int.not_le.mp h0
  have h2:0≤i+(n:Int):=Int.add_left_neg (n:Int)▸Int.add_le_add_right h1 (n:Int)
  have h3:i+(n:Int) <n:=RP (Int.add_lt_add_right hn n) (Int.le_of_eq (Int.zero_add _))
  dsimp only
  rw [NG hn,Nw h2,Nw h3,e]
  exact ⟨rfl,e▸(Int.toNat_lt h2).mpr h3,.inr ⟨hn,h1,rfl⟩⟩
theorem MR {T id:Q3} {v:Nk} {R:Bool→Nn→Prop} (hT:s.TypeIs v T) (hl:RQ (.type T) "__getitem__"=pure (some (.builtin id))) (h:R false s):Ny (model Z.prog Z.w) A (QK v) R E s:=by
 rw [getitemInPython_of_ne hT.not_modules]
 exact No (wpAny_specialOf hT hl (NE h))
theorem vp {kvs:List (Str×Nk)} {p:Str×Nk} {k:Str} (e:p.1=k):Rp (p::kvs) k=some p.2:=by simp [Rp,e]
theorem tO {kvs:List (Str×Nk)} {p:Str×Nk} {k:Str} (e:p.1≠k):Rp (p::kvs) k=Rp kvs k:=by simp [Rp,RC,e]
theorem sj {h:Heap} {x:Sg} {kvs:List (Str×Nk)} {ks:List Sg} {us:List V} (e:kvs.map (·.1)=ks.map bF) (r:ak Z D h (kvs.map (·.2)) us):
  (∃v u,Rp kvs (bF x)=some v∧f0 ks us x=some u∧b8 Z D h v u)∨(Rp kvs (bF x)=none∧f0 ks us x=none):=by
 induction kvs generalizing ks us with
 |nil=>
  cases ks with
  |nil=>exact .inr ⟨rfl,rfl⟩
  |cons=>cases e
 |cons p kvs ih=>
  cases ks with
  |nil=>cases e
  |cons k ks=>
   cases r with
   |cons r1 r2=>
    have e':=OO e
    by_cases q:k=x
    ·exact .inl ⟨_,_,vp (e'.1.trans (q▸rfl)),NG q,r1⟩
    ·have n:p.1≠bF x:=fun z=>q (oK (e'.1.symm.trans z))
     have a:=ih e'.2 r2
     rw [←tO n] at a
     rw [show f0 (k::ks) (_::_) x=_ from NV q]
     exact a
theorem tC {kvs:List (Str×Nk)} {ks:List Sg} {us:List V} {x:Sg} {u:V} {h:Heap} (e:kvs.map (·.1)=ks.map bF) (r:ak Z D h (kvs.map (·.2)) us) (g:f0 ks us x=some u):
  ∃v,Rp kvs (bF x)=some v∧b8 Z D h v u:=
 (sj e r).elim (fun ⟨v,_,a,b,c⟩=>⟨v,a,Ng (g.symm.trans b)▸c⟩) fun ⟨_,b⟩=>nomatch g.symm.trans b
theorem nR {us:List V} {items:P5 Nk} (r:ak Z D s.heap items.toList us) (len:items.size=us.length) (le:us.length≤16777216) (rb:Rd Z D s.heap b y) (e:Bb us y=some u):
  ∃i t k v,b= .int i t∧(seqIndex? i us.length=some k∧k <us.length∧(0≤i∧i.toNat=k∨i <0∧-(us.length:Int)≤i∧(i+us.length).toNat=k))∧items[k]? =some v∧b8 Z D s.heap v u∧i <16777216∧-16777217 <i:=
 af e fun i e1 e'=>af e' fun k e2 e3=>by
  clear e e'
  refine Nf fun nG=> ?_
  cases cX e1
  obtain ⟨t,rfl⟩:=rb.int
  obtain ⟨v,hv,rv⟩:=r.get e3
  refine nG ?_
  have p:=sT e2
  have q:i <16777216∧-16777217 <i:=by clear hv rv r e1 e2 e3 rb;omega
  exact ⟨i,t,k,v,rfl,p,by rw [←On];exact hv,rv,q⟩
theorem zz (ra:Rd Z D s.heap a x) (rb:Rd Z D s.heap b y) (e:iW x y=some u) (h:∀v k,b8 Z D s.heap v u→Q v {s with toks:=k}):
  Ny (model Z.prog Z.w) A (do let g←QK a;if g=true then runValue (.builtin "lifetime.subscript" ⟨[a,b],[]⟩) else operate [a,b] (getItem a b)) Q E s:=by
 have one:∀{T id a b},s.TypeIs a T→RQ (.type T) "__getitem__"=pure (some (.builtin id))→Ny (model Z.prog Z.w) A (getItem a b) Q E s→
   Ny (model Z.prog Z.w) A (do let g←QK a;if g=true then runValue (.builtin "lifetime.subscript" ⟨[a,b],[]⟩) else operate [a,b] (getItem a b)) Q E s:=fun hT hl h=>
  No (MR (Z:=Z) hT hl (by simp only [Ql,UB];exact Qd h))
 refine Nf fun nG=> ?_
 cases x with
 |tup us=>
  obtain ⟨l,items,e0,hl,r,len,le⟩:=ra.tup
  obtain ⟨i,t,k,v,e1,⟨p1,_⟩,hx,rv,q1,q2⟩:=nR r len le rb e
  rw [e0,e1] at nG
  exact nG (one (IsTup.typeIs hl) slot_tuple_getitem.lookup (VF hl (by omega) (by omega) (by rw [len];exact p1) hx (h v s.toks rv)))
 |lst us=>
  obtain ⟨l,items,e0,hl,r,_,len,le⟩:=ra.lst
  obtain ⟨i,t,k,v,e1,⟨_,_,p⟩,hx,rv,q1,q2⟩:=nR r len le rb e
  rw [e0,e1] at nG
  refine nG (one hl.typeIs slot_list_getitem.lookup ?_)
  rcases p with ⟨p1,p2⟩|⟨p1,p2,p3⟩
  ·exact wpAny_getItem_list hl p1 (by omega) (by rw [p2];exact hx) (h v s.toks rv)
  ·exact wpAny_getItem_list_neg hl p1 (by rw [len];exact p2) (by omega) (by rw [len,p3];exact hx) (h v s.toks rv)
 |dct ks us=>
  refine af e fun i e1 e2=> ?_
  obtain ⟨d,kvs,e0,sm,hd,ek,r,_⟩:=ra.dct
  obtain ⟨t,e3⟩:=(dU e1▸rb:Rd Z D s.heap b (.str i)).str
  obtain ⟨v,hv,rv⟩:=tC ek r e2
  rw [e0,e3] at nG
  exact nG (one hd.typeIs slot_dict_getitem.lookup (wpAny_getItem_of (knd:=Op Z.prog Z.w) (SV _ _ _ _) hd.mapOf hv (h v _ rv)))
 |_=>cases e
end
end
section
open PySem PySem.W PyProof.Rows
abbrev bM (h h':Heap):Prop:=∀b o,h.get? b=some o→h'.get? b=some o
abbrev iE (D:Addr→Prop) (h:Heap):Prop:=∀a,D a→∃o,h.get? a=some o
theorem iE.size {D:Addr→Prop} {h:Heap} (L:iE D h):¬D h.objs.size:=fun d=>let ⟨_,e⟩:=L _ d;ar (ee h) e
theorem iE.grows {D:Addr→Prop} {h h':Heap} (L:iE D h) (g:bM h h'):iE D h':=fun a d=>let ⟨o,e⟩:=L a d;⟨o,g a o e⟩
theorem aG (h:Heap) (o:Obj):bM h (h.push o):=fun _ _ e=>NM _ e
theorem ak.grows {Z:Wd} {D:Addr→Prop} {h h':Heap} {vs:List Nk} {us:List V} (r:ak Z D h vs us) (g:bM h h'):ak Z D h' vs us:=r.mono fun b o d e=>⟨d,g b o e⟩
theorem b8.grows {Z:Wd} {D:Addr→Prop} {h h':Heap} {v:Nk} {u:V} (r:b8 Z D h v u) (g:bM h h'):b8 Z D h' v u:=r.mono fun b o d e=>⟨d,g b o e⟩
theorem mL {Z:Wd} {D:Addr→Prop} {h:Heap} {vs:P5 Nk} {us:List V} {n:Nat} (L:iE D h) (r:ak Z D h vs.toList us) (z:us.length≤16777216):b8 Z D (h.push {cls:= .type "list",data:= .seq vs n}) (.ref h.objs.size) (.lst us):=
 .lst z L.size (N1 _ rfl) rfl rfl rfl (r.grows (aG _ _))
theorem mX {Z:Wd} {D:Addr→Prop} {h:Heap} {vs:P5 Nk} {us:List V} {n:Nat} (L:iE D h) (r:ak Z D h vs.toList us) (z:us.length≤16777216):b8 Z D (h.push {cls:= .type "tuple",data:= .seq vs n}) (.ref h.objs.size) (.tup us):=
 .tup z L.size (N1 _ rfl) rfl rfl (r.grows (aG _ _))
theorem js {n:Nat} {i:Int}:(if 0≤i then min i.toNat n else (i+(n:Int)).toNat)=clipAt n i∧clipAt n i≤n:=by
 cases i with
 |ofNat k=>exact ⟨(NG (Oi k)).trans (clipAt_nat n k).symm,by rw [show Int.ofNat k=(k:Int) from rfl,clipAt_nat];exact Rn ..⟩
 |negSucc k=>
  have e:clipAt n (Int.negSucc k)=n -(k+1):=clipAt_neg n (k+1) (OA k)
  rw [e,NV (Int.not_le.mpr (Int.negSucc_lt_zero k)),UC]
  exact ⟨Int.toNat_sub n (k+1),Qt ..⟩
theorem x8 {n:Nat} {lo:Nh Int} {a:Nat} (e:AT n 0 (lo.map .int)=some a):(QO lo none none n).1=(a:Int)∧a≤n:=by
 rw [UD]
 cases lo with
 |none=>cases e;exact ⟨rfl,N5 _⟩
 |some i=>rw [←Ng e];exact ⟨Nt _ js.1.symm,Ni (NZ js.1) js.2⟩
theorem tm {n:Nat} {hi:Nh Int} {b:Nat} (e:AT n n (hi.map .int)=some b):(QO none hi none n).2.1=(b:Int)∧b≤n:=by
 rw [UD]
 cases hi with
 |none=>cases e;exact ⟨rfl,Nz _⟩
 |some i=>rw [←Ng e];exact ⟨Nt _ js.1.symm,Ni (NZ js.1) js.2⟩
theorem tB (lo hi:Nh Int) (n:Nat):QO lo hi none n=((QO lo none none n).1,(QO none hi none n).2.1,1):=rfl
theorem Cf {lo hi:Nh Int} {items:P5 Nk} {a b:Nat} (ea:AT items.size 0 (lo.map .int)=some a) (eb:AT items.size items.size (hi.map .int)=some b):
  slicePick items lo hi none=((items.toList.take b).drop a).toArray:=by
 unfold slicePick
 rw [tB,(x8 ea).1,(tm eb).1]
 show (((VG (a:Int) (b:Int) 1)).filterMap (items[·]?)).toArray=_
 rw [Tu,pick_run,VH]
section
variable {Z:Wd} {D:Addr→Prop} {A:N4} {E:Nk→Nn→Prop} {s:Nn} {a b:Nk} {x y u:V} {Q:Nk→Nn→Prop}
theorem IR (lo hi:Nh Int) (n:Nat):RL lo hi 1 n=VG (QO lo none none n).1 (QO none hi none n).2.1 1:=rfl
theorem x3 {v:Nk} {o:Nh Int} (q:IsPart v o):∃p:Nh (Int×Tok),v=partValue p∧p.map (·.1)=o:=by
 cases q with
 |none=>exact ⟨none,rfl,rfl⟩
 |int i t=>exact ⟨some (i,t),rfl,rfl⟩
theorem B8 {xs ys:Sg} (h:eV xs=true) (k:∀x∈ys,x∈xs):eV ys=true:=NC.mpr fun x m=>NC.mp h x (k x m)
theorem ym {α:Type} (us:List α) (a b:Nat):((us.take b).drop a).length≤us.length:=by rw [O2,Sx];exact Ni (Qt ..) (Rn ..)
theorem DU {α:Type} {us:List α} {a b:Nat} {x:α} (m:x∈(us.take b).drop a):x∈us:=Pa (Os m)
theorem y4 {xs:Sg} {ka kb:Nat} (l:kb≤xs.length) (e:kb -ka=xs.length):(xs.take kb).drop ka=xs:=by
 have h:kb=xs.length:=Td l (e▸Qt ..)
 rw [h,U3]
 rw [h] at e
 cases ka with
 |zero=>rfl
 |succ k=>
  cases xs with
  |nil=>rfl
  |cons x xs=>exact absurd e (Q4 (Nat.sub_lt (OA _) (OA _)))
theorem Hk {xs:Sg} {lo hi:Nh Int} {pl pu:Nh (Int×Tok)} {ka kb:Nat} (hpl:pl.map (·.1)=lo) (hpu:pu.map (·.1)=hi) (ea:AT xs.length 0 (lo.map .int)=some ka) (eb:AT xs.length xs.length (hi.map .int)=some kb):
  slicePicked (bF xs) pl pu none=VG (ka:Int) (kb:Int) 1:=by
 unfold slicePicked
 rw [hpl,hpu,gK]
 show RL lo hi 1 xs.length=_
 rw [IR,(x8 ea).1,(tm eb).1]
theorem z9 {sl:Addr} {vl vu:Nk} {lo hi:Nh Int} (L:iE D s.heap) (ra:Rd Z D s.heap a x) (hs:s.heap.IsSliceOf sl vl vu .none) (pl:IsPart vl lo) (pu:IsPart vu hi)
  (e:i8 x (lo.map .int) (hi.map .int)=some u) (h:∀v h' k,bM s.heap h'→b8 Z D h' v u→Q v {s with heap:=h',toks:=k}):
  Ny (model Z.prog Z.w) A (getItem a (.ref sl)) Q E s:=by
 cases x<;>first|cases e;done|skip
 ·rename_i xs
  refine aL (c:=cU xs.length=true) e fun hz e=> ?_
  refine af e fun ka ea e=>am e fun kb eb e=> ?_
  have ok:=ra.strOk
  refine Nf fun nG=> ?_
  obtain ⟨t,rfl⟩:=ra.str
  obtain ⟨pl',rfl,hpl⟩:=x3 pl
  obtain ⟨pu',rfl,hpu⟩:=x3 pu
  refine nG ?_
  have pk:=Hk hpl hpu ea eb
  have pf:(slicePicked (bF xs) pl' pu' none).filterMap ((bF xs).cps[·]?)=(xs.take kb).drop ka:=by rw [pk,Tu,pick_run,VH];rfl
  have fin:∀h' k t,bM s.heap h'→Q (.str (bF ((xs.take kb).drop ka)) t) {s with heap:=h',toks:=k}:=fun h' k t g=>h _ _ _ g (e▸ .str _ t (B8 ok fun _=>DU))
  refine wpAny_getItem_str_slice (l:=pl') (u:=pu') (st:=none) hs rfl ?_
  unfold sliceMade
  split
  ·rename_i hw
   have l2:(slicePicked (bF xs) pl' pu' none).length=(bF xs).length:=Nv (Np.mp hw).2
   rw [pk,Tu,gK] at l2
   have:=fin s.heap s.toks t fun _ _ e=>e
   rw [y4 (tm eb).2 (by simpa using l2)] at this
   exact this
  ·refine ⟨?_,?_⟩
   ·show (((slicePicked (bF xs) pl' pu' none).filterMap ((bF xs).cps[·]?)).toArray).size≤PM
    rw [pf,UE];exact Ni (ym _ _ _) (eC hz)
   ·rw [pf];exact fin _ _ _ fun _ _ e=>e
 ·rename_i us
  refine af e fun ka ea e=>am e fun kb eb e=> ?_
  obtain ⟨l,items,rfl,hl,r,_,len,le⟩:=ra.lst
  refine Sn (st:=none) hl hs pl pu .none (by simp) ?_ (by rw [len];exact le)
  rw [Cf (by rw [len];exact ea) (by rw [len];exact eb)]
  exact h _ _ s.toks (aG _ _) (e▸mL L (by simpa using (r.take kb).drop ka) (Ni (ym _ _ _) le))
theorem lu {i:Int} (e:fX i=true):TR i≤2^20∧i.natAbs.log2 <9000:=by
 have h:i.natAbs <2^8192:=Nu e
 have k:i.natAbs.log2 <8193:=by
  by_cases h0:i.natAbs=0
  ·rw [h0,Nat.log2_zero];omega
  ·have:=(Nat.log2_lt h0).mpr h
   omega
 refine ⟨?_,by omega⟩
 unfold TR
 have e:(2:Nat)^20=1048576:=by decide
 rw [e]
 split<;>omega
noncomputable def E1:Fa→Tv
 | .add=> .Add| .sub=> .Sub| .mul=> .Mult| .fdiv=> .FloorDiv| .mod=> .Mod| .pow=> .Pow| .band=> .BitAnd| .bxor=> .BitXor| .shr=> .RShift
theorem eA {f:Int→Int→Nh Int} {P:Prop} (ra:Rd Z D s.heap a x) (rb:Rd Z D s.heap b y) (e:qm f x y=some u) (k:∀i j t t' r,a= .int i t→b= .int j t'→f i j=some r→ .int r=u→P):P:=
 af e fun _ e1 e=>af e fun _ e2 e=>am e fun _ e3 e=>let ⟨t,h1⟩:=(cX e1▸ra:Rd Z D s.heap a _).int;let ⟨t',h2⟩:=(cX e2▸rb:Rd Z D s.heap b _).int;k _ _ t t' _ h1 h2 e3 e
theorem AG {p q:Sg} (a:eV p=true) (b:eV q=true):eV (p++q)=true:=by rw [eV,List.all_append];exact Np.mpr ⟨a,b⟩
theorem D8 (p q:Sg):bF p++bF q=bF (p++q):=by
 show Str.append _ _=_
 simp [Str.append,bF]
theorem Eo {us vs:List V} (L:iE D s.heap) (ra:Rd Z D s.heap a (.lst us)) (rb:Rd Z D s.heap b (.lst vs)) (c:us.length+vs.length≤16777216) (h:∀v h' k,bM s.heap h'→b8 Z D h' v (.lst (us++vs))→Q v {s with heap:=h',toks:=k}):
  Ny (model Z.prog Z.w) A (binaryOp .Add a b) Q E s:=by
 refine Nf fun nG=> ?_
 obtain ⟨l,items,rfl,⟨⟨cls,dd,data,sl⟩,ho,hc,n,hd⟩,r,_,len,_⟩:=ra.lst
 obtain ⟨l',items',rfl,⟨⟨cls2,dd2,data2,sl2⟩,ho2,hc2,n2,hd2⟩,r',_,len',_⟩:=rb.lst
 cases hc;cases hd;cases hc2;cases hd2
 refine nG ?_
 refine SY ⟨_,ho,rfl⟩ ⟨_,ho2,rfl⟩ noFill_list_add seq_list_add PySem.F.slot_list_add PySem.F.entry_list_add (PySem.F.args_list_add_2 _ _) (list_addW l l' items items' n n2 dd dd2 sl sl2 (by rw [len,len'];exact c)) ⟨ho,ho2,?_⟩
 exact h _ _ s.toks (aG _ _) (mL L (by rw [TS];exact r.append r') (by rw [Nj];exact c))
theorem FC {us vs:List V} (L:iE D s.heap) (ra:b8 Z D s.heap a (.tup us)) (rb:b8 Z D s.heap b (.tup vs)) (c:us.length+vs.length≤16777216) (h:∀v h' k,bM s.heap h'→b8 Z D h' v (.tup (us++vs))→Q v {s with heap:=h',toks:=k}):
  Ny (model Z.prog Z.w) A (binaryOp .Add a b) Q E s:=by
 have ra0:=ra
 have rb0:=rb
 refine Nf fun nG=> ?_
 obtain ⟨l,items,rfl,⟨⟨cls,dd,data,sl⟩,ho,hc,n,hd⟩,r,len,_⟩:=ra.rd.tup
 obtain ⟨l',items',rfl,⟨⟨cls2,dd2,data2,sl2⟩,ho2,hc2,n2,hd2⟩,r',len',_⟩:=rb.rd.tup
 cases hc;cases hd;cases hc2;cases hd2
 refine nG ?_
 by_cases hv:items.size=0
 ·refine SY ⟨_,ho,rfl⟩ ⟨_,ho2,rfl⟩ Sy T4 Q5 QP (QG _ _)
   (tuple_addW0 l l' items items' n n2 dd dd2 sl sl2 (by simpa using hv)) ⟨ho,ho2,h _ _ s.toks (fun _ _ e=>e) ?_⟩
  cases SA.mp (len.symm.trans hv);exact rb0
 ·by_cases hw:items'.size=0
  ·refine SY ⟨_,ho,rfl⟩ ⟨_,ho2,rfl⟩ Sy T4 Q5 QP (QG _ _)
    (tuple_addW1 l l' items items' n n2 dd dd2 sl sl2 (by simpa using hv) (by simpa using hw)) ⟨ho,ho2,h _ _ s.toks (fun _ _ e=>e) ?_⟩
   cases SA.mp (len'.symm.trans hw);rw [NH];exact ra0
  ·exact SY ⟨_,ho,rfl⟩ ⟨_,ho2,rfl⟩ Sy T4 Q5 QP (QG _ _)
    (tuple_addW2 l l' items items' n n2 dd dd2 sl sl2 (by simpa using hv) (by simpa using hw) (by rw [len,len'];exact c)) ⟨ho,ho2,h _ _ s.toks (aG _ _) (mX L (by rw [TS];exact r.append r') (by rw [Nj];exact c))⟩
theorem zK {o:Fa} (L:iE D s.heap) (ra:b8 Z D s.heap a x) (rb:b8 Z D s.heap b y) (e:oE o x y=some u) (h:∀v h' k,bM s.heap h'→b8 Z D h' v u→Q v {s with heap:=h',toks:=k}):
  Ny (model Z.prog Z.w) A (binaryOp (E1 o) a b) Q E s:=by
 have g0:bM s.heap s.heap:=fun _ _ e=>e
 have fin:∀{r t} k,.int r=u→Q (.int r t) {s with toks:=k}:=fun k e=>h _ _ k g0 (e▸ .int _ _)
 cases o with
 |add=>
  refine Nf fun nG=> ?_
  cases x with
  |int i=>
   refine am e fun j e1 e2=> ?_
   obtain ⟨t,h1⟩:=ra.says
   obtain ⟨t',h2⟩:=(cX e1▸rb:b8 Z D s.heap b (.int j)).says
   rw [h1,h2] at nG
   exact nG (PyProof.Rows.add_int (fin _ e2))
  |str q=>
   refine af e fun r e1 e2=>aL e2 fun c e3=> ?_
   obtain ⟨o1,t,h1⟩:=ra.says
   obtain ⟨o2,t',h2⟩:=(dU e1▸rb:b8 Z D s.heap b (.str r)).says
   rw [h1,h2] at nG
   exact nG (PyProof.Rows.add_str (fun t' tk=>by rw [D8];exact h _ _ _ g0 (Ng e3▸ .str _ _ (AG o1 o2))) (by rw [gK,gK];exact eC c))
  |tup q=>exact af e fun r e1 e2=>aL e2 fun c e3=>nG (FC L ra (j6 e1▸rb) (eC c) (Ng e3▸h))
  |lst q=>exact af e fun r e1 e2=>aL e2 fun c e3=>nG (Eo L ra.rd (b8.rd (f7 e1▸rb)) (eC c) (Ng e3▸h))
  |_=>cases e
 |sub=>exact eA ra.rd rb.rd e fun i j t t' r h1 h2 h3 h4=>by rw [h1,h2];exact PyProof.Rows.sub_int (Ng h3▸fin _ h4)
 |mul=>
  refine eA ra.rd rb.rd e fun i j t t' r h1 h2 h3 h4=>aL h3 fun c h3=> ?_
  have c:=Np.mp c
  rw [h1,h2];exact PyProof.Rows.mul_int (Ng h3▸fin _ h4) (IntMulOk.of_bits (lu c.1).1 (lu c.2).1)
 |fdiv=>
  refine eA ra.rd rb.rd e fun i j t t' r h1 h2 h3 h4=>aL h3 fun c h3=> ?_
  have c:=Np.mp c
  rw [h1,h2];exact VX (Nu c.1) (Ng h3▸fin _ h4) (.inl (PyProof.noPylong_of_log2 (lu (Np.mp c.2).2).2))
 |mod=>
  refine eA ra.rd rb.rd e fun i j t t' r h1 h2 h3 h4=>aL h3 fun c h3=> ?_
  rw [h1,h2];exact PyProof.Rows.mod_int' c (Ng h3▸fin _ h4)
 |pow=>
  refine eA ra.rd rb.rd e fun i j t t' r h1 h2 h3 h4=>aL h3 fun c h3=> ?_
  have c:=Np.mp c
  have c2:=Np.mp c.2
  rw [h1,h2];exact pow_int_small (Nu c.1) (RM (Nu c2.1) (by decide)) (Nu c2.2) (Ng h3▸fin _ h4)
 |band=>exact eA ra.rd rb.rd e fun i j t t' r h1 h2 h3 h4=>by rw [h1,h2];exact PyProof.Rows.and_int (Ng h3▸fin _ h4)
 |bxor=>exact eA ra.rd rb.rd e fun i j t t' r h1 h2 h3 h4=>by rw [h1,h2];exact PyProof.Rows.xor_int (Ng h3▸fin _ h4)
 |shr=>
  refine eA ra.rd rb.rd e fun i j t t' r h1 h2 h3 h4=>aL h3 fun c h3=> ?_
  rw [h1,h2];exact PyProof.Rows.rshift_int c (Ng h3▸fin _ h4)
end
end
section
open PySem PySem.W PyProof.Rows
set_option tactic.hygienic false
theorem gO {β:Type} {us:List β} {b:β} (e:one us=some b):us=[b]:=by
 match us,e with
 |[a],e=>rw [Ng e]
theorem gm {β α:Type} {us:List β} {f:β→β→Nh α} {r:α} (e:two us f=some r):∃a b,us=[a,b]∧f a b=some r:=by
 match us,e with
 |a::us,e=>exact af e fun b e1 e2=>⟨a,b,by rw [gO e1],e2⟩
abbrev DI (D:Addr→Prop) (I J:Addr):Addr→Prop:=fun b=>D b∨b=I∨b=J
section
variable {Z:Wd} {D D':Addr→Prop} {h h':Heap}
theorem qo {β α:Type} {us:List β} {f:β→β→Nh α} {r:α} {P:Prop} (e:two us f=some r) (K:∀a b,us=[a,b]→f a b=some r→P):P:=let ⟨a,b,h1,h2⟩:=gm e;K a b h1 h2
theorem m8 {α:Type} {l:List α} {i:Nat} {x:α} {xs:List α} (e:l.drop i=x::xs):l[i]? =some x∧l.drop (i+1)=xs:=by
 have h1:(l.drop i)[0]? =some x:=by rw [e];rfl
 rw [PA] at h1
 refine ⟨by simpa using h1,?_⟩
 rw [←List.drop_drop,e];rfl
theorem ak.dropCons {vs:List Nk} {i:Nat} {x:V} {us:List V} (r:ak Z D h (vs.drop i) (x::us)):∃v,vs[i]? =some v∧b8 Z D h v x∧ak Z D h (vs.drop (i+1)) us:=by
 generalize hd:vs.drop i=w at r
 cases r with
 |cons a b=>
  obtain ⟨e1,e2⟩:=m8 hd
  exact ⟨_,e1,a,e2▸b⟩
theorem ak.one {vs:List Nk} {x:V} (r:ak Z D h vs [x]):∃v,vs=[v]∧b8 Z D h v x:=by
 cases r with|cons a r=>cases r;exact ⟨_,rfl,a⟩
theorem ak.two {vs:List Nk} {x y:V} (r:ak Z D h vs [x,y]):∃v w,vs=[v,w]∧b8 Z D h v x∧b8 Z D h w y:=by
 cases r with|cons a r=>obtain ⟨w,rfl,b⟩:=r.one;exact ⟨_,_,rfl,a,b⟩
theorem ak.dropNil {vs:List Nk} {i:Nat} (r:ak Z D h (vs.drop i) []):vs[i]? =none:=by
 have:=r.length
 rw [O2,RD] at this
 exact OR (by omega)
end
section
variable {Z:Wd} {D:Addr→Prop} {h:Heap}
theorem qu {p:Str×Nk} {kvs:List (Str×Nk)} {k:Str} {v:Nk} (hn:p.1≠k):stored (p::kvs) k v=p::stored kvs k v:=by
 unfold stored
 simp only [Rq,hn,decide_false,Bool.false_or]
 split
 ·simp [hn]
 ·simp
theorem rz {k:Str} {v:Nk}:∀{l:List (Str×Nk)},(∀q∈l,q.1≠k)→l.map (fun kv=>if kv.1=k then (kv.1,v) else kv)=l
 |[],_=>rfl
 |q::l,hl=>by rw [NA,NV (hl q OP),rz fun y hy=>hl y (OJ _ hy)]
theorem pI {p:Str×Nk} {kvs:List (Str×Nk)} {k:Str} {v:Nk} (e:p.1=k) (n:∀q∈kvs,q.1≠k):stored (p::kvs) k v=(k,v)::kvs:=by
 unfold stored
 simp only [Rq,e,decide_true,SZ,if_true,NA,rz n]
theorem sN {ks:List Sg} {us:List V} {x k:Sg} {u w:V} (e:k=x):eB (k::ks) (w::us) x u=(k::ks,u::us):=NG e
theorem tu {ks:List Sg} {us:List V} {x k:Sg} {u w:V} (e:k≠x):eB (k::ks) (w::us) x u=(k::(eB ks us x u).1,w::(eB ks us x u).2):=NV e
theorem nX {x:Sg} {v:Nk} {u:V} {kvs:List (Str×Nk)} {ks:List Sg} {us:List V} (e:kvs.map (·.1)=ks.map bF) (r:ak Z D h (kvs.map (·.2)) us) (nd:(kvs.map (·.1)).Nodup) (rv:b8 Z D h v u):
  (stored kvs (bF x) v).map (·.1)=(eB ks us x u).1.map bF∧ak Z D h ((stored kvs (bF x) v).map (·.2)) (eB ks us x u).2:=by
 induction kvs generalizing ks us with
 |nil=>
  cases ks with
  |nil=>cases r;exact ⟨rfl,.cons rv .nil⟩
  |cons=>cases e
 |cons p kvs ih=>
  cases ks with
  |nil=>cases e
  |cons k ks=>
   cases r with
   |cons r0 r=>
    rw [NA,Pc] at nd
    have e1:=OO e
    by_cases q:k=x
    ·have hk:p.1=bF x:=e1.1.trans (q▸rfl)
     rw [pI hk fun y hy z=>nd.1 (by rw [hk,←z];exact OS hy),sN q]
     exact ⟨congr (Nt List.cons (Nt bF q.symm)) e1.2,.cons rv r⟩
    ·have:=ih e1.2 r nd.2
     rw [qu fun z=>q (oK (e1.1.symm.trans z)),tu q]
     exact ⟨congr (Nt List.cons e1.1) this.1,.cons r0 this.2⟩
theorem nE {P:Sg→Prop} {x:Sg} {u:V} (hx:P x):∀{ks:List Sg} {us:List V},(∀k∈ks,P k)→∀k∈(eB ks us x u).1,P k
 |[],_,_,k,m=>by cases NU.mp m;exact hx
 |y::ks,[],_,k,m=>by cases NU.mp m;exact hx
 |y::ks,w::us,a,k,m=>by
  by_cases q:y=x
  ·rw [sN q] at m;exact a k m
  ·rw [tu q] at m;exact (NN.mp m).elim (fun z=>z▸a y OP) fun m=>nE hx (fun z mz=>a z (OJ _ mz)) k m
end
theorem sQ:RQ (.type "list") "keys"=pure none:=am_miss_of_fast (by decide+kernel)
section
variable {prog:N2} {w:PK} {A:N4} {E:Nk→Nn→Prop} {s:Nn}
theorem zG {l:Addr} {o:Obj} {xs:P5 Nk} {k:Nat} {Q:Nh Nk→Nn→Prop} (hx:s.heap.get? l=some o) (hc:o.cls= .type "list") (hdat:o.data= .seq xs k) (hd:o.dict=none) (hA:A.handled=none)
  (h:∀h' tk,(∀b o,s.heap.get? b=some o→h'.get? b=some o)→Q none {s with heap:=h',toks:=tk}):
  Ny (model prog w) A (getAttr? (.ref l) "keys") Q E s:=by
 obtain ⟨c,dct,dat,sl⟩:=o
 simp only at hc hdat hd
 subst hc hdat hd
 obtain ⟨hp,g,d,tk,os⟩:=s
 have hT:∀tk',(⟨hp,g,d,tk',os⟩:Nn).TypeIs (.ref l) "list":=fun _=>⟨_,hx,rfl⟩
 have f1:=sub_AttributeError
 have f3:=F.slot_list_getattribute.lookup
 have f4:=F.slot_list_getattribute.bind (.ref l)
 have f5:=am_list_getattr_none
 unfold getAttr? getAttrBy? getAttrBy
 repeat (any_goals (first|assumption|exact hT _|((with_reducible show Ny _ _ (call (Value.builtin "list.__getattribute__") _ _) _ _ _);refine Un F.slot_list_getattribute (hT _) am_entry_list_getattribute (F.args_list_getattribute_2 _ _) (meets_getattribute_miss_list l xs k sl "keys" _ sQ (by decide+kernel) (by decide+kernel)) ⟨hx,hA,fun h' tk' e hx'=> ?_⟩)|wp_step))
 refine Nf fun nG=> ?_
 obtain ⟨t',u',he⟩:=hx'.there
 refine nG ?_
 show Ny _ _ (getattributeRaised _ _ _ _ _ _ _) _ _ _
 unfold getattributeRaised
 repeat (any_goals (first|assumption|wp_step))
 exact h _ _ hx'.keeps
end
theorem iO:entryFor table "dict.update.loop"=some Builtin.«dict.update.loop»:=entryFor_of_tree (by kernel_rfl)
theorem iN (args:Args):(UF "dict.update.loop" args).quiet=true:=RS _ (by decide+kernel)
section
variable {Z:Wd} {A:N4} {s:Nn}
noncomputable def Jg (ck:List Sg) (cw:List V) (ks:List Sg) (ws:List V):List Sg×List V:=(ks.zip ws).foldl (fun d kv=>eB d.1 d.2 kv.1 kv.2) (ck,cw)
theorem vF {x:Sg} {w:V}:∀{ks:List Sg} {ws:List V},(eB ks ws x w).1.length≤ks.length+1
 |[],_=>Nz _
 |_::_,[]=>NO (N5 _)
 |k::ks,v::vs=>by
  by_cases q:k=x
  ·rw [sN q];exact NQ _
  ·rw [tu q];exact NO vF
theorem xc {y:V} {ys:List V} {q:List Sg×List V} (e:hS (y::ys)=some q):∃k u q',y= .tup [.str k,u]∧hS ys=some q'∧q=(k::q'.1,u::q'.2):=
 af e fun p e1 e=>let ⟨a,u,e2,e⟩:=gm e;af e fun k e3 e=>am e fun q' e4 e=>⟨k,u,q',by rw [j6 e1,e2,dU e3],e4,e.symm⟩
structure DL (Z:Wd) (D:Addr→Prop) (d I l:Addr) (items:P5 Nk) (i:Nat) (ys:List V) (kvs:List (Str×Nk)) (ck:List Sg) (cw:List V) (h:Heap):Prop where
 it:h.IsListIter I l i
 lst:∃o n,h.get? l=some o∧o.cls= .type "list"∧o.data= .seq items n
 rep:ak Z D h (items.toList.drop i) ys
 dof:h.DictOf (Op Z.prog Z.w) d kvs
 keys:kvs.map (·.1)=ck.map bF
 vals:ak Z D h (kvs.map (·.2)) cw
 ok:∀k∈ck,eV k=true
structure DE (Z:Wd) (D:Addr→Prop) (d I:Addr) (cd:List Sg×List V) (h h':Heap) (kvs':List (Str×Nk)):Prop where
 keep:∀b o,b≠d→b≠I→h.get? b=some o→h'.get? b=some o
 dof:h'.DictOf (Op Z.prog Z.w) d kvs'
 keys:kvs'.map (·.1)=cd.1.map bF
 vals:ak Z D h' (kvs'.map (·.2)) cd.2
 ok:∀k∈cd.1,eV k=true
theorem DictOf.keep {h h':Heap} {d:Addr} {kvs:List (Str×Nk)} (x:h.DictOf (Op Z.prog Z.w) d kvs) (k:∀o,h.get? d=some o→h'.get? d=some o):h'.DictOf (Op Z.prog Z.w) d kvs:=let ⟨o,es,ep,g,q⟩:=x;⟨o,es,ep,k o g,q⟩
theorem DictOf.nodup {h:Heap} {d:Addr} {kvs:List (Str×Nk)} (x:h.DictOf (Op Z.prog Z.w) d kvs):(kvs.map (·.1)).Nodup:=let ⟨_,_,_,_,_,_,_,_,nd⟩:=x;nd
theorem zm {D:Addr→Prop} {d I l:Addr} {items:P5 Nk} (hA:A.handled=none) (dI:d≠I) (dl:d≠l) (Il:I≠l) (dd:D d) (dI':D I):
  ∀{ys:List V} {q:List Sg×List V} {i:Nat} {s:Nn} {kvs:List (Str×Nk)} {ck:List Sg} {cw:List V} {t:Tok},hS ys=some q→DL Z D d I l items i ys kvs ck cw s.heap→ck.length+q.1.length≤16777216→∀{R:Qo→Nn→Prop},
   (∀h' tk kvs',DE Z D d I (Jg ck cw q.1 q.2) s.heap h' kvs'→R (.ok (.ret .none)) {s with heap:=h',toks:=tk})→
   Pr (model Z.prog Z.w) A (.builtin "dict.update.loop" ⟨[.ref d,.ref I,.int i t,.none],[]⟩) R s:=by
 intro ys
 induction ys with
 |nil=>
  intro q i s kvs ck cw t e S hz R h
  refine Nf fun nG=> ?_
  obtain ⟨o,n,hl,hc,hd⟩:=S.lst
  cases Ng e
  refine nG ?_
  refine Vq iO ?_
  show Ny _ _ (pyNext (.ref I)>>=_) _ _ _
  refine No (Tl hA S.it (l:=l) ⟨o,hl,hc,n,hd⟩ (by rw [←On];exact S.rep.dropNil) fun h' sb=> ?_)
  show Ny _ _ (VZ d []>>=_) _ _ _
  exact No (NE (NE (h h' s.toks kvs ⟨fun b o _ b2 e=>sb b o b2 e,DictOf.keep S.dof fun o e=>sb d o dI e,S.keys,S.vals.mono fun b o q e=>⟨q,sb b o (fun z=>q (z▸dI')) e⟩,S.ok⟩)))
 |cons y ys ih=>
  intro q i s kvs ck cw t e S hz R h
  refine Nf fun nG=> ?_
  obtain ⟨o,n,hl,hc,hd⟩:=S.lst
  obtain ⟨v,hv,rv,r'⟩:=S.rep.dropCons
  obtain ⟨k,u,q',rfl,ep,rfl⟩:=xc e
  refine nG ?_
  refine Vq iO ?_
  show Ny _ _ (pyNext (.ref I)>>=_) _ _ _
  refine No (S0 S.it (l:=l) ⟨o,hl,hc,n,hd⟩ (x:=v) (by rw [←On];exact hv) fun h1 hi1 sb=> ?_)
  have old:∀b o,¬D b→s.heap.get? b=some o→¬D b∧h1.get? b=some o:=fun b o q e=>⟨q,sb.extBut b o (fun z=>q (z▸dI')) e⟩
  refine Nf fun nG=> ?_
  obtain ⟨a,its,rfl,⟨ot,ga,ca,nt,ea⟩,ra,_,_⟩:=(rv.mono old).rd.tup
  obtain ⟨v1,v2,hits,r1,r2⟩:=ra.two
  have kok:=r1.rd.strOk
  obtain ⟨tk,rfl⟩:=r1.rd.str
  refine nG ?_
  refine No (Oj (No (wpAny_tryCatch ?_)))
  unfold Builtin.Dict.pairItems
  refine No (wpAny_typeOf ⟨ot,ga,ca⟩ ?_)
  rw [NG (by decide)]
  refine No (wpAny_seqItems ga ea (NE ?_))
  dsimp only [Option.getD_some]
  rw [hits]
  refine Oj (wpAny_dictSet_pairs (knd:=Op Z.prog Z.w) (k:=bF k) (kvs:=kvs) (by simp [Op,Value.isStrOf]) (DictOf.keep S.dof fun o e=>sb.extBut d o dI e) (fun h2 dof2 sb2=> ?_) ?_)
  ·have old2:∀b o,¬D b→h1.get? b=some o→¬D b∧h2.get? b=some o:=fun b o q e=>⟨q,sb2.extBut b o (fun z=>q (z▸dd)) e⟩
   have st:=nX (x:=k) S.keys ((S.vals.mono old).mono old2) (DictOf.nodup S.dof) (r2.mono old2)
   refine NE ⟨iN _,?_⟩
   show Pr _ A (.builtin "dict.update.loop" ⟨[.ref d,.ref I,.int ((i+1:Nat):Int) 0,.none],[]⟩) R _
   exact ih (s:={s with heap:=h2,toks:=_}) ep
    ⟨hi1.extBut sb2.extBut (TO dI),⟨o,n,sb2.extBut l o (TO dl) (sb.extBut l o (TO Il) hl),hc,hd⟩,(r'.mono old).mono old2,dof2,st.1,st.2,nE kok S.ok⟩
    (Ni (OB vF _) (by rw [Oq,OT 1];exact hz)) fun h3 tk3 kvs3 ⟨k3,d3,e3,r3,o3⟩=>h h3 tk3 kvs3 ⟨fun b o b1 b2 e=>k3 b o b1 b2 (sb2.extBut b o b1 (sb.extBut b o b2 e)),d3,e3,r3,o3⟩
  ·show kvs.length≤16777216
   rw [show kvs.length=ck.length by simpa using Nt PR S.keys]
   exact Ni (Oa _ _) hz
theorem wc {D:Addr→Prop} {v:Nk} {us:List V} {w:V} {Q:Nk→Nn→Prop} {X:Nk→Nn→Prop} (L:iE D s.heap) (hb:∀d,s.heap.objs.size≤d→(d==QN)=false) (hh:A.handled=none) (rv:Rd Z D s.heap v (.lst us)) (e:Gp us=some w)
  (h:∀v h' k,bM s.heap h'→b8 Z D h' v w→Q v {s with heap:=h',toks:=k}):Ny (model Z.prog Z.w) A (call (.type "dict") [v]) Q X s:=by
  refine Nf fun nG=> ?_
  refine af e fun q ep e=> ?_
  refine aL e fun hz e=> ?_
  cases Ng e
  obtain ⟨l,items,rfl,⟨o,gl,cl,n,el⟩,rl,⟨o',gl',xl⟩,_,_⟩:=rv.lst
  cases gl.symm.trans gl'
  refine nG ?_
  refine callType_codes (Q₁:=fun obj s₁=>obj= .ref s.heap.objs.size∧s₁={s with heap:=s.heap.push {cls:= .type "dict",data:= .dict #[]}}) F.kt_called_dict (F.kt_typeCall_dict_1 _) F.entry_dict_init (kt_code_dict_new _ ⟨rfl,rfl⟩) ?_
  rintro obj s₁ ⟨rfl,rfl⟩
  have hnew:(s.heap.push {cls:= .type "dict",data:= .dict #[]}).DictOf (Op Z.prog Z.w) s.heap.objs.size []:=Vr s.heap
  refine ⟨hnew.typeIs,F.args_dict_init_2 _ _,?_⟩
  unfold Builtin.«dict.__init__»
  refine No ?_
  unfold V0
  refine No (wpAny_notOrdered_dict hnew.typeIs ?_)
  show Ny _ _ (pure (s.heap.objs.size,[QQ l])) _ _ _
  refine NE ?_
  show Ny _ _ (SD "dict.__init__" s.heap.objs.size (.ref l) [] .none) _ _ _
  unfold SD
  have gl1:(s.heap.push {cls:= .type "dict",data:= .dict #[]}).get? l=some o:=NM _ gl
  refine No (wpAny_typeOf (s:={s with heap:=s.heap.push {cls:= .type "dict",data:= .dict #[]}}) ⟨o,gl1,cl⟩ ?_)
  rw [NG (by decide)]
  refine No (zG (s:={s with heap:=s.heap.push {cls:= .type "dict",data:= .dict #[]}}) gl1 cl el xl hh fun h1 t1 k1=> ?_)
  have gl2:=k1 l o gl1
  simp only [Uo,if_true]
  refine No (wpAny_rule (No (Sc (s:={s with heap:=h1,toks:=t1}) ⟨o,gl2,cl,n,el⟩ ?_)))
  refine NE ⟨iN _,?_⟩
  dsimp only
  have nd:s.heap.get? s.heap.objs.size=none:=ee _
  have gd:∃o,h1.get? s.heap.objs.size=some o:=⟨_,k1 _ _ (N1 _ rfl)⟩
  have ndI:s.heap.objs.size≠h1.objs.size:=fun z=>by obtain ⟨_,e⟩:=gd;rw [z] at e;exact Ou _ (NY e)
  have ndl:s.heap.objs.size≠l:=fun z=>by rw [←z,nd] at gl;cases gl
  have nIl:h1.objs.size≠l:=fun z=>by rw [←z] at gl2;exact Ou _ (NY gl2)
  have nI:s.heap.get? h1.objs.size=none:=by
   cases q:s.heap.get? h1.objs.size with
   |none=>rfl
   |some o=>exact absurd (NY (k1 _ _ (NM _ q))) (Ou _)
  have up:∀b o,s.heap.get? b=some o→(h1.push {cls:= .type "list_iterator",data:= .fields #[.ref l,.int 0 0]}).get? b=some o:=fun b o e=>NM _ (k1 _ _ (NM _ e))
  have old:∀b o,¬D b→s.heap.get? b=some o→¬DI D s.heap.objs.size h1.objs.size b∧(h1.push {cls:= .type "list_iterator",data:= .fields #[.ref l,.int 0 0]}).get? b=some o:=fun b o q e=>
   ⟨fun z=>z.elim q fun z=>z.elim (fun z=>by subst z;exact ar nd e) fun z=>by subst z;exact ar nI e,up b o e⟩
  refine zm (A:=A.in1) (t:=0) (D:=DI D s.heap.objs.size h1.objs.size) (d:=s.heap.objs.size) (I:=h1.objs.size) (l:=l) (items:=items) (i:=0) (s:={s with heap:=h1.push {cls:= .type "list_iterator",data:= .fields #[.ref l,.int 0 0]},toks:=t1}) hh ndI ndl nIl (.inr (.inl rfl)) (.inr (.inr rfl)) ep
   (kvs:=[]) (ck:=[]) (cw:=[]) ⟨⟨_,N1 _ rfl,rfl,rfl⟩,⟨o,n,up l o gl,cl,el⟩,rl.mono old,DictOf.keep hnew fun o e=>NM _ (k1 _ _ e),rfl,.nil,fun _ m=>nomatch m⟩ (by rw [RD,Om];exact eC hz) fun h3 tk3 kvs3 ⟨k3,d3,e3,r3,o3⟩=> ?_
  refine ⟨rfl,h _ h3 tk3 (fun b o e=>k3 b o (fun z=>by subst z;exact ar nd e) (fun z=>by subst z;exact ar nI e) (up b o e)) ?_⟩
  exact .dct (NC.mpr o3) (fun z=>let ⟨_,e⟩:=L _ z;ar nd e) (hb _ (Nz _)) d3 e3 (r3.mono fun b o q e=>⟨fun z=>q (.inl z),e⟩)
end
end
section
open PySem PySem.W PyProof.Rows
inductive gA (Z:Wd) (D:Addr→Prop) (h:Heap):List Nk→List V→Prop
 |nil:gA Z D h [] []
 |cons {v vs u us}:Rd Z D h v u→gA Z D h vs us→gA Z D h (v::vs) (u::us)
section
variable {Z:Wd} {D:Addr→Prop} {h:Heap} {vs:List Nk} {us:List V} {u w:V} {P:Prop}
theorem gA.one (r:gA Z D h vs [u]):∃v,vs=[v]∧Rd Z D h v u:=by
 cases r with|cons a b=>cases b;exact ⟨_,rfl,a⟩
theorem gA.two (r:gA Z D h vs [u,w]):∃v y,vs=[v,y]∧Rd Z D h v u∧Rd Z D h y w:=by
 cases r with|cons a r=>obtain ⟨y,h1,b⟩:=gA.one r;subst h1;exact ⟨_,_,rfl,a,b⟩
theorem gA.one_elim {f:V→Nh V} (r:gA Z D h vs us) (e:(Internal.one us).bind f=some u) (k:∀v x,vs=[v]→Rd Z D h v x→f x=some u→P):P:=
 af e fun x e1 e2=>let ⟨v,h1,h2⟩:=gA.one (gO e1▸r);k v x h1 h2 e2
theorem gA.two_elim {f:V→V→Nh V} (r:gA Z D h vs us) (e:Internal.two us f=some u) (k:∀v v' x x',vs=[v,v']→Rd Z D h v x→Rd Z D h v' x'→f x x'=some u→P):P:=
 let ⟨a,b,e1,e2⟩:=gm e;let ⟨v,w,h1,h2,h3⟩:=gA.two (e1▸r);k v w a b h1 h2 h3 e2
theorem ak.one_elim {f:V→Nh V} (r:ak Z D h vs us) (e:(Internal.one us).bind f=some u) (k:∀v x,vs=[v]→b8 Z D h v x→f x=some u→P):P:=
 af e fun x e1 e2=>let ⟨v,h1,h2⟩:=ak.one (gO e1▸r);k v x h1 h2 e2
theorem ak.two_elim {f:V→V→Nh V} (r:ak Z D h vs us) (e:Internal.two us f=some u) (k:∀v v' x x',vs=[v,v']→b8 Z D h v x→b8 Z D h v' x'→f x x'=some u→P):P:=
 let ⟨a,b,e1,e2⟩:=gm e;let ⟨v,w,h1,h2,h3⟩:=ak.two (e1▸r);k v w a b h1 h2 h3 e2
end
noncomputable def Lk:Bf→Nk
 | .len=> .builtin "len"| .list_=> .type "list"| .tuple_=> .type "tuple"| .dict_=> .type "dict"| .str_=> .type "str"| .int_=> .type "int"
 | .all_=> .builtin "all"| .min_=> .builtin "min"| .max_=> .builtin "max"
section
variable {Z:Wd} {D:Addr→Prop} {A:N4} {E:Nk→Nn→Prop} {s:Nn} {vs:List Nk} {us:List V} {u:V} {Q:Nk→Nn→Prop}
noncomputable def oP (vs:List Nk) (i:Nat):Bool:=match vs[i]? with|some (.bool b)=>b|_=>true
theorem zS {h:Heap} {vs:List Nk} {us:List V} {b:Bool} (r:ak Z D h vs us) (e:HJ us=some b):(∀(i:Nat) (v:Nk),vs[i]? =some v→∃c,v=Value.bool c)∧(OV vs.length).all (oP vs)=b:=by
 induction us generalizing vs b with
 |nil=>cases r;exact ⟨fun _ _ e=>(nomatch e),Ng e⟩
 |cons u us ih=>
  cases r with
  |cons x r=>
   refine af e fun c e1 e4=>am e4 fun d e2 e3=> ?_
   have hv:=(nH e1▸x:b8 Z D h _ (.bool c)).says
   have a:=ih r e2
   refine ⟨fun i w hi=> ?_,?_⟩
   ·cases i with
    |zero=>exact ⟨c,Ng hi▸hv⟩
    |succ i=>exact a.1 i w hi
   ·rw [OX,PN,List.all_cons,List.all_map,←e3,←a.2,hv];rfl
theorem oH (n:Nat):(NB (toString (n:Int)):Str)=bF (eI n):=by
 rw [Str.ofString_eq_toList]
 have:toString (n:Int)=String.ofList (Nat.toDigits 10 n):=rfl
 rw [this,String.toList_ofList]
 rfl
theorem xk {n:Nat} (h:n <10000000000):n.log2 <1920:=by
 by_cases h0:n=0
 ·subst h0;rw [Nat.log2_zero];omega
 ·have:n <2^34:=Od h (Oy rfl)
  have:=(Nat.log2_lt h0).mpr this
  omega
variable {v:Nk} {x:V}
theorem zW (q:Rd Z D s.heap v x) (e:J9 x=some u) (h:∀i t k,.int i=u→Q (.int i t) {s with toks:=k}):Ny (model Z.prog Z.w) A (call (.builtin "len") [v]) Q E s:=by
 cases x<;>first|cases e;done|skip
 ·refine aL e fun c e=> ?_
  obtain ⟨t,rfl⟩:=q.str
  have c:=Nu c
  exact PyProof.Rows.len_str (by rw [gK];omega) (h _ _ _ (by rw [gK];exact Ng e))
 ·obtain ⟨a,items,rfl,hl,ri,len,le⟩:=q.tup
  exact PyProof.Rows.len_tuple hl (by rw [len];omega) (h _ _ _ (by rw [len];exact Ng e))
 ·obtain ⟨a,items,rfl,hl,ri,_,len,le⟩:=q.lst
  exact PyProof.Rows.len_list hl (by rw [len];omega) (h _ _ _ (by rw [len];exact Ng e))
theorem rP {h:Heap}:∀{l:List Nk} {cs:Sg},l.length=cs.length→(∀(j:Nat) (v:Nk),l[j]? =some v→∃c t,cs[j]? =some c∧v=V7 ⟨#[c]⟩ t)→eV cs=true→ak Z D h l (cs.map fun c=>V.str [c])
 |[],[],_,_,_=> .nil
 |[],_::_,hl,_,_=>nomatch hl
 |_::_,[],hl,_,_=>nomatch hl
 |v::l,c::cs,hl,hx,ok=>by
  have ok:=Np.mp ok
  refine .cons ?_ (rP (PO hl) (fun j w hj=>hx (j+1) w hj) ok.2)
  obtain ⟨c',t',e1,rfl⟩:=hx 0 v rfl
  cases Ng e1
  exact .str [c] t' (Np.mpr ⟨ok.1,rfl⟩)
theorem vk {h:Heap} {prog:N2} {w:PK}:∀{l:List Nk} {ks:List Sg} {kvs:List (Str×Nk)},l.length=ks.length→kvs.map (·.1)=ks.map bF→(∀(j:Nat) (v:Nk),l[j]? =some v→∃k x,kvs[j]? =some (k,x)∧(Op prog w).is k v=true)→ks.all eV=true→ak Z D h l (qz ks)
 |[],[],_,_,_,_,_=> .nil
 |[],_::_,_,hl,_,_,_=>nomatch hl
 |_::_,[],_,hl,_,_,_=>nomatch hl
 |_::_,_::_,[],_,he,_,_=>nomatch he
 |v::l,c::cs,kv::kvs,hl,he,hx,ok=>by
  have ok:=Np.mp ok
  refine .cons ?_ (vk (PO hl) (OO he).2 (fun j w hj=>hx (j+1) w hj) ok.2)
  obtain ⟨k,x,e1,e2⟩:=hx 0 v rfl
  cases Ng e1
  obtain ⟨t,rfl⟩:=TT e2
  cases (OO he).1
  exact .str c t ok.1
theorem wk (L:iE D s.heap) (hh:A.handled=none) (q:Rd Z D s.heap v x) (e:FU x=some u)
  (h:∀v h' k,bM s.heap h'→b8 Z D h' v u→Q v {s with heap:=h',toks:=k}):Ny (model Z.prog Z.w) A (call (.type "list") [v]) Q E s:=by
 cases x<;>first|cases e;done|skip
 ·rename_i xs
  refine Nf fun nG=> ?_
  refine aL e fun c e=> ?_
  cases Ng e
  have ok:=q.strOk
  obtain ⟨t,rfl⟩:=q.str
  refine nG ?_
  have hz:=eC (Np.mp c).1
  refine call_list_str hh (bF xs) t (hn:=by show (bF xs).length≤_;rw [gK];exact hz) fun h' tk acc' c' hk hS' hacc=>h _ _ _ hk (.lst (by rw [Nl];exact hz) L.size hS' rfl rfl rfl (rP (by rw [OH];exact hacc.1.trans (gK xs)) (fun j v hj=> ?_) ok))
  obtain ⟨c',u',e1,e2⟩:=hacc.2 j v (by rw [←On];exact hj)
  exact ⟨c',u',by simpa [bF] using e1,e2⟩
 ·obtain ⟨a,items,rfl,⟨o,ho,hc,n,hd⟩,ri,len,le⟩:=q.tup
  exact call_list_seq (hsz:=by rw [len];exact le) a (.inr rfl) ho hc hd fun h' c' k e'=>h _ _ _ k (Ng e▸ .lst le L.size e' rfl rfl rfl (ri.grows k))
 ·obtain ⟨a,items,rfl,⟨o,ho,hc,n,hd⟩,ri,_,len,le⟩:=q.lst
  exact call_list_seq (hsz:=by rw [len];exact le) a (.inl rfl) ho hc hd fun h' c' k e'=>h _ _ _ k (Ng e▸ .lst le L.size e' rfl rfl rfl (ri.grows k))
 ·rename_i ks ws
  refine aL e fun c e=> ?_
  cases Ng e
  obtain ⟨d,kvs,rfl,sm,hd,ek,ri,ok⟩:=q.dct
  have hkl:kvs.length=ks.length:=by simpa using Nt PR ek
  obtain ⟨ep,hda⟩:=hd.dictAt
  exact kdl_call (kdl_dict (knd:=Op Z.prog Z.w) (kvs:=kvs) (ep:=ep) sm) hh hda (by rw [hkl];exact eC c) fun h' tk acc' c' hk hS' hacc=>h _ _ _ hk (.lst (by rw [qz,Nl];exact eC c) L.size hS' rfl rfl rfl
   (vk (prog:=Z.prog) (w:=Z.w) (by rw [OH];exact hacc.1.trans hkl) ek (fun j v hj=>hacc.2 j v (by rw [←On];exact hj)) ok))
theorem zV (n:Nat):eV (eI n)=true:=NC.mpr fun x m=>by
 obtain ⟨c,_,rfl⟩:=Of.mp m
 refine Nw ?_
 show c.val.toNat <_
 rcases c.valid with h|h
 ·exact Pu h (by decide)
 ·exact h.2
theorem ze {i:Int} (q:Rd Z D s.heap v (.int i)) (e:xo i=some u) (h:∀x t k,eV x=true→ .str x=u→Q (.str (bF x) t) {s with toks:=k}):Ny (model Z.prog Z.w) A (call (.type "str") [v]) Q E s:=by
 refine aL e fun c e=> ?_
 have c:=Np.mp c
 have c1:=Nu c.1
 have c2:=Nu c.2
 obtain ⟨t,rfl⟩:=q.int
 obtain ⟨n,rfl⟩:=Qc c1
 exact PySem.P.str_of_int (xk (n:=n) (by omega)) (by rw [show (NB (toString (n:Int)):Str)=bF (eI n) from oH n];exact h _ _ _ (zV n) (Ng e))
theorem z5 {xs:List V} {b:Bool} (hh:A.handled=none) (q:Rd Z D s.heap v (.lst xs)) (e:HJ xs=some b) (h:∀h' k,bM s.heap h'→Q (.bool b) {s with heap:=h',toks:=k}):Ny (model Z.prog Z.w) A (call (.builtin "all") [v]) Q E s:=by
 obtain ⟨a,items,rfl,hl,ri,_,_,_⟩:=q.lst
 obtain ⟨a1,a2⟩:=zS ri e
 have hsz:(s.heap.push {cls:= .type "list_iterator",data:= .fields #[.ref a,.int 0 0]}).get? s.heap.objs.size=_:=N1 _ rfl
 have hne:a≠s.heap.objs.size:=fun e=>by obtain ⟨o,ho,_⟩:=hl;rw [e,ee] at ho;cases ho
 refine call_all_walk (Sc hl ⟨_,_,_,_,_,_,oP items.toList,rfl,Walks.list (A:=A.in1) hh _ a hne items,⟨⟨_,hsz,rfl,rfl⟩,hl.push _⟩,fun i v s' Q' E' hv hq=> ?_,fun h' tk hk=> ?_⟩)
 ·obtain ⟨c,rfl⟩:=a1 i v (by rw [On];exact hv)
  refine Pv ?_
  rwa [show oP items.toList i=c by simp only [oP,On,hv]] at hq
 ·rw [←OH,a2]
  exact h h' tk fun b o e=>hk b o (fun m=>by cases NU.mp m;rw [ee] at e;cases e) (NM _ e)
theorem u8 {b:Bf} (L:iE D s.heap) (hb:∀d,s.heap.objs.size≤d→(d==QN)=false) (hh:A.handled=none) (r:gA Z D s.heap vs us) (e:vN b us=some u)
  (h:∀v h' k,bM s.heap h'→b8 Z D h' v u→Q v {s with heap:=h',toks:=k}):Ny (model Z.prog Z.w) A (call (Lk b) vs) Q E s:=by
 have g0:bM s.heap s.heap:=fun _ _ e=>e
 cases b with
 |len=>exact r.one_elim e fun v x h1 q e=>h1▸zW q e fun i t k e=>h _ _ k g0 (e▸ .int _ _)
 |list_=>exact r.one_elim e fun v x h1 q e=>h1▸wk L hh q e h
 |tuple_=>
  refine r.one_elim e fun v x h1 q e=>am e fun ys e1 e=> ?_
  rw [h1];cases e
  cases x<;>first|cases e1;done|skip
  ·cases Ng e1
   obtain ⟨a,items,rfl,hl,_⟩:=q.tup
   refine call_tuple_tup hl (h _ _ s.toks g0 ?_)
   rcases q with q|⟨_,_,c⟩
   ·exact q
   ·exact c.elim
  ·cases Ng e1
   obtain ⟨a,items,rfl,hl,ri,_,len,le⟩:=q.lst
   exact call_tuple_list (hsz:=by rw [len];exact le) hl fun h' hk=>h _ _ s.toks (fun b o e=>aG _ _ b o (hk b o e)) (mX (L.grows hk) (ri.grows hk) le)
 |dict_=>exact r.one_elim e fun v x h1 q e=>af e fun ys e1 e=>h1▸wc L hb hh (f7 e1▸q) e h
 |str_=>exact r.one_elim e fun v x h1 q e=>af e fun i e1 e=>h1▸ze (cX e1▸q) e fun x t k ok e=>h _ _ k g0 (e▸ .str _ _ ok)
 |int_=>exact r.one_elim e fun v x h1 q e=>am e fun i e1 e=>let ⟨t,h2⟩:=Rd.int (cX e1▸q);h1▸h2▸call_int_int (h _ _ s.toks g0 (e▸ .int _ _))
 |all_=>exact r.one_elim e fun v x h1 q e=>af e fun ys e1 e=>am e fun b e2 e=>h1▸z5 hh (f7 e1▸q) e2 fun h' k g=>h _ _ k g (e▸ .bool _)
 |min_=>
  refine r.two_elim e fun v v' x x' h1 q q' e=>eA q q' e fun i j t t' r h2 h3 e1 e=> ?_
  rw [h1,h2,h3]
  refine min_two_ints hh fun h' tk hk=>h _ _ _ hk (e▸Ng e1▸?_)
  split<;>exact .int _ _
 |max_=>
  refine r.two_elim e fun v v' x x' h1 q q' e=>eA q q' e fun i j t t' r h2 h3 e1 e=> ?_
  rw [h1,h2,h3]
  refine max_two_ints hh fun h' tk hk=>h _ _ _ hk (e▸Ng e1▸?_)
  split<;>exact .int _ _
end
end
section
open PySem PySem.W PyProof.Rows
set_option tactic.hygienic false
noncomputable def mu (x:Sg) (sep:Nh Sg) (r:List Sg):Prop:=(r.all eV=true∧r.length≤16777216)∧match sep with
 |none=>(Q6 (bF x) ((bF x).length+1)==[(0,(bF x).length)])=false∧PySem.wordsOf (bF x)=r.map bF∧(bF x).length≤PM∧(Q6 (bF x) ((bF x).length+1)).length≤PM
 |some y=>(decide ((bF x).length <(bF y).length)||decide (Qz (bF x) <Qz (bF y)))=false∧((bF y).length==0)=false∧
   (QR (bF x) (bF y) 0 (bF x).length ((bF x).length+1)).isEmpty=false∧
   So (bF x) (QR (bF x) (bF y) 0 (bF x).length ((bF x).length+1)) (bF y).length=r.map bF∧(bF x).length≤PM∧r.length≤PM
noncomputable def I7:Mf→Str
 | .startswith=>NB "startswith"| .split=>NB "split"| .append=>NB "append"| .pop=>NB "pop"| .index=>NB "index"| .get=>NB "get"
noncomputable def ua:Mf→Q3
 | .startswith=>"str.startswith"| .split=>"str.split"| .append=>"list.append"| .pop=>"list.pop"| .index=>"list.index"| .get=>"dict.get"
section
variable {Z:Wd} {D:Addr→Prop} {A:N4} {E:Nk→Nn→Prop} {s:Nn} {v:Nk} {vs:List Nk} {w u:V} {us:List V} {Q:Nk→Nn→Prop}
theorem uX {h:Heap}:∀(k:Nat) (r:List Sg),r.all eV=true→ak Z D h (strsFrom k (r.map bF)) (r.map .str)
 |_,[],_=> .nil
 |k,x::r,ok=> .cons (.str x k (Np.mp ok).1) (uX (k+1) r (Np.mp ok).2)
theorem zY (x y:Sg):VI (bF x) (bF y)=y.isPrefixOf x:=by
 unfold VI
 rw [StrLaws.subAt_eq,gK,gK]
 show (decide (0+y.length≤x.length)&&(((x.drop 0).take y.length)==y))=_
 rw [Q7,Om]
 by_cases h:y<+:x
 ·rw [RU.mpr h]
  have h1:=h.length_le
  have h2:=SG.mp h
  rw [Nw h1,←h2];simp
 ·have:y.isPrefixOf x=false:=by
   cases e:y.isPrefixOf x with
   |false=>rfl
   |true=>exact absurd (RU.mp e) h
  rw [this]
  cases e:(List.take y.length x==y) with
  |false=>simp
  |true=>exact absurd (SG.mpr (Nv e).symm) h
theorem mj:∀{us:List V} {x:V} {k:Nat},tj x us=some k→us[k]? =some x∧∀(j:Nat) (y:V),j <k→us[j]? =some y→y≠x
 |[],_,_,e=>nomatch e
 |y::ys,x,k,e=>by
  by_cases h:y=x
  ·cases Ng ((NG h).symm.trans e)
   exact ⟨Nt some h,fun j _ hj=>absurd hj (PI j)⟩
  ·obtain ⟨m,e1,rfl⟩:=map_some ((NV h).symm.trans e)
   obtain ⟨a,b⟩:=mj e1
   refine ⟨a,fun j z hj hz=> ?_⟩
   cases j with
   |zero=>exact Ng hz▸h
   |succ j=>exact b j z (OK hj) hz
noncomputable def KB (m:Mf) (w:V):Prop:=match m with
 | .startswith=>∃x,w= .str x
 | .split=>∃x,w= .str x
 | .append=>∃x,w= .lst x
 | .pop=>∃x,w= .lst x
 | .index=>∃x,w= .lst x
 | .get=>∃x y,w= .dct x y
theorem wl {m:Mf} {pl:Sem Bool} {R:Nk×List Nk→Nn→Prop} (r:Rd Z D s.heap v w) (k:KB m w) (h:R (.builtin (ua m),[v]) s):Ny (model Z.prog Z.w) A (getMethod v (I7 m) pl) R E s:=by
 have ls:∀x,w= .lst x→s.TypeIs v "list"∧∀b,v= .ref b→∃o,s.heap.get? b=some o∧o.dict=none:=fun x e=>by
  subst e
  obtain ⟨a,items,rfl,hl,ri,d,_,_⟩:=r.lst
  exact ⟨hl.typeIs,fun b e=>by cases e;exact d⟩
 cases m with
 |startswith=>obtain ⟨x,rfl⟩:=k;obtain ⟨t,rfl⟩:=r.str;dsimp only [ua] at h;show Ny _ _ (getMethod _ (NB "startswith") pl) _ _ _;with_reducible exact GM.startswith h
 |split=>obtain ⟨x,rfl⟩:=k;obtain ⟨t,rfl⟩:=r.str;dsimp only [ua] at h;show Ny _ _ (getMethod _ (NB "split") pl) _ _ _;with_reducible exact GM.split h
 |append=>obtain ⟨x,e⟩:=k;obtain ⟨h1,h2⟩:=ls x e;dsimp only [ua] at h;show Ny _ _ (getMethod _ (NB "append") pl) _ _ _;with_reducible exact Q8 h1 QS PySem.F.slot_list_append PySem.F.type_list_append h2 h
 |pop=>obtain ⟨x,e⟩:=k;obtain ⟨h1,h2⟩:=ls x e;dsimp only [ua] at h;show Ny _ _ (getMethod _ (NB "pop") pl) _ _ _;with_reducible exact Q8 h1 QS PySem.F.slot_list_pop PySem.F.type_list_pop h2 h
 |index=>obtain ⟨x,e⟩:=k;obtain ⟨h1,h2⟩:=ls x e;dsimp only [ua] at h;show Ny _ _ (getMethod _ (NB "index") pl) _ _ _;with_reducible exact Q8 h1 QS SH PySem.F.type_list_index h2 h
 |get=>
  refine Nf fun nG=> ?_
  obtain ⟨x,y,rfl⟩:=k
  obtain ⟨a,kvs,rfl,sm,hd,_⟩:=r.dct
  refine nG ?_
  dsimp only [ua] at h
  show Ny _ _ (getMethod _ (NB "get") pl) _ _ _
  with_reducible exact Q8 hd.typeIs PySem.F.plainAttrs_dict Tm PySem.F.type_dict_get hd.mapOf.noDict h
theorem sK {m:Mf} (e:G2 Z.P m w us=some u):KB m w:=by
 cases m with
 |startswith=>exact af e fun x e1 _=>⟨x,dU e1⟩
 |split=>exact af e fun x e1 _=>⟨x,dU e1⟩
 |append=>cases e
 |pop=>cases e
 |index=>exact af e fun x e1 _=>⟨x,f7 e1⟩
 |get=>cases w<;>first|cases e;done|exact ⟨_,_,rfl⟩
theorem tV {x:Sg} (r:Rd Z D s.heap v (.str x)) (ra:ak Z D s.heap vs us) (e:((one us).bind fun t=>t.str?.map fun t=>V.bool (t.isPrefixOf x))=some u) (h:∀b,.bool b=u→Q (.bool b) s):Ny (model Z.prog Z.w) A (call (.builtin "str.startswith") (v::vs)) Q E s:=by
 obtain ⟨t,rfl⟩:=r.str
 refine ra.one_elim e fun b y h1 rb e=>am e fun z e1 e=> ?_
 obtain ⟨t',h2⟩:=Rd.str (dU e1▸rb.rd)
 rw [h1,h2]
 exact SC.startswith (by rw [zY];exact h _ e)
theorem rD {k:Nat} {l:List Sg} (L:iE D s.heap) (ok:l.all eV=true∧l.length≤16777216) (h:∀v h' k,bM s.heap h'→b8 Z D h' v (.lst (l.map .str))→Q v {s with heap:=h',toks:=k}) {n m:Nat}:
  Q (.ref s.heap.objs.size) {s with heap:=s.heap.push {cls:= .type "list",data:= .seq (strsFrom k (l.map bF)).toArray n},toks:=m}:=
 h _ _ _ (aG _ _) (mL L (by simpa using uX k l ok.1) (by rw [Nl];exact ok.2))
theorem ud {x:Sg} (hsp:∀x sep r,Z.P.splits x sep=some r→mu x sep r) (L:iE D s.heap) (r:Rd Z D s.heap v (.str x)) (ra:ak Z D s.heap vs us) (e:G2 Z.P .split (.str x) us=some u)
  (h:∀v h' k,bM s.heap h'→b8 Z D h' v u→Q v {s with heap:=h',toks:=k}):Ny (model Z.prog Z.w) A (call (.builtin "str.split") (v::vs)) Q E s:=by
 obtain ⟨t,rfl⟩:=r.str
 cases us with
 |nil=>
  cases ra
  refine am e fun l e1 e=> ?_
  refine Nf fun nG=> ?_
  cases e
  obtain ⟨ok,h1,h2,h3,h4⟩:=hsp _ _ _ e1
  refine nG ?_
  refine Un S6 (VJ _ _ _) SI (PySem.F.args_str_split_1 _) (meets_str_split_space (bF x) t h3 h4) ?_
  rw [h1]
  simp only [Ql,UB]
  rw [h2]
  exact rD L ok h
 |cons y ys=>
  refine ra.one_elim (us:=y::ys) e fun b y h1 rb e=>af e fun z e1 e=>am e fun l e2 e=> ?_
  refine Nf fun nG=> ?_
  cases e
  obtain ⟨t',h2⟩:=Rd.str (dU e1▸rb.rd)
  obtain ⟨ok,h3,h4,h5,h6,h7,h8⟩:=hsp _ _ _ e2
  refine nG ?_
  rw [h1,h2]
  refine Un S6 (VJ _ _ _) SI (PySem.F.args_str_split_2 _ _) (meets_str_split_sep (bF x) (bF z) t t' h3 h4 h5 h7 (by rw [h6,Nl];exact h8)) ?_
  rw [h6]
  exact rD L ok h
theorem uh:∀{us:List V} {j:Nat} {y:V},V.dats us=true→us[j]? =some y→y.dat=true
 |[],_,_,_,h=>nomatch h
 |z::zs,0,_,hd,h=>Ng h▸(Np.mp hd).1
 |z::zs,j+1,_,hd,h=>uh (us:=zs) (Np.mp hd).2 h
theorem uO {xs:List V} {x:Sg} {k:Nat} {b:Nk} (hu:A.units+100 <Sv) (r:Rd Z D s.heap v (.lst xs)) (rb:b8 Z D s.heap b (.str x)) (c:gW (.str x) xs=true) (ef:tj (.str x) xs=some k) (h:Q (.int k s.toks) {s with toks:=s.toks+1}):
  Ny (model Z.prog Z.w) A (call (.builtin "list.index") [v,b]) Q E s:=by
 have ok:=rb.rd.strOk
 have lay:P6 (V.pys xs)=true:=r.rep.lst_lay (Np.mp (Np.mp c).1).2
 have dts:=(Np.mp (Np.mp c).1).2
 refine Nf fun nG=> ?_
 obtain ⟨a,items,rfl,⟨⟨cls,dd,data,slt⟩,ho,hc,n,hd⟩,ri,_,len,le⟩:=r.lst
 obtain ⟨t,rfl⟩:=rb.rd.str
 obtain ⟨f1,f2⟩:=mj ef
 have hk:k <items.size:=by rw [len];exact (Nq.mp f1).1
 obtain ⟨as,q⟩:=ri.reads dts
 obtain ⟨bs,q'⟩:=rb.reads (.inl rfl)
 cases hc;cases hd
 refine nG ?_
 have eqs:∀(j:Nat) (hj:j <items.size) (y:V),xs[j]? =some y→Qs (Up s.heap items[j]) (V.str x).py=decide (y= .str x):=fun j hj y hx=>by
  refine Nf fun nG=> ?_
  obtain ⟨vj,hvj,rj⟩:=ri.get hx
  have d:=uh dts hx
  obtain ⟨cs,rc⟩:=rj.reads (.inl d)
  refine nG ?_
  rw [show items[j]=vj from Ng (by rw [←hvj,On,Sa hj]),PySem.SeqAt.readOf_eq (rj.lay d) rc,vU _ _ d rfl]
 have room:A.units+1+min (QJ (V.pys xs)) (V.str x).py.depth <Sv:=by
  have h2:=Ni (Rn (QJ (V.pys xs)) (V.str x).py.depth) (v8 (.str x))
  have h3:(V.str x).dep=0:=rfl
  clear eqs q q' ri f2
  omega
 refine Un SH ⟨_,ho,rfl⟩ PySem.F.entry_list_index (PySem.F.args_list_index_2 _ _)
  (V1 a items n dd slt (.str (bF x) t) (fun y=>Qs (Up s.heap y) (V.str x).py) k (by omega) (by omega) ?_ ?_)
  ⟨ho,PySem.SeqAt.items_eqAt q q' lay (rb.lay rfl) room,h⟩
 ·exact (eqs k hk _ f1).trans (Nw rfl)
 ·intro m hm hmk
  obtain ⟨y,hy⟩:∃y,xs[m]? =some y:=⟨_,Nr (by rw [←len];exact hm)⟩
  exact (eqs m hm y hy).trans (NR (f2 m y hmk hy))
theorem yQ {ks:List Sg} {ws:List V} (r:Rd Z D s.heap v (.dct ks ws)) (ra:ak Z D s.heap vs us) (e:G2 Z.P .get (.dct ks ws) us=some u) (h:∀v k,b8 Z D s.heap v u→Q v {s with toks:=k}):
  Ny (model Z.prog Z.w) A (call (.builtin "dict.get") (v::vs)) Q E s:=by
 refine ra.two_elim e fun b y z d h1 rb ry e=>am e fun x e1 e=> ?_
 obtain ⟨a,kvs,rfl,sm,hd,ek,ri,_⟩:=r.dct
 obtain ⟨t,h2⟩:=Rd.str (dU e1▸rb.rd)
 rw [h1,h2]
 refine call_meetsIn Tm hd.typeIs PySem.F.entry_dict_get (PySem.F.args_dict_get_3 _ _ _) (meets_dict_get_default (Op Z.prog Z.w) a (k:=bF x) (SV _ _ _ _) sm y) ⟨Rp kvs,hd.mapOf,?_⟩
 rcases sj (x:=x) ek ri with ⟨v,u',q1,q2,q3⟩|⟨q1,q2⟩
 ·rw [q2] at e;rw [q1];exact h _ _ (e▸q3)
 ·rw [q2] at e;rw [q1];exact h _ _ (e▸ry)
theorem C7 {m:Mf} (hsp:∀x sep r,Z.P.splits x sep=some r→mu x sep r) (L:iE D s.heap) (hu:A.units+100 <Sv) (r:Rd Z D s.heap v w) (ra:ak Z D s.heap vs us) (e:G2 Z.P m w us=some u)
  (h:∀v h' k,bM s.heap h'→b8 Z D h' v u→Q v {s with heap:=h',toks:=k}):Ny (model Z.prog Z.w) A (call (.builtin (ua m)) (v::vs)) Q E s:=by
 have g0:bM s.heap s.heap:=fun _ _ e=>e
 cases m with
 |startswith=>exact af e fun x e1 e=>tV (dU e1▸r) ra e fun b e=>h _ _ s.toks g0 (e▸ .bool _)
 |split=>obtain ⟨x,rfl⟩:=sK e;exact ud hsp L r ra e h
 |append=>cases e
 |pop=>cases e
 |index=>
  refine af e fun xs e1 e=>ra.one_elim e fun b y h1 rb e=>af e fun x e2 e=> ?_
  refine aL e fun c e=> ?_
  refine am e fun k e3 e=> ?_
  rw [h1]
  exact uO hu (f7 e1▸r) (dU e2▸rb) c e3 (h _ _ _ g0 (e▸ .int _ _))
 |get=>obtain ⟨x,y,rfl⟩:=sK e;exact yQ r ra e fun v k=>h v _ k g0
theorem qI {l:Addr} {items:P5 Nk} {k:Int} {t:Tok} {x:Nk} {R:Unit→Nn→Prop} (hl:s.heap.PlainList l items) (h0:0≤k) (hfit:k <2^63) (hn:k <items.size)
  (hR:∀h',h'.PlainList l (items.setIfInBounds k.toNat x)→Pe l s.heap h'→R () {s with heap:=h'}):
  Ny (model Z.prog Z.w) A (setItem (.ref l) (.int k t) x) R E s:=by
 obtain ⟨n,ho⟩:=id hl
 unfold setItem
 try with_reducible refine Oj ?_
 refine No (wpAny_sequenceKey hl.isList.typeIs (by decide) ?_)
 refine No (wpAny_callSpecial?_slot (name:=NB "__setitem__") hl.isList.typeIs UG
  (wpAny_call_entry UG hl.isList.typeIs entry_list_setitem ?_ (args_list_setitem _ _ _)))
 show Ny _ _ (VA (.int k t)>>=_) _ _ s
 refine No (wpAny_listSubscript_int (fitsIndex_of h0 hfit) ?_)
 clear hfit
 obtain ⟨j,rfl⟩:=Qc h0
 have hj:j <items.size:=by omega
 have hx':items[j]? =some items[j]:=Sa hj
 show Ny _ _ ((seqItemAt l j>>=fun r=>pure (r.map (j,·)))>>=_) _ _ s
 refine No (No (wpAny_seqItemAt ho rfl (NE ?_)))
 rw [hx']
 show Ny _ _ (setSeqItemAt l j x>>=_) _ _ s
 have eq:VK (·.setIfInBounds j x) {cls:= .type "list",data:= .seq items n}={cls:= .type "list",data:= .seq (items.setIfInBounds j x) n}:=by
  simp [VK]
 have hfin:(s.heap.update l (VK (·.setIfInBounds j x))).PlainList l (items.setIfInBounds j x):=⟨n,by rw [Qp _ ho (by rw [eq];rfl),eq]⟩
 exact No (wpAny_setSeqItemAt ho rfl (NE ⟨.none,rfl,NE (hR _ hfin (TU ..))⟩))
end
structure Ctx where
 sc:Po
 vars:eF
noncomputable def tH:T5→Nh V
 | .none=>some .none
 | .bool b=>some (.bool b)
 | .int i=>some (.int i)
 | .str s=>if eV s.cps.toList then some (.str s.cps.toList) else none
 |_=>none
noncomputable def oW (e:Expr):Bool:=e.ctorIdx !=22
noncomputable def eM (e:Expr):Bool:=e.ctorIdx !=8&&(e.ctorIdx !=9&&e.ctorIdx !=10)
noncomputable def fh (e:Expr):Bool:=e.ctorIdx !=7
noncomputable def jn (e:Expr):Bool:=e.ctorIdx !=26
noncomputable def BS (c:Ctx) (x:Str) (i:Nat):Bool:=c.vars.contains (x,i)&& !(x==("__debug__":Str))&& !(x==("__classdict__":Str))
noncomputable def oG (sc:Po) (x:Str):Bool:=sc.names.lookup x==some .globalImplicit&& !(x==("__debug__":Str))
noncomputable def eW (c:Ctx) (x:Str):Bool:=c.sc.names.lookup x==some .globalImplicit&& !(x==("__debug__":Str))
noncomputable def cn:iG→Str
 | .line=>NB "Line"| .ins=>NB "Instruction"| .reg=>NB "Reg"| .imm=>NB "Imm"| .rel=>NB "Rel"| .register=>NB "Register"
noncomputable def bn:Bf→Str
 | .len=>NB "len"| .list_=>NB "list"| .tuple_=>NB "tuple"| .dict_=>NB "dict"| .str_=>NB "str"| .int_=>NB "int"
 | .all_=>NB "all"| .min_=>NB "min"| .max_=>NB "max"
noncomputable def mn:EE→Str
 | .told=>NB "told"| .symbol=>NB "symbol"
noncomputable def HZ (e:T5):Nh Str:=if h:e.ctorIdx=5 then some (Tw (motive:=fun _=>Str) e h fun a=>a) else none
theorem uJ {e:T5} {q:Str} (h:HZ e=some q):e= .str q:=
 let ⟨k,h⟩:=aM h
 Tw (motive:=fun e=>∀k:e.ctorIdx=5,Tw (motive:=fun _=>Str) e k (fun a=>a)=q→e= .str q) e k (fun _ _ h=>Nt Const.str h) k h
noncomputable def mH (e:Expr):Nh (T5):=if h:e.ctorIdx=19 then some (RV (motive_1:=fun _=>T5) e h fun k _ _=>k) else none
theorem gT {e:Expr} {q:T5} (h:mH e=some q):∃n p,e= .Constant q n p:=
 let ⟨k,h⟩:=aM h
 RV (motive_1:=fun e=>∀k:e.ctorIdx=19,RV (motive_1:=fun _=>T5) e k (fun k _ _=>k)=q→∃n p,e= .Constant q n p) e k (fun k n p _ h=>⟨n,p,Nt (fun q:T5=>Expr.Constant q n p) (h:k=q)⟩) k h
noncomputable def Iq (e:Expr):Nh (UnaryOp×Expr):=if h:e.ctorIdx=3 then some (Sd (motive_1:=fun _=>UnaryOp×Expr) e h fun o e _=>(o,e)) else none
theorem vM {e:Expr} {q:UnaryOp×Expr} (h:Iq e=some q):∃p,e= .UnaryOp q.1 q.2 p:=
 let ⟨k,h⟩:=aM h
 Sd (motive_1:=fun e=>∀k:e.ctorIdx=3,Sd (motive_1:=fun _=>UnaryOp×Expr) e k (fun o e _=>(o,e))=q→∃p,e= .UnaryOp q.1 q.2 p) e k (fun o e p _ h=>⟨p,Nt (fun q:UnaryOp×Expr=>Expr.UnaryOp q.1 q.2 p) (h:(o,e)=q)⟩) k h
noncomputable def cz (e:Expr):Nh (Str):=if h:e.ctorIdx=23 then some (RW (motive_1:=fun _=>Str) e h fun x _=>x) else none
theorem aY {e:Expr} {q:Str} (h:cz e=some q):∃p,e= .Name q p:=
 let ⟨k,h⟩:=aM h
 RW (motive_1:=fun e=>∀k:e.ctorIdx=23,RW (motive_1:=fun _=>Str) e k (fun x _=>x)=q→∃p,e= .Name q p) e k (fun x p _ h=>⟨p,Nt (fun q:Str=>Expr.Name q p) (h:x=q)⟩) k h
noncomputable def ul (e:Expr):Nh (List Expr):=if h:e.ctorIdx=25 then some (RE (motive_1:=fun _=>List Expr) e h fun es _ _=>es) else none
theorem kz {e:Expr} {q:List Expr} (h:ul e=some q):∃n p,e= .Tuple q n p:=
 let ⟨k,h⟩:=aM h
 RE (motive_1:=fun e=>∀k:e.ctorIdx=25,RE (motive_1:=fun _=>List Expr) e k (fun es _ _=>es)=q→∃n p,e= .Tuple q n p) e k (fun es n p _ h=>⟨n,p,Nt (fun q:List Expr=>Expr.Tuple q n p) (h:es=q)⟩) k h
noncomputable def GN (e:Expr):Nh (List Expr):=if h:e.ctorIdx=24 then some (Tx (motive_1:=fun _=>List Expr) e h fun es _=>es) else none
theorem zO {e:Expr} {q:List Expr} (h:GN e=some q):∃p,e= .List q p:=
 let ⟨k,h⟩:=aM h
 Tx (motive_1:=fun e=>∀k:e.ctorIdx=24,Tx (motive_1:=fun _=>List Expr) e k (fun es _=>es)=q→∃p,e= .List q p) e k (fun es p _ h=>⟨p,Nt (fun q:List Expr=>Expr.List q p) (h:es=q)⟩) k h
noncomputable def Gb (e:Expr):Nh (List (Nh Expr)×List Expr):=if h:e.ctorIdx=6 then some (Tz (motive_1:=fun _=>List (Nh Expr)×List Expr) e h fun ks vs _=>(ks,vs)) else none
theorem yK {e:Expr} {q:List (Nh Expr)×List Expr} (h:Gb e=some q):∃p,e= .Dict q.1 q.2 p:=
 let ⟨k,h⟩:=aM h
 Tz (motive_1:=fun e=>∀k:e.ctorIdx=6,Tz (motive_1:=fun _=>List (Nh Expr)×List Expr) e k (fun ks vs _=>(ks,vs))=q→∃p,e= .Dict q.1 q.2 p) e k (fun ks vs p _ h=>⟨p,Nt (fun q:List (Nh Expr)×List Expr=>Expr.Dict q.1 q.2 p) (h:(ks,vs)=q)⟩) k h
noncomputable def sS (e:Expr):Nh (Expr×Str×Pos):=if h:e.ctorIdx=20 then some (RI (motive_1:=fun _=>Expr×Str×Pos) e h fun e a p=>(e,a,p)) else none
theorem lL {e:Expr} {q:Expr×Str×Pos} (h:sS e=some q):e= .Attribute q.1 q.2.1 q.2.2:=
 let ⟨k,h⟩:=aM h
 RI (motive_1:=fun e=>∀k:e.ctorIdx=20,RI (motive_1:=fun _=>Expr×Str×Pos) e k (fun e a p=>(e,a,p))=q→e= .Attribute q.1 q.2.1 q.2.2) e k (fun e a p _ h=>Nt (fun q:Expr×Str×Pos=>Expr.Attribute q.1 q.2.1 q.2.2) (h:(e,a,p)=q)) k h
noncomputable def uA (e:Expr):Nh (Expr×Expr):=if h:e.ctorIdx=21 then some (RJ (motive_1:=fun _=>Expr×Expr) e h fun e i _=>(e,i)) else none
theorem ku {e:Expr} {q:Expr×Expr} (h:uA e=some q):∃p,e= .Subscript q.1 q.2 p:=
 let ⟨k,h⟩:=aM h
 RJ (motive_1:=fun e=>∀k:e.ctorIdx=21,RJ (motive_1:=fun _=>Expr×Expr) e k (fun e i _=>(e,i))=q→∃p,e= .Subscript q.1 q.2 p) e k (fun e i p _ h=>⟨p,Nt (fun q:Expr×Expr=>Expr.Subscript q.1 q.2 p) (h:(e,i)=q)⟩) k h
noncomputable def AS (e:Expr):Nh (Nh Expr×Nh Expr×Nh Expr):=if h:e.ctorIdx=26 then some (Te (motive_1:=fun _=>Nh Expr×Nh Expr×Nh Expr) e h fun l u st _=>(l,u,st)) else none
theorem rL {e:Expr} {q:Nh Expr×Nh Expr×Nh Expr} (h:AS e=some q):∃p,e= .Slice q.1 q.2.1 q.2.2 p:=
 let ⟨k,h⟩:=aM h
 Te (motive_1:=fun e=>∀k:e.ctorIdx=26,Te (motive_1:=fun _=>Nh Expr×Nh Expr×Nh Expr) e k (fun l u st _=>(l,u,st))=q→∃p,e= .Slice q.1 q.2.1 q.2.2 p) e k (fun l u st p _ h=>⟨p,Nt (fun q:Nh Expr×Nh Expr×Nh Expr=>Expr.Slice q.1 q.2.1 q.2.2 p) (h:(l,u,st)=q)⟩) k h
noncomputable def GW (e:Expr):Nh (Expr×Tv×Expr):=if h:e.ctorIdx=2 then some (Tf (motive_1:=fun _=>Expr×Tv×Expr) e h fun l o r _=>(l,o,r)) else none
theorem zu {e:Expr} {q:Expr×Tv×Expr} (h:GW e=some q):∃p,e= .BinOp q.1 q.2.1 q.2.2 p:=
 let ⟨k,h⟩:=aM h
 Tf (motive_1:=fun e=>∀k:e.ctorIdx=2,Tf (motive_1:=fun _=>Expr×Tv×Expr) e k (fun l o r _=>(l,o,r))=q→∃p,e= .BinOp q.1 q.2.1 q.2.2 p) e k (fun l o r p _ h=>⟨p,Nt (fun q:Expr×Tv×Expr=>Expr.BinOp q.1 q.2.1 q.2.2 p) (h:(l,o,r)=q)⟩) k h
noncomputable def Ck (e:Expr):Nh (Expr×List CmpOp×List Expr):=if h:e.ctorIdx=15 then some (Se (motive_1:=fun _=>Expr×List CmpOp×List Expr) e h fun l o r _=>(l,o,r)) else none
theorem qZ {e:Expr} {q:Expr×List CmpOp×List Expr} (h:Ck e=some q):∃p,e= .Compare q.1 q.2.1 q.2.2 p:=
 let ⟨k,h⟩:=aM h
 Se (motive_1:=fun e=>∀k:e.ctorIdx=15,Se (motive_1:=fun _=>Expr×List CmpOp×List Expr) e k (fun l o r _=>(l,o,r))=q→∃p,e= .Compare q.1 q.2.1 q.2.2 p) e k (fun l o r p _ h=>⟨p,Nt (fun q:Expr×List CmpOp×List Expr=>Expr.Compare q.1 q.2.1 q.2.2 p) (h:(l,o,r)=q)⟩) k h
noncomputable def sH (e:Expr):Nh (BoolOp×List Expr):=if h:e.ctorIdx=0 then some (SJ (motive_1:=fun _=>BoolOp×List Expr) e h fun o es _=>(o,es)) else none
theorem wj {e:Expr} {q:BoolOp×List Expr} (h:sH e=some q):∃p,e= .BoolOp q.1 q.2 p:=
 let ⟨k,h⟩:=aM h
 SJ (motive_1:=fun e=>∀k:e.ctorIdx=0,SJ (motive_1:=fun _=>BoolOp×List Expr) e k (fun o es _=>(o,es))=q→∃p,e= .BoolOp q.1 q.2 p) e k (fun o es p _ h=>⟨p,Nt (fun q:BoolOp×List Expr=>Expr.BoolOp q.1 q.2 p) (h:(o,es)=q)⟩) k h
noncomputable def KT (e:Expr):Nh (Expr×Expr×Expr):=if h:e.ctorIdx=5 then some (Th (motive_1:=fun _=>Expr×Expr×Expr) e h fun t b o _=>(t,b,o)) else none
theorem BH {e:Expr} {q:Expr×Expr×Expr} (h:KT e=some q):∃p,e= .IfExp q.1 q.2.1 q.2.2 p:=
 let ⟨k,h⟩:=aM h
 Th (motive_1:=fun e=>∀k:e.ctorIdx=5,Th (motive_1:=fun _=>Expr×Expr×Expr) e k (fun t b o _=>(t,b,o))=q→∃p,e= .IfExp q.1 q.2.1 q.2.2 p) e k (fun t b o p _ h=>⟨p,Nt (fun q:Expr×Expr×Expr=>Expr.IfExp q.1 q.2.1 q.2.2 p) (h:(t,b,o)=q)⟩) k h
noncomputable def wZ (e:Expr):Nh (Expr×List Expr×List TP×Pos):=if h:e.ctorIdx=16 then some (TA (motive_1:=fun _=>Expr×List Expr×List TP×Pos) e h fun f a k p=>(f,a,k,p)) else none
theorem pP {e:Expr} {q:Expr×List Expr×List TP×Pos} (h:wZ e=some q):e= .Call q.1 q.2.1 q.2.2.1 q.2.2.2:=
 let ⟨k,h⟩:=aM h
 TA (motive_1:=fun e=>∀k:e.ctorIdx=16,TA (motive_1:=fun _=>Expr×List Expr×List TP×Pos) e k (fun f a k p=>(f,a,k,p))=q→e= .Call q.1 q.2.1 q.2.2.1 q.2.2.2) e k (fun f a k p _ h=>Nt (fun q:Expr×List Expr×List TP×Pos=>Expr.Call q.1 q.2.1 q.2.2.1 q.2.2.2) (h:(f,a,k,p)=q)) k h
noncomputable def Dp (e:Expr):Nh (Expr×List N0×Po):=if h:e.ctorIdx=8 then some (RX (motive_1:=fun _=>Expr×List N0×Po) e h fun e g sc _=>(e,g,sc)) else none
theorem o8 {e:Expr} {q:Expr×List N0×Po} (h:Dp e=some q):∃p,e= .ListComp q.1 q.2.1 q.2.2 p:=
 let ⟨k,h⟩:=aM h
 RX (motive_1:=fun e=>∀k:e.ctorIdx=8,RX (motive_1:=fun _=>Expr×List N0×Po) e k (fun e g sc _=>(e,g,sc))=q→∃p,e= .ListComp q.1 q.2.1 q.2.2 p) e k (fun e g sc p _ h=>⟨p,Nt (fun q:Expr×List N0×Po=>Expr.ListComp q.1 q.2.1 q.2.2 p) (h:(e,g,sc)=q)⟩) k h
noncomputable def fT (e:Expr):Nh (Str×List Expr):=(wZ e).bind fun q=>if q.2.2.1.isEmpty then (cz q.1).map fun x=>(x,q.2.1) else none
noncomputable def o4 (e:Expr):Nh (Expr×Str×List Expr):=(wZ e).bind fun q=>if q.2.2.1.isEmpty then (sS q.1).bind fun a=>if a.2.2.endLine==q.2.2.2.line then some (a.1,a.2.1,q.2.1) else none else none
theorem aE {β:Type} {l:List β} (h:l.isEmpty=true):l=[]:=Rk.mp h
theorem cW {e:Expr} {q} (h:fT e=some q):∃np pos,e= .Call (.Name q.1 np) q.2 [] pos:=
 af h fun a h1 h2=>let ⟨h3,h4⟩:=bU (c:=a.2.2.1.isEmpty=true) h2;am h4 fun x h5 h6=>let ⟨np,h7⟩:=aY h5;⟨np,a.2.2.2,by rw [pP h1,h7,aE h3,←h6]⟩
theorem iQ {e:Expr} {q} (h:o4 e=some q):∃ap pos,e= .Call (.Attribute q.1 q.2.1 ap) q.2.2 [] pos∧(ap.endLine==pos.line)=true:=
 af h fun a h1 h2=>let ⟨h3,h4⟩:=bU (c:=a.2.2.1.isEmpty=true) h2;af h4 fun x h5 h6=>let ⟨h7,h8⟩:=bU (c:=(x.2.2.endLine==a.2.2.2.line)=true) h6;⟨x.2.2,a.2.2.2,by rw [pP h1,lL h5,aE h3,←Ng h8],h7⟩
noncomputable def dR (e:Expr):Bool:=e.ctorIdx !=16||(fT e).any fun q=>q.1 !=("super":Str)
noncomputable def jP {β:Type} (us:List β) (f:β→List β→Bool):Bool:=match us with
 |[]=>false
 |a::r=>f a r
theorem cV {β:Type} {us:List β} {f:β→List β→Bool} (h:jP us f=true):∃a r,us=a::r∧f a r=true:=by
 cases us with
 |nil=>cases h
 |cons a r=>exact ⟨a,r,rfl,h⟩
noncomputable def kJ {β:Type} (us:List β) (f:β→Bool):Bool:=jP us fun a r=>r.isEmpty&&f a
theorem ui {β:Type} {us:List β} {f:β→Bool} (h:kJ us f=true):∃a,us=[a]∧f a=true:=let ⟨a,r,h1,h2⟩:=cV h;let h3:=Np.mp h2;⟨a,by rw [h1,aE h3.1],h3.2⟩
theorem ib {β:Type} {us:List β} {f:β→List β→Bool} {P:Prop} (h:jP us f=true) (K:∀a r,us=a::r→f a r=true→P):P:=let ⟨a,r,h1,h2⟩:=cV h;K a r h1 h2
theorem hO {β:Type} {us:List β} {f:β→Bool} {P:Prop} (h:kJ us f=true) (K:∀a,us=[a]→f a=true→P):P:=let ⟨a,h1,h2⟩:=ui h;K a h1 h2
noncomputable def Cq {β:Type} (us:List β) (f:β→β→Bool):Bool:=jP us fun a r=>kJ r (f a)
theorem lZ {β:Type} {us:List β} {f:β→β→Bool} (h:Cq us f=true):∃a b,us=[a,b]∧f a b=true:=let ⟨a,r,h1,h2⟩:=cV h;let ⟨b,h3,h4⟩:=ui h2;⟨a,b,by rw [h1,h3],h4⟩
theorem ac {a b:Bool} (h:(a&&b)=true):a=true∧b=true:=Np.mp h
noncomputable def d8 (f:Expr→CE→Bool) (es:List Expr) (cs:List CE):Bool:=List.rec (motive:=fun _=>List CE→Bool) List.isEmpty (fun e _ ih cs=>jP cs fun c cs=>oW e&&(f e c&&ih cs)) es cs
noncomputable def wz (f:Expr→CE→Bool) (e:Nh Expr) (c:Nh CE):Bool:=match c with
 |none=>e.isNone
 |some c=>e.any fun e=>f e c
noncomputable def jq (scope sc:Po):Po:=
 {scope with names:=scope.names.map fun (n,k)=>if (k== .free&&sc.kind== .function&&sc.names.lookup n==some .cell) then (n,.cell) else (n,k)}
noncomputable def CG.tgt:CG→kN
 | .mk t _ _=>t
noncomputable def CG.it:CG→It
 | .mk _ it _=>it
noncomputable def CG.ifs:CG→List CE
 | .mk _ _ ifs=>ifs
noncomputable def oO (t:Expr) (t':kN):Nh eF:=match t' with
 | .one i=>(cz t).map fun x=>[(x,i)]
 | .two i j=>(ul t).bind fun ts=>two ts fun a b=>(cz a).bind fun x=>(cz b).map fun y=>[(x,i),(y,j)]
noncomputable def jZ (gs:List N0) (cs:List CG):Nh eF:=List.rec (motive:=fun _=>List CG→Nh eF) (fun cs=>if cs.isEmpty then some [] else none) (fun g _ ih cs=>yW cs fun c cs=>(oO g.target c.tgt).bind fun a=>(ih cs).map (a++ ·)) gs cs
noncomputable def ti (vars:eF):Bool:=vars.all fun a=>vars.all fun b=>decide (a.1=b.1)==decide (a.2=b.2)
noncomputable def kd (c:Ctx) (t:Expr) (t':kN) (loc:Bool):Bool:=(oO t t').any fun vs=>vs.all fun v=>c.vars.contains v&&(c.sc.names.lookup v.1==some .local||(!loc&&c.sc.names.lookup v.1==some .cell))
noncomputable def G9 (f:Expr→CE→Bool) (c:Ctx) (e:Expr) (it:It):Bool:=match it with
 | .seq ce=>fh e&&f e ce
 | .range cs=>(fT e).any fun q=>eW c q.1&&(q.1==NB "range"&&d8 f q.2 cs)
 | .enum ce=>(fT e).any fun q=>eW c q.1&&(q.1==NB "enumerate"&&kJ q.2 fun a=>oW a&&f a ce)
noncomputable def AQ (t:kN) (it:It):Bool:=match t with
 | .two _ _=>match it with
  | .enum _=>true
  |_=>false
 | .one _=>match it with
  | .enum _=>false
  |_=>true
noncomputable def Gz (f:Expr→CE→Bool) (ff:Expr→CE→Bool) (c c':Ctx) (g:N0) (cg:CG):Bool:=
 g.is_async==0&&(kd c' g.target cg.tgt true&&(AQ cg.tgt cg.it&&(fh g.iter&&(G9 f c g.iter cg.it&&d8 ff g.ifs cg.ifs))))
noncomputable def AO (f:Expr→CE→Bool) (c':Ctx) (gs:List N0) (cs:List CG):Bool:=List.rec (motive:=fun _=>List CG→Bool) List.isEmpty (fun g _ ih cs=>jP cs fun cg cs=>Gz f f c' c' g cg&&ih cs) gs cs
noncomputable def tW (f:Ctx→Expr→CE→Bool) (c c':Ctx) (gs:List N0) (cs:List CG):Bool:=jP gs fun g gs=>jP cs fun cg cs=>Gz (f c) (f c') c c' g cg&&AO (f c') c' gs cs
noncomputable def fS (c:Ctx) (scope:Po) (vs:eF):Ctx:={sc:=jq scope c.sc,vars:=vs++c.vars.filter fun v=>scope.names.lookup v.1==some .free}
noncomputable def tp (c:Ctx) (scope:Po):Bool:=scope.kind== .function&&scope.names.all (fun x=>x.2 != .cell)&&scope.names.all (fun x=>x.2 != .local||scope.names.lookup x.1==some .local)&&
 scope.names.all (fun x=>x.2 != .free||c.sc.names.lookup x.1==some .cell)
noncomputable def xY (e:Expr) (i:Int):Bool:=(Iq e).any fun q=>decide (q.1= .USub)&&(mH q.2).any fun k=>decide (k= .int i)
noncomputable def au (fnm:Nat→Nh Str):Nat→Ctx→Expr→CE→Bool
 |0,_,_,_=>false
 |n+1,c,e,ce=>match ce with
  | .cst u=>(mH e).any fun k=>decide (tH k=some u)
  | .neg i=>xY e i
  | .var i=>(cz e).any fun x=>BS c x i
  | .glob g=>(cz e).any fun x=>eW c x&&x==bF g
  | .tup cs=>(ul e).any fun es=>d8 (au fnm n c) es cs
  | .lst cs=>(GN e).any fun es=>d8 (au fnm n c) es cs
  | .dct0=>(Gb e).any fun q=>q.1.isEmpty&&q.2.isEmpty
  | .attr ce f=>(sS e).any fun q=>q.2.1==fs f&&(dR q.1&&au fnm n c q.1 ce)
  | .idx ce ci=>(uA e).any fun q=>jn q.2&&(au fnm n c q.1 ce&&au fnm n c q.2 ci)
  | .slc ce lo hi=>(uA e).any fun q=>au fnm n c q.1 ce&&(AS q.2).any fun r=>r.2.2.isNone&&(wz (au fnm n c) r.1 lo&&wz (au fnm n c) r.2.1 hi)
  | .rev ce=>(uA e).any fun q=>au fnm n c q.1 ce&&(AS q.2).any fun r=>r.1.isNone&&(r.2.1.isNone&&r.2.2.any fun e=>xY e 1)
  | .bin o a b=>(GW e).any fun q=>decide (q.2.1=E1 o)&&(au fnm n c q.1 a&&au fnm n c q.2.2 b)
  | .cmp a o b=>(Ck e).any fun q=>decide (q.2.1=[eD o])&&(au fnm n c q.1 a&&kJ q.2.2 fun r=>fh r&&au fnm n c r b)
  | .cmp2 a o b o' d=>(Ck e).any fun q=>decide (q.2.1=[eD o,eD o'])&&(au fnm n c q.1 a&&Cq q.2.2 fun r r'=>fh r&&(fh r'&&(au fnm n c r b&&au fnm n c r' d)))
  | .and cs=>(sH e).any fun q=>decide (q.1= .And)&&d8 (au fnm n c) q.2 cs
  | .or cs=>(sH e).any fun q=>decide (q.1= .Or)&&d8 (au fnm n c) q.2 cs
  | .not ce=>(Iq e).any fun q=>decide (q.1= .Not)&&au fnm n c q.2 ce
  | .ite x y z=>(KT e).any fun q=>au fnm n c q.1 x&&(au fnm n c q.2.1 y&&au fnm n c q.2.2 z)
  | .callF i cs=>(fT e).any fun q=>eW c q.1&&(fnm i==some q.1&&d8 (au fnm n c) q.2 cs)
  | .mk k cs=>(fT e).any fun q=>eW c q.1&&(q.1==cn k&&d8 (au fnm n c) q.2 cs)
  | .callB b cs=>(fT e).any fun q=>eW c q.1&&(q.1==bn b&&d8 (au fnm n c) q.2 cs)
  | .callM ce m=>(o4 e).any fun q=>q.2.1==mn m&&(dR q.1&&(q.2.2.isEmpty&&au fnm n c q.1 ce))
  | .callS m ce cs=>(o4 e).any fun q=>q.2.1==I7 m&&(dR q.1&&(decide (q.2.2.length <20)&&(au fnm n c q.1 ce&&d8 (au fnm n c) q.2.2 cs)))
  | .comp elt cgs=>(Dp e).any fun q=>(jZ q.2.1 cgs).any fun vs=>tp c q.2.2&&(ti (fS c q.2.2 vs).vars&&(tW (au fnm n) c (fS c q.2.2 vs) q.2.1 cgs&&au fnm n (fS c q.2.2 vs) q.1 elt))
  | .stuck=>eM e
structure Wd.Ok (Z:Wd) (p:N2) (loose:List Str) (mg mb:Str→Nh Nk):Prop where
 X:Z.K.In Z.base
 T:TopRead p loose mg mb Z.base
 splits:∀x sep r,Z.P.splits x sep=some r→mu x sep r
 sysM:QN <Z.base.objs.size
 fld:∀c f,f∈c.fields→plainGet Z.K (Z.ca c) (fs f)=true∧hasDictIn Z.K (Z.ca c)=true∧∃attr,findIn Z.K (.ref (Z.ca c)) (fs f)=some attr∧noGet Z.K attr=true
 meth:∀c m i,Z.P.meth c m=some i→plainGet Z.K (Z.ca c) (mn m)=true∧findIn Z.K (.ref (Z.ca c)) (mn m)=some (some (.ref (Z.fa i)))∧isFn Z.K (.ref (Z.fa i))=true∧keepIn Z.K (.ref (Z.fa i))=true
 noFld:∀c m f,f∈iG.fields c→fs f≠mn m
 glob:∀x s,Z.P.glob x=some s→∃t,eV s=true∧nsIn Z.K N7 (bF x)=some (some (.str (bF s) t))
 fn:∀i x,Z.fname i=some x→nsIn Z.K N7 x=some (some (.ref (Z.fa i)))∧keepIn Z.K (.ref (Z.fa i))=true
 cls:∀c,nsIn Z.K N7 (cn c)=some (some (.ref (Z.ca c)))∧keepIn Z.K (.ref (Z.ca c))=true
 bf:∀b,nsIn Z.K N7 (bn b)=some none∧bootBuiltins (bn b)=some (Lk b)∧bn b≠"__name__"
 rng:nsIn Z.K N7 "range"=some none∧bootBuiltins "range"=some (.type "range")
 enm:nsIn Z.K N7 "enumerate"=some none∧bootBuiltins "enumerate"=some (.type "enumerate")
structure az (env:Env) (c:Ctx):Prop where
 sc:env.scope=c.sc
 kind:c.sc.kind= .function
 glb:env.globals=N7
 blt:env.builtins=RY
 vars:j3 c.vars
structure aN (n:Nat) (A:N4):Prop where
 depth:A.depth+n+40 <recursionLimit
 units:A.units+10*n+200 <Sv
 calm:A.handled=none
noncomputable def eJ (Z:Wd) (A:N4) (CA:List Addr) (D:Addr→Prop) (σ':ag) (U:aA) (t:Sem Nk) (s:Nn):Prop:=
 ∀(Q:Nk→Nn→Prop) (X:Nk→Nn→Prop),(∀v h' tk,aw (We CA) s.heap h'→aF Z CA σ' D h'→iI Z s.heap CA σ' D h' v U→Q v {s with heap:=h',toks:=tk})→Ny (model Z.prog Z.w) A t Q X s
noncomputable def bK (Z:Wd) (n:Nat) (E:Ev):Prop:=∀(k:Nat) (c:Ctx) (e:Expr) (ce:CE),au Z.fname k c e ce=true→∀(env:Env) (A:N4) (s:Nn) (ρ:Loc) (σ:ag) (CA:List Addr) (D:Addr→Prop) (U:aA) (σ':ag),
 az env c→St Z env c.vars ρ CA σ D s.heap→aN n A→E.e ce ρ σ=some (U,σ')→eJ Z A CA D σ' U (eval e env) s
noncomputable def gX (Z:Wd) (n:Nat) (E:Ev):Prop:=∀(k:Nat) (c:Ctx) (e:Expr) (ce:CE),au Z.fname k c e ce=true→∀(env:Env) (A:N4) (s:Nn) (ρ:Loc) (σ:ag) (CA:List Addr) (D:Addr→Prop) (b:Bool) (σ':ag),
 az env c→St Z env c.vars ρ CA σ D s.heap→aN n A→E.e ce ρ σ=some (.v (.bool b),σ')→
 ∀(Q:Bool→Nn→Prop) (X:Nk→Nn→Prop),(∀h' tk,aw (We CA) s.heap h'→aF Z CA σ' D h'→Q b {s with heap:=h',toks:=tk})→Ny (model Z.prog Z.w) A (isTrue e env (eval e env)) Q X s
noncomputable def pR (Z:Wd) (n:Nat) (E:Ev):Prop:=∀(i:Nat) (args:List aA) (σ:ag) (U:aA) (σ':ag),E.c i args σ=some (.ok U,σ')→∀(A:N4) (s:Nn) (vs:List Nk) (CA:List Addr) (D:Addr→Prop),
 aN n A→Gd Z CA σ D s.heap→bS Z CA D s.heap vs args→∀R:Qo→Nn→Prop,
 (∀v h' tk,aw (We CA) s.heap h'→aF Z CA σ' D h'→iI Z s.heap CA σ' D h' v U→R (.ok (.ret v)) {s with heap:=h',toks:=tk})→Pr (model Z.prog Z.w) A (.call (.ref (Z.fa i)) ⟨vs,[]⟩) R s
section
variable {Z:Wd} {CA:List Addr} {D:Addr→Prop} {σ σ':ag} {h h':Heap}
theorem eE.toV {v:Nk} {U:aA} {u:V} (r:eE Z CA D h v U.bind) (e:U.toV=some u):b8 Z D h v u:=by
 cases U<;>simp only [aA.toV] at e
 ·injection e with e;subst e;exact r
 ·injection e with e;subst e;exact r
 ·cases e
theorem eE.rd {v:Nk} {U:aA} {u:V} (c:aF Z CA σ D h) (r:eE Z CA D h v U.bind) (e:U.deref σ=some u):Rd Z D h v u:=by
 cases U<;>simp only [aA.deref] at e
 ·injection e with e;subst e;exact .inl r
 ·injection e with e;subst e;exact .inl r
 ·obtain ⟨a,ha,rfl⟩:=r;exact .inr ⟨a,rfl,c.at_ _ _ _ ha e⟩
theorem bS.toVs:∀{vs:List Nk} {Us:List aA} {us:List V},bS Z CA D h vs (Us.map aA.bind)→toVs Us=some us→ak Z D h vs us
 |_,[],_,r,e=>by cases r;exact Ng e▸ .nil
 |_,_::_,_,.cons x r,e=>af e fun u e1 e=>af e fun us' e2 e=>Ng e▸ .cons (x.toV e1) (r.toVs e2)
theorem bS.rds (c:aF Z CA σ D h):∀{vs:List Nk} {Us:List aA} {us:List V},bS Z CA D h vs (Us.map aA.bind)→nN σ Us=some us→gA Z D h vs us
 |_,[],_,r,e=>by cases r;exact Ng e▸ .nil
 |_,_::_,_,.cons x r,e=>af e fun u e1 e=>af e fun us' e2 e=>Ng e▸ .cons (x.rd c e1) (r.rds c e2)
theorem aF.grows (c:aF Z CA σ D h) (g:bM h h'):aF Z CA σ D h':=c.mono fun b o e _=>g b o e
end
section
variable {Z:Wd} {n:Nat} {E:Ev} {c:Ctx} {env:Env} {A:N4} {s:Nn} {ρ:Loc} {σ σ':ag} {CA:List Addr} {D:Addr→Prop} {X:Nk→Nn→Prop}
theorem bz {e:Expr} (h:oW e=true) (es:List Expr) (env:Env):starEach (e::es) env=(false,eval e env)::starEach es env:=by
 cases e<;>first|rfl|cases h
theorem jd (SE:bK Z n E) {k:Nat} {pos:Pos} (EO:az env c) (R:aN n A):∀{es:List Expr} {cs:List CE},d8 (au Z.fname k c) es cs=true→∀{s:Nn} {σ:ag} {q:List aA×ag},
  St Z env c.vars ρ CA σ D s.heap→kL E cs ρ σ=some q→∀{Q:List Nk→Nn→Prop},
  (∀vs h' tk,aw (We CA) s.heap h'→aF Z CA q.2 D h'→bS Z CA D h' vs (q.1.map aA.bind)→Q vs {s with heap:=h',toks:=tk})→
  Ny (model Z.prog Z.w) A (spliced (backTo pos (starEach es env))) Q X s:=by
 intro es
 induction es with
 |nil=>
  intro cs hc s σ q S e Q h
  refine Nf fun nG=> ?_
  cases aE hc
  cases Ng e
  refine nG ?_
  exact Pj (h [] s.heap s.toks aw.refl S.cells .nil)
 |cons e es ih=>
  intro cs hc s σ q S ev Q h
  refine Nf fun nG=> ?_
  obtain ⟨ce,cs,rfl,hc⟩:=cV hc
  refine nG ?_
  refine af ev fun r1 e1 ev=>af ev fun r2 e2 ev=> ?_
  refine Nf fun nG=> ?_
  cases Ng ev
  refine nG ?_
  rw [bz (ac hc).1]
  refine O1 (SE k c e ce (ac (ac hc).2).1 env A s ρ σ CA D r1.1 r1.2 EO S R e1 _ _ fun v h1 t1 k1 c1 q1=>ih (ac (ac hc).2).2 (s:={s with heap:=h1,toks:=t1}) (S.step k1 c1) e2 fun vs h2 t2 k2 c2 q2=> ?_)
  exact h (v::vs) h2 t2 (k1.trans k2) c2 (.cons ((q1.bindV fun a=>S.toGd.fresh_notD).mono ((S.step k1 c1).toGd.old k2)) q2)
theorem cT (SE:bK Z n E) {k:Nat} {e:Expr} {ce:CE} (hc:au Z.fname k c e ce=true) {q:V×ag} (EO:az env c) (S:St Z env c.vars ρ CA σ D s.heap) (R:aN n A) (ev:eO E ce ρ σ=some q)
  {Q:Nk→Nn→Prop} (h:∀v h' tk,aw (We CA) s.heap h'→aF Z CA q.2 D h'→b8 Z D h' v q.1→Q v {s with heap:=h',toks:=tk}):Ny (model Z.prog Z.w) A (eval e env) Q X s:=
 af ev fun r e1 ev=>af ev fun u e2 ev=>SE k c e ce hc env A s ρ σ CA D r.1 r.2 EO S R e1 _ _ fun v h1 t1 k1 c1 r1=>h v h1 t1 k1 (Ng ev▸c1) (Ng ev▸(r1.bindV fun a=>S.toGd.fresh_notD).toV e2)
theorem rG (SE:bK Z n E) {k k':Nat} {e e':Expr} {ce ce':CE} (hc:au Z.fname k c e ce=true) (hc':au Z.fname k' c e' ce'=true) {q:List aA×ag} (EO:az env c) (S:St Z env c.vars ρ CA σ D s.heap) (R:aN n A)
  (ev:kL E [ce,ce'] ρ σ=some q) {Q:Nk→Nk→Nn→Prop}
  (h:∀v v' h' tk,aw (We CA) s.heap h'→aF Z CA q.2 D h'→bS Z CA D h' [v,v'] (q.1.map aA.bind)→Q v v' {s with heap:=h',toks:=tk}):
  Ny (model Z.prog Z.w) A (eval e env) (fun v s₁=>Ny (model Z.prog Z.w) A (eval e' env) (fun v' s₂=>Q v v' s₂) X s₁) X s:=
 af ev fun r e1 ev=>af ev fun r' e2 ev=>af e2 fun r2 e3 e2=>af e2 fun _ e4 e2=>by
  refine Nf fun nG=> ?_
  cases Ng e4
  cases Ng e2
  cases Ng ev
  refine nG ?_
  exact SE k c e ce hc env A s ρ σ CA D r.1 r.2 EO S R e1 _ _ fun v h1 t1 k1 c1 q1=>
   SE k' c e' ce' hc' env A {s with heap:=h1,toks:=t1} ρ r.2 CA D r2.1 r2.2 EO (S.step k1 c1) R e3 _ _ fun v' h2 t2 k2 c2 q2=>h v v' h2 t2 (k1.trans k2) c2
    (.cons ((q1.bindV fun a=>S.toGd.fresh_notD).mono ((S.step k1 c1).toGd.old k2)) (.cons (q2.bindV fun a=>(S.step k1 c1).toGd.fresh_notD) .nil))
theorem pH (SE:bK Z n E) {k k':Nat} {e e':Expr} {ce ce':CE} (hc:au Z.fname k c e ce=true) (hc':au Z.fname k' c e' ce'=true) {q:List V×ag} {a b:V} (hq:q.1=[a,b]) (EO:az env c) (S:St Z env c.vars ρ CA σ D s.heap) (R:aN n A)
  (ev:jC E [ce,ce'] ρ σ=some q) {Q:Nk→Nk→Nn→Prop}
  (h:∀v v' h' tk,aw (We CA) s.heap h'→aF Z CA q.2 D h'→b8 Z D h' v a→b8 Z D h' v' b→Q v v' {s with heap:=h',toks:=tk}):
  Ny (model Z.prog Z.w) A (eval e env) (fun v s₁=>Ny (model Z.prog Z.w) A (eval e' env) (fun v' s₂=>Q v v' s₂) X s₁) X s:=
 af ev fun r e1 ev=>af ev fun us e2 ev=>rG SE hc hc' EO S R e1 fun v v' h' tk k1 c1 q1=>by
  cases Ng ev
  cases (hq▸q1.toVs e2:ak Z D h' [v,v'] [a,b]) with
  |cons x r=>cases r with|cons y _=>exact h v v' h' tk k1 c1 x y
theorem pd (SE:bK Z n E) {k k':Nat} {e e':Expr} {ce ce':CE} (hc:au Z.fname k c e ce=true) (hc':au Z.fname k' c e' ce'=true) {q:List V×ag} {a b:V} (hq:q.1=[a,b]) (EO:az env c) (S:St Z env c.vars ρ CA σ D s.heap) (R:aN n A)
  (ev:rS E [ce,ce'] ρ σ=some q) {Q:Nk→Nk→Nn→Prop}
  (h:∀v v' h' tk,aw (We CA) s.heap h'→aF Z CA q.2 D h'→Rd Z D h' v a→Rd Z D h' v' b→Q v v' {s with heap:=h',toks:=tk}):
  Ny (model Z.prog Z.w) A (eval e env) (fun v s₁=>Ny (model Z.prog Z.w) A (eval e' env) (fun v' s₂=>Q v v' s₂) X s₁) X s:=
 af ev fun r e1 ev=>af ev fun us e2 ev=>rG SE hc hc' EO S R e1 fun v v' h' tk k1 c1 q1=>by
  cases Ng ev
  cases (hq▸q1.rds c1 e2:gA Z D h' [v,v'] [a,b]) with
  |cons x r=>cases r with|cons y _=>exact h v v' h' tk k1 c1 x y
theorem Gd.noSys {p:N2} {loose:List Str} {mg mb:Str→Nh Nk} (O:Wd.Ok Z p loose mg mb) {h1:Heap} (G:Gd Z CA σ D h1) (d:Addr) (n:h1.objs.size≤d):(d==QN)=false:=by
 refine PL.mpr fun z=> ?_
 subst z
 exact absurd (Pu O.sysM (Od G.size n)) (Ou _)
variable {p:N2} {loose:List Str} {mg mb:Str→Nh Nk}
theorem cI {b:Bool} (h:(!b)=true):b=false:=by cases b<;>first|rfl|cases h
theorem jB {x:Str} (g:eW c x=true):c.sc.names.lookup x=some .globalImplicit∧(x==("__debug__":Str))=false:=⟨Nv (ac g).1,cI (ac g).2⟩
theorem ki (O:Wd.Ok Z p loose mg mb) (EO:az env c) (b:∀a o,Z.base.get? a=some o→s.heap.get? a=some o) {x:Str} {pos:Pos} {v:Nk} (g:eW c x=true) (e:nsIn Z.K N7 x=some (some v)) {Q:Nk→Nn→Prop} (h:Q v s):
  Ny (model Z.prog Z.w) A (eval (.Name x pos) env) Q X s:=
 OY (by rw [EO.sc];exact EO.kind) (by unfold PJ;rw [EO.sc];exact (jB g).1) (Qe (mg:=mg) (by rw [EO.glb];exact O.T.g.keeps b) (mg_of O.X O.T.g e) h) (jB g).2
theorem pb (O:Wd.Ok Z p loose mg mb) (EO:az env c) (b:∀a o,Z.base.get? a=some o→s.heap.get? a=some o) {x:Str} {pos:Pos} {v:Nk} (g:eW c x=true) (e:nsIn Z.K N7 x=some none) (hv:bootBuiltins x=some v) (hn:x≠"__name__") {Q:Nk→Nn→Prop} (h:Q v s):
  Ny (model Z.prog Z.w) A (eval (.Name x pos) env) Q X s:=
 OY (by rw [EO.sc];exact EO.kind) (by unfold PJ;rw [EO.sc];exact (jB g).1) (QH (mg:=mg) (mb:=mb) (by rw [EO.glb];exact O.T.g.keeps b) (VL O.X O.T.g e) (by rw [EO.blt];exact O.T.b.keeps b) ((O.T.builtins x hn).trans hv) h) (jB g).2
theorem ig {vars:eF} {x:Str} {i:Nat} (h:vars.contains (x,i)=true):(x,i)∈vars:=by simpa using h
end
end
section
open PySem PySem.W PyProof.Rows
theorem wT (s:Str):bF s.cps.toList=s:=by cases s;simp [bF]
section
variable {Z:Wd} {n:Nat} {E:Ev} {c:Ctx} {env:Env} {A:N4} {s:Nn} {ρ:Loc} {σ σ':ag} {CA:List Addr} {D:Addr→Prop} {X:Nk→Nn→Prop} {p:N2} {loose:List Str} {mg mb:Str→Nh Nk}
theorem aN.less {n m:Nat} (R:aN n A) (h:m≤n):aN m A:=⟨ND (OB (NT h _) _) R.depth,ND (OB (NT (QA 10 h) _) _) R.units,R.calm⟩
theorem vK {e:Expr} {attr:Str} {whole:Sem Nk} (h:dR e=true) {M:Model} {Q:Nk→Nn→Prop} (hw:Ny M A whole Q X s):Ny M A (attributeBase e attr env whole) Q X s:=by
 rcases O6.mp h with h|h
 ·cases e<;>first|exact hw|cases h
 ·refine ax h fun q h1 h2=> ?_
  obtain ⟨np,pos,rfl⟩:=cW h1
  cases hq:q.2 with
  |cons _ _=>exact hw
  |nil=>
   show Ny _ _ (if (q.1 !="super"||attr=="__class__"||env.kindOf "super" !=some .globalImplicit||env.kindOf "__class__" !=some .free)=true then whole else _) Q X s
   rw [h2,SZ,SZ,SZ,NG rfl]
   exact hw
theorem vy {k:T5} {u:V} {kk:Nat} {pos:Pos} (e:tH k=some u):∀(Q:Nk→Nn→Prop),(∀v tk,b8 Z D s.heap v u→Q v {s with toks:=tk})→Ny (model Z.prog Z.w) A (eval (.Constant k kk pos) env) Q X s:=by
 intro Q h
 cases k<;>try (cases e;done)
 ·cases Ng e;exact wpAny_Constant_none (h _ s.toks .none)
 ·cases Ng e;exact TV (h _ s.toks (.bool _))
 ·cases Ng e;exact RZ (h _ _ (.int _ _))
 ·rename_i x
  refine Nf fun nG=> ?_
  refine aL e fun ok e=> ?_
  cases Ng e
  refine nG ?_
  exact R0 (h _ _ (wT x▸ .str (Z:=Z) (D:=D) (h:=s.heap) x.cps.toList s.toks ok))
theorem Cx {e:PD} {es:List PD} {x:Str} {t:Tok} (hk:e.key= .str x t):getL x (e::es)=some (some e.val):=by
 unfold getL
 simp [RC,show e.key.isStr x=true by rw [hk];simp [Value.isStr]]
theorem rK {e:PD} {es:List PD} {x y:Str} {t:Tok} (hk:e.key= .str y t) (n:y≠x):getL x (e::es)=getL x es:=by
 unfold getL
 simp only [RC,show e.key.isStr x=false by rw [hk];simpa [Value.isStr] using n,Rq,show e.refKey=false by simp [U4,hk],Bool.false_or]
theorem Ci {f:gU} {u:V} {h:Heap} (inj:∀f g:gU,fs f=fs g→f=g) {fs':List gU} {es:List PD} (K:jJ fs' es):∀{us:List V},ak Z D h (es.map (·.val)) us→Ag fs' us f=some u→
  ∃v,getL (fs f) es=some (some v)∧b8 Z D h v u:=by
 induction K with
 |nil=>exact fun _ g=>nomatch g
 |cons hk K ih=>
  intro us r g
  cases r with
  |cons r1 r2=>exact (SW _).elim (fun q=>⟨_,q▸Cx hk,Ng ((NG q).symm.trans g)▸r1⟩) fun q=>let ⟨v,h1,h2⟩:=ih r2 ((NV q).symm.trans g);⟨v,(rK hk fun z=>q (inj _ _ z)).trans h1,h2⟩
theorem zo {fs':List gU} {es:List PD} (K:jJ fs' es) {x:Str} (n:∀f∈fs',fs f≠x):getL x es=some none:=by
 induction K with
 |nil=>rfl
 |cons hk K ih=>exact (rK hk (n _ (.head _))).trans (ih fun f m=>n f (.tail _ m))
noncomputable def Kh (x:Str):Nh gU:=[gU.labels,.instruction,.name,.operands,.prefix_,.kind,.register,.worth,.number,.size].find? fun f=>fs f==x
theorem yx (f:gU):Kh (fs f)=some f:=by cases f<;>decide+kernel
theorem Ca (f g:gU) (h:fs f=fs g):f=g:=Ng ((yx f).symm.trans ((Nt Kh h).trans (yx g)))
theorem vz:∀{fs':List gU} {us:List V} {f:gU} {u:V},Ag fs' us f=some u→f∈fs'
 |[],_,_,_,e=>nomatch e
 |_::_,[],_,_,e=>nomatch e
 |g::fs',w::us,f,u,e=>(SW (g=f)).elim (fun q=>q▸ .head _) fun q=> .tail _ (vz ((NV q).symm.trans e))
theorem St.fr (S:St Z env c.vars ρ CA σ D s.heap):∃m,Fr Z.base env.locals s.heap m:=let ⟨m,n⟩:=S.ns;⟨m,n,S.base,S.dabove _ S.nsD⟩
theorem zQ {Z:Wd} {D:Addr→Prop} {h:Heap} {v:Nk} {u:V} (r:b8 Z D h v u):handedIn v=true:=by cases r<;>rfl
structure Fq (Z:Wd) (D:Addr→Prop) (h:Heap) (v:Nk) (k:iG) (us:List V) (a dx:Addr) (es:List PD) (n:Nat):Prop where
 v:v= .ref a
 g1:h.get? a=some (Q2 (Z.ca k) dx)
 g2:h.get? dx=some (Tr es n)
 keys:jJ k.fields es
 vals:ak Z D h (es.map (·.val)) us
theorem b8.toInst {h:Heap} {v:Nk} {k:iG} {us:List V} (r:b8 Z D h v (.inst k us)):∃a dx es n,Fq Z D h v k us a dx es n:=by
 obtain ⟨a,dx,es,n,e,_,_,g1,g2,K,r⟩:=r.says
 exact ⟨a,dx,es,n,e,g1,g2,K,r⟩
theorem wE (O:Wd.Ok Z p loose mg mb) (S:St Z env c.vars ρ CA σ D s.heap) {v:Nk} {k:iG} {us:List V} {f:gU} {u:V} (r:b8 Z D s.heap v (.inst k us)) (g:Ag k.fields us f=some u) {Q:Nk→Nn→Prop}
  (h:∀v tk,b8 Z D s.heap v u→Q v {s with toks:=tk}):Ny (model Z.prog Z.w) A (getAttr v (fs f) true) Q X s:=by
 refine Nf fun nG=> ?_
 obtain ⟨a,dx,es,n,rfl,g1,g2,K,rr⟩:=r.toInst
 obtain ⟨m,F⟩:=S.fr
 obtain ⟨h1,h2,attr,h3,h4⟩:=O.fld k f (vz g)
 obtain ⟨x,hx,rx⟩:=Ci Ca K rr g
 refine nG ?_
 exact get_own F O.X ⟨g1,rfl,rfl,g2⟩ h1 h2 h3 h4 hx (zQ rx) (h _ _ rx)
theorem zM {slice:Expr} {b:Bool} {o i:Nk} (h:jn slice=true):subscripted slice b o i=if b=true then runValue (.builtin "lifetime.subscript" ⟨[o,i],[]⟩) else operate [o,i] (getItem o i):=by
 cases slice<;>cases b<;>first|rfl|cases h
theorem oI {value slice:Expr} {pos:Pos} {Q:Nk→Nn→Prop} (h:jn slice=true)
  (hw:Ny (model Z.prog Z.w) A (eval value env) (fun a s₁=>Ny (model Z.prog Z.w) A (eval slice env) (fun b s₂=>
   Ny (model Z.prog Z.w) A (do let g←QK a;if g=true then runValue (.builtin "lifetime.subscript" ⟨[a,b],[]⟩) else operate [a,b] (getItem a b)) Q X s₂) X s₁) X s):
  Ny (model Z.prog Z.w) A (eval (.Subscript value slice pos) env) Q X s:=by
 rw [Uq]
 refine No (N3 hw (fun a s₁ h₁=>No (Oj (N3 h₁ (fun b s₂ h₂=>No (OI ?_)) fun _ _ x=>x))) fun _ _ x=>x)
 have e:∀g,subscripted slice g a b=_:=fun g=>zM h
 have:Ny (model Z.prog Z.w) A (do let g←QK a;let r←subscripted slice g a b;letTemporaryGo value a r;pure r) Q X s₂:=by
  simp only [e]
  rw [←bind_assoc]
  exact No (N3 h₂ (fun r s₃ h₃=>No (Rs (NE h₃))) fun _ _ x=>x)
 exact this
theorem oj {value slice:Expr} {pos:Pos} {Q:Nk→Nn→Prop} (hs:∀b o i,subscripted slice b o i=operate [i,o] (getItem o i)∨subscripted slice b o i=if b=true then runValue (.builtin "lifetime.subscript" ⟨[o,i],[]⟩) else operate [o,i] (getItem o i))
  (hw:Ny (model Z.prog Z.w) A (eval value env) (fun a s₁=>Ny (model Z.prog Z.w) A (eval slice env) (fun b s₂=>(∃T id,s₂.TypeIs a T∧RQ (.type T) "__getitem__"=pure (some (.builtin id)))∧
   Ny (model Z.prog Z.w) A (getItem a b) Q X s₂) X s₁) X s):
  Ny (model Z.prog Z.w) A (eval (.Subscript value slice pos) env) Q X s:=by
 rw [Uq]
 refine No (N3 hw (fun a s₁ h₁=>No (Oj (N3 h₁ (fun b s₂ h₂=>No (OI ?_)) fun _ _ x=>x))) fun _ _ x=>x)
 refine Nf fun nG=> ?_
 obtain ⟨⟨T,id,hT,hl⟩,h₂⟩:=h₂
 refine nG ?_
 refine No (MR (Z:=Z) hT hl ?_)
 have:Ny (model Z.prog Z.w) A (subscripted slice false a b) (fun r s₃=>Ny (model Z.prog Z.w) A (letTemporaryGo value a r>>=fun _=>pure r) Q X s₃) X s₂:=by
  have h3:Ny (model Z.prog Z.w) A (getItem a b) (fun r s₃=>Ny (model Z.prog Z.w) A (letTemporaryGo value a r>>=fun _=>pure r) Q X s₃) X s₂:=
   N3 h₂ (fun r s₃ h₃=>No (Rs (NE h₃))) fun _ _ x=>x
  rcases hs false a b with e|e
  ·rw [e];exact Qd h3
  ·rw [e];simp only [Ql,UB];exact Qd h3
 exact No this
theorem y7 {a:Nk} {x:V} {lo hi:Nh V} {u:V} (r:Rd Z D s.heap a x) (e:i8 x lo hi=some u):∃T id,s.TypeIs a T∧RQ (.type T) "__getitem__"=pure (some (.builtin id)):=by
 cases x<;>first|(cases e;done)|skip
 ·obtain ⟨t,rfl⟩:=r.str
  exact ⟨_,_,VJ _ _ _,PySem.F.slot_str_getitem.lookup⟩
 ·obtain ⟨l,items,rfl,hl,_⟩:=r.lst
  exact ⟨_,_,hl.typeIs,slot_list_getitem.lookup⟩
end
end
section
open PySem PySem.W PyProof.Rows
set_option tactic.hygienic false
section
variable {Z:Wd} {n:Nat} {E:Ev} {c:Ctx} {env:Env} {A:N4} {s:Nn} {ρ:Loc} {σ σ':ag} {CA:List Addr} {D:Addr→Prop} {X:Nk→Nn→Prop} {p:N2} {loose:List Str} {mg mb:Str→Nh Nk} {U:aA} {k:Nat}
theorem KS {u:V} {kc:T5} {kk:Nat} {pos:Pos} (e:tH kc=some u) (S:St Z env c.vars ρ CA σ D s.heap):eJ Z A CA D σ (.v u) (eval (.Constant kc kk pos) env) s:=
 fun Q _ h=>vy e Q fun v tk r=>h v s.heap tk aw.refl S.cells r
theorem mZ {e:Expr} {i:Int} (h:xY e i=true):∃kk p1 p2,e= .UnaryOp .USub (.Constant (.int i) kk p1) p2:=
 let ⟨q,h1,h2⟩:=bO h
 let ⟨k,h3,h4⟩:=bO (ac h2).2
 let ⟨p,h5⟩:=vM h1
 let ⟨n,p',h6⟩:=gT h3
 ⟨n,p',p,by rw [h5,Nu (ac h2).1,h6,Nu h4]⟩
theorem J0 {i:Int} {e:Expr} (he:xY e i=true) (S:St Z env c.vars ρ CA σ D s.heap):eJ Z A CA D σ (.v (.int (-i))) (eval e env) s:=
 let ⟨_,_,_,h⟩:=mZ he
 h▸fun _ _ h=>T6 (RZ (TB (h _ s.heap _ aw.refl S.cells (.int _ _))))
theorem lP {x:Str} {i:Nat} (h:BS c x i=true):(x,i)∈c.vars∧(x==("__debug__":Str))=false∧(x==("__classdict__":Str))=false:=⟨ig (ac (ac h).1).1,cI (ac (ac h).1).2,cI (ac h).2⟩
theorem zf {i:Nat} (e:ρ[i]?.join=some U):ρ[i]? =some (some U):=by
 cases h:ρ[i]? with
 |none=>rw [h] at e;cases e
 |some o=>rw [h] at e;exact Nt some e
theorem J2 {i:Nat} {x:Str} {pos:Pos} (hx:BS c x i=true) (EO:az env c) (S:St Z env c.vars ρ CA σ D s.heap) (ev:ρ[i]?.join=some U):eJ Z A CA D σ U (eval (.Name x pos) env) s:=
 fun Q X h=>wpAny_Name (Ch S (by rw [EO.sc];exact EO.kind) (lP hx).1 (zf ev) (lP hx).2.2 fun v r=>h v s.heap s.toks aw.refl S.cells (by
  cases U with
  |v u=>exact r
  |own u=>exact r.elim
  |cell k=>exact r)) (lP hx).2.1
theorem Ip (O:Wd.Ok Z p loose mg mb) {g t:Sg} {pos:Pos} (hx:eW c (bF g)=true) (EO:az env c) (S:St Z env c.vars ρ CA σ D s.heap) (ev:Z.P.glob g=some t):eJ Z A CA D σ (.v (.str t)) (eval (.Name (bF g) pos) env) s:=
 fun Q X h=>let ⟨tk,ok,e⟩:=O.glob _ _ ev;ki O EO S.base hx e (h _ s.heap s.toks aw.refl S.cells (.str _ tk ok))
theorem io (SE:bK Z n E) {es:List Expr} {cs:List CE} {pos:Pos} (hc:d8 (au Z.fname k c) es cs=true) (EO:az env c) (S:St Z env c.vars ρ CA σ D s.heap) (R:aN n A) {q:List V×ag} (ev:jC E cs ρ σ=some q) {Q:List Nk→Nn→Prop}
  (h:∀vs h' tk,aw (We CA) s.heap h'→aF Z CA q.2 D h'→ak Z D h' vs q.1→Q vs {s with heap:=h',toks:=tk}):Ny (model Z.prog Z.w) A (spliced (backTo pos (starEach es env))) Q X s:=
 af ev fun r e1 ev=>af ev fun us e2 ev=>jd SE EO R hc S e1 fun vs h1 t1 k1 c1 r1=>by cases Ng ev;exact h vs h1 t1 k1 c1 (r1.toVs e2)
theorem zv (SE:bK Z n E) {es:List Expr} {cs:List CE} {pos:Pos} (hc:d8 (au Z.fname k c) es cs=true) (EO:az env c) (S:St Z env c.vars ρ CA σ D s.heap) (R:aN n A) {q:List V×ag} (ev:rS E cs ρ σ=some q) {Q:List Nk→Nn→Prop}
  (h:∀vs h' tk,aw (We CA) s.heap h'→aF Z CA q.2 D h'→gA Z D h' vs q.1→Q vs {s with heap:=h',toks:=tk}):Ny (model Z.prog Z.w) A (spliced (backTo pos (starEach es env))) Q X s:=
 af ev fun r e1 ev=>af ev fun us e2 ev=>jd SE EO R hc S e1 fun vs h1 t1 k1 c1 r1=>by cases Ng ev;exact h vs h1 t1 k1 c1 (r1.rds c1 e2)
theorem Jv (SE:bK Z n E) {es:List Expr} {cs:List CE} {kk:Nat} {pos:Pos} (hc:d8 (au Z.fname k c) es cs=true) (EO:az env c) (S:St Z env c.vars ρ CA σ D s.heap) (R:aN n A) {q:List V×ag} (ev:jC E cs ρ σ=some q) (hz:q.1.length≤16777216):
  eJ Z A CA D q.2 (.v (.tup q.1)) (eval (.Tuple es kk pos) env) s:=fun Q X h=>
 wpAny_Tuple (io SE hc EO S R ev fun vs h1 t1 k1 c1 ra=>⟨by rw [ra.length];exact hz,h _ _ t1 (k1.trans (aw.push _)) (c1.grows (aG _ _)) (mX (S.toGd.step k1 c1).live (by simpa using ra) hz)⟩)
theorem aF.new1 {h1 h2:Heap} (c:aF Z CA σ D h1) (g:∀b o,h1.get? b=some o→h2.get? b=some o) {a:Addr} (l:h1.objs.size≤a):aF Z CA σ (DC D a) h2:=
 c.grow g (fun b o e d=>d.elim id fun z=>by subst z;exact absurd (NY e) (Pt.mpr l)) fun b d=> .inl d
theorem BP {us:List V} {vs:List Nk} {h1:Heap} (G:Gd Z CA σ D s.heap) (k1:aw (We CA) s.heap h1) (c1:aF Z CA σ' D h1) (ra:ak Z D h1 vs us) (hz:us.length≤16777216):
  iI Z s.heap CA σ' D (h1.push {cls:= .type "list",data:= .seq vs.toArray}) (.ref h1.objs.size) (.own (.lst us)):=by
 refine ⟨h1.objs.size,rfl,G.alive k1 c1 (ee h1),NP (G.step k1 c1).size,⟨hz,vs.toArray,⟨0,N1 _ rfl⟩,?_⟩,c1.new1 (aG _ _) (Nz _)⟩
 have:ak Z (fun b=>D b∨b=h1.objs.size) (h1.push {cls:= .type "list",data:= .seq vs.toArray}) vs us:=ra.mono fun b o d e=>
  ⟨fun x=>x.elim d fun y=>by rw [y] at e;exact ar (ee h1) e,aG _ _ b o e⟩
 simpa using this
theorem JF (SE:bK Z n E) {es:List Expr} {cs:List CE} {pos:Pos} (hc:d8 (au Z.fname k c) es cs=true) (EO:az env c) (S:St Z env c.vars ρ CA σ D s.heap) (R:aN n A) {q:List V×ag} (ev:jC E cs ρ σ=some q) (hz:q.1.length≤16777216):
  eJ Z A CA D q.2 (.own (.lst q.1)) (eval (.List es pos) env) s:=fun Q X h=>
 wpAny_List (io SE hc EO S R ev fun vs h1 t1 k1 c1 ra=>⟨by rw [ra.length];exact hz,h _ _ t1 (k1.trans (aw.push _)) (c1.grows (aG _ _)) (BP S.toGd k1 c1 ra hz)⟩)
theorem G5 (O:Wd.Ok Z p loose mg mb) {pos:Pos} (S:St Z env c.vars ρ CA σ D s.heap):eJ Z A CA D σ (.own (.dct [] [])) (eval (.Dict [] [] pos) env) s:=fun Q X h=>
 wpAny_Dict_empty (h _ _ s.toks (aw.push _) (S.cells.grows (aG _ _)) ⟨s.heap.objs.size,rfl,ee _,NP S.toGd.size,⟨rfl,[],Gd.noSys O S.toGd _ (Nz _),Vr s.heap,rfl,.nil⟩,S.cells.new1 (aG _ _) (Nz _)⟩)
theorem z7 {u w:V} {f:gU} (e:kS u f=some w):∃k us,u= .inst k us∧Ag k.fields us f=some w:=af e fun p e1 e2=>⟨p.1,p.2,mR e1,e2⟩
theorem IN (O:Wd.Ok Z p loose mg mb) (SE:bK Z n E) {e:Expr} {ce:CE} {f:gU} {pos:Pos} (ns:dR e=true) (hc:au Z.fname k c e ce=true) (EO:az env c) (S:St Z env c.vars ρ CA σ D s.heap) (R:aN n A)
  {q:V×ag} {w:V} (ev:eO E ce ρ σ=some q) (ea:kS q.1 f=some w):eJ Z A CA D q.2 (.v w) (eval (.Attribute e (fs f) pos) env) s:=by
 intro Q X h
 obtain ⟨kc,us,h1,h2⟩:=z7 ea
 rw [arm_eval_Attribute]
 refine No (vK ns (cT SE hc EO S R ev fun v g1 t1 k1 c1 r1=>No (OI (No (Oj ?_)))))
 exact wE (s:={s with heap:=g1,toks:=t1}) O (S.step k1 c1) (h1▸r1) h2 fun v' tk r=>No (Rs (NE (h v' g1 tk k1 c1 r)))
theorem Kr (SE:bK Z n E) {e i:Expr} {ce ci:CE} {pos:Pos} (ns:jn i=true) (hc:au Z.fname k c e ce=true) (hc':au Z.fname k c i ci=true) (EO:az env c) (S:St Z env c.vars ρ CA σ D s.heap) (R:aN n A)
  {q:List V×ag} {w:V} (ev:rS E [ce,ci] ρ σ=some q) (ei:two q.1 iW=some w):eJ Z A CA D q.2 (.v w) (eval (.Subscript e i pos) env) s:=fun Q X h=>
 let ⟨_,_,h1,h2⟩:=gm ei
 oI ns (pd SE hc hc' h1 EO S R ev fun v v' g1 t1 k1 c1 r1 r2=>zz (s:={s with heap:=g1,toks:=t1}) r1 r2 h2 fun x tk r=>h x g1 tk k1 c1 r)
theorem JV (SE:bK Z n E) {l r:Expr} {a b:CE} {o:Fa} {pos:Pos} (hc:au Z.fname k c l a=true) (hc':au Z.fname k c r b=true) (EO:az env c) (S:St Z env c.vars ρ CA σ D s.heap) (R:aN n A)
  {q:List V×ag} {w:V} (ev:jC E [a,b] ρ σ=some q) (ei:two q.1 (oE o)=some w):eJ Z A CA D q.2 (.v w) (eval (.BinOp l (E1 o) r pos) env) s:=fun Q X h=>
 let ⟨_,_,h1,h2⟩:=gm ei
 wpAny_BinOp (pH SE hc hc' h1 EO S R ev fun v v' g1 t1 k1 c1 r1 r2=>zK (s:={s with heap:=g1,toks:=t1}) (S.toGd.step k1 c1).live r1 r2 h2 fun x h' tk g r=>h x h' tk (k1.trans (aw.of_all g)) (c1.grows g) r)
theorem wD (op:CmpOp) (e:Expr) (h:fh e=true) (t:Sem Nk):markedEach [op] [e] [t]=[t]:=by
 cases e<;>first|rfl|cases h
theorem Cy (op:CmpOp) (e:Expr) (h:fh e=true):behindInMarks op e=false:=by
 cases e<;>first|rfl|cases h
theorem pY (R:aN n A):A.units+100 <Sv:=ND (N6 (Oa ..) (by decide)) R.units
theorem oZ (R:aN n A):A.units+64 <Sv:=ND (NT (by decide) _) (pY R)
noncomputable def v9 (Z:Wd) (A:N4) (CA:List Addr) (D:Addr→Prop) (σ':ag) (U:aA) (e:Expr) (env:Env) (s:Nn):Prop:=
 ∀b,U= .v (.bool b)→∀(Q:Bool→Nn→Prop) (X:Nk→Nn→Prop),(∀h' tk,aw (We CA) s.heap h'→aF Z CA σ' D h'→Q b {s with heap:=h',toks:=tk})→Ny (model Z.prog Z.w) A (isTrue e env (eval e env)) Q X s
theorem JC (SE:bK Z n E) {l r:Expr} {a b:CE} {o:um} {pos:Pos} (ns:fh r=true) (hc:au Z.fname k c l a=true) (hc':au Z.fname k c r b=true) (EO:az env c) (S:St Z env c.vars ρ CA σ D s.heap) (R:aN n A)
  {q:List V×ag} {t:Bool} (ev:rS E [a,b] ρ σ=some q) (ei:two q.1 (gD o)=some t):eJ Z A CA D q.2 (.v (.bool t)) (eval (.Compare l [eD o] [r] pos) env) s∧v9 Z A CA D q.2 (.v (.bool t)) (.Compare l [eD o] [r] pos) env s:=by
 refine Nf fun nG=> ?_
 refine qo ei fun x y hq e4=> ?_
 refine nG ?_
 have core:∀(Q:Nk→Nn→Prop) X,(∀h' tk,aw (We CA) s.heap h'→aF Z CA q.2 D h'→Q (.bool t) {s with heap:=h',toks:=tk})→
   Ny (model Z.prog Z.w) A (eval l env) (fun v s₁=>Ny (model Z.prog Z.w) A (eval r env) (fun v' s₂=>Ny (model Z.prog Z.w) A (Sw (eD o) v v') Q X s₂) X s₁) X s:=fun Q X h=>
  pd SE hc hc' hq EO S R ev fun v v' g1 t1 k1 c1 r1 r2=>ko (s:={s with heap:=g1,toks:=t1}) r1 r2 e4 (oZ R) fun tk=>h g1 tk k1 c1
 refine ⟨fun Q X h=> ?_,fun t' ht Q X h=> ?_⟩
 ·show Ny _ _ (do let v←eval l env;compareChain pos v [eD o] (markedEach [eD o] [r] [eval r env])) _ _ _
  rw [wD _ _ ns]
  refine No (N3 (core Q X fun h1 t1 k1 c1=>h _ h1 t1 k1 c1 (.bool _)) (fun v s₁ h₁=> ?_) fun _ _ x=>x)
  exact No (Oj (N3 h₁ (fun v' s₂ h₂=>No (OI (Qd h₂))) fun _ _ x=>x))
 ·cases ht
  exact wpAny_isTrue_Compare1 (core (fun q s₃=>Ny _ _ (truthy q) Q X s₃) X fun h1 t1 k1 c1=>Pv (h h1 t1 k1 c1)) (Cy _ _ ns)
end
section
variable {Z:Wd} {n:Nat} {E:Ev} {c:Ctx} {env:Env} {A:N4} {s:Nn} {ρ:Loc} {σ σ':ag} {CA:List Addr} {D:Addr→Prop} {X:Nk→Nn→Prop} {p:N2} {loose:List Str} {mg mb:Str→Nh Nk} {U:aA} {k:Nat}
theorem xt {v:Nk} {x:V} {i:Int} {h:Heap} (r:b8 Z D h v x) (e:x= .int i):IsPart v (some i):=let ⟨t,h⟩:=(e▸r:b8 Z D h v (.int i)).rd.int;h▸ .int _ _
theorem lY {n d:Nat} {x:Nh V} {k:Nat} (h:AT n d x=some k):∃o,x=Pi V.int o:=by
 cases x with
 |none=>exact ⟨none,rfl⟩
 |some v=>exact am h fun i e _=>⟨some i,Nt some (cX e)⟩
theorem pK (SE:bK Z n E) {l:Nh Expr} {lo:Nh CE} (hl:wz (au Z.fname k c) l lo=true) (EO:az env c) (S:St Z env c.vars ρ CA σ D s.heap) (R:aN n A) {q:Nh V×ag} (ev:E5 E lo ρ σ=some q) {o:Nh Int} (ho:q.1=o.map V.int)
  {Q:Nk→Nn→Prop} (h:∀v h' tk,aw (We CA) s.heap h'→aF Z CA q.2 D h'→IsPart v o→Q v {s with heap:=h',toks:=tk}):Ny (model Z.prog Z.w) A (evalPart l env) Q X s:=by
 cases lo with
 |none=>
  cases Ng ev
  cases Oz.mp hl
  cases o with
  |none=>rw [T7];exact NE (h _ s.heap s.toks aw.refl S.cells .none)
  |some i=>cases ho
 |some ce=>
  obtain ⟨e,rfl,hc⟩:=bO hl
  refine am ev fun r e1 e2=> ?_
  refine Nf fun nG=> ?_
  cases e2
  refine nG ?_
  cases o with
  |none=>cases ho
  |some i=>rw [evalPart_some];exact cT SE hc EO S R e1 fun v h1 t1 k1 c1 r1=>h v h1 t1 k1 c1 (xt r1 (Ng ho))
theorem HO {l u:Nh Expr} {p:Pos}:∀(b:Bool) (o i:Nk),subscripted (.Slice l u none p) b o i=operate [i,o] (getItem o i)∨subscripted (.Slice l u none p) b o i=if b=true then runValue (.builtin "lifetime.subscript" ⟨[o,i],[]⟩) else operate [o,i] (getItem o i):=
 fun b o i=>by cases b<;>exact .inl rfl
theorem wv {u:V} {lo hi:Nh V} {w:V} (e:i8 u lo hi=some w):(∃o,lo=Pi V.int o)∧∃o,hi=Pi V.int o:=by
 cases u<;>first|(cases e;done)|skip
 ·exact af (bU e).2 fun _ h1 e=>am e fun _ h2 _=>⟨lY h1,lY h2⟩
 ·exact af e fun _ h1 e=>am e fun _ h2 _=>⟨lY h1,lY h2⟩
theorem Jz (SE:bK Z n E) {e:Expr} {ce:CE} {l u:Nh Expr} {lo hi:Nh CE} {p1 pos:Pos} (hc:au Z.fname k c e ce=true) (hl:wz (au Z.fname k c) l lo=true) (hu:wz (au Z.fname k c) u hi=true)
  (EO:az env c) (S:St Z env c.vars ρ CA σ D s.heap) (R:aN n A) {q:V×ag} {q1 q2:Nh V×ag} (e1:eO E ce ρ σ=some q) (e2:E5 E lo ρ q.2=some q1) (e3:E5 E hi ρ q1.2=some q2)
  {w:V} (ew:i8 q.1 q1.1 q2.1=some w):eJ Z A CA D q2.2 (.v w) (eval (.Subscript e (.Slice l u none p1) pos) env) s:=by
 intro Q X h
 refine Nf fun nG=> ?_
 obtain ⟨⟨oa,h1⟩,ob,h2⟩:=wv ew
 refine nG ?_
 rw [h1,h2] at ew
 refine oj HO (cT SE hc EO S R e1 fun v g1 t1 k1 c1 r1=>wpAny_Slice ?_)
 have S1:=S.step k1 c1
 refine pK (s:={s with heap:=g1,toks:=t1}) SE hl EO S1 R e2 h1 fun vl g2 t2 k2 c2 p2=> ?_
 have S2:=S1.step k2 c2
 refine pK (s:={s with heap:=g2,toks:=t2}) SE hu EO S2 R e3 h2 fun vu g3 t3 k3 c3 p3=> ?_
 rw [T7]
 refine NE ?_
 have r3:Rd Z D (g3.push {cls:= .type "slice",data:= .fields #[vl,vu,.none]}) v q.1:=((r1.mono (S1.toGd.old k2)).mono (S2.toGd.old k3)).rd.mono (aG _ _) fun _ _ d _=>d
 refine ⟨y7 (s:={s with heap:=g3.push {cls:= .type "slice",data:= .fields #[vl,vu,.none]},toks:=t3}) r3 ew,?_⟩
 exact z9 (s:={s with heap:=g3.push {cls:= .type "slice",data:= .fields #[vl,vu,.none]},toks:=t3}) (iE.grows (S2.step k3 c3).live (aG _ _)) r3 (Ur ..) p2 p3 ew fun y h' tk g r=>
  h y h' tk (((k1.trans k2).trans k3).trans (aw.of_all fun b o e=>g b o (aG _ _ b o e))) (c3.grows fun b o e=>g b o (aG _ _ b o e)) r
theorem Ku (SE:bK Z n E) {e:Expr} {ce:CE} {kk:Nat} {p1 p2 p3 pos:Pos} (hc:au Z.fname k c e ce=true) (EO:az env c) (S:St Z env c.vars ρ CA σ D s.heap) (R:aN n A) {q:V×ag} {us:List V} (ev:eO E ce ρ σ=some q) (eu:q.1.lst?=some us):
  eJ Z A CA D q.2 (.v (.lst us.reverse)) (eval (.Subscript e (.Slice none none (some (.UnaryOp .USub (.Constant (.int 1) kk p1) p2)) p3) pos) env) s:=by
 intro Q X h
 refine oj (fun b o i=>by cases b<;>exact .inr rfl) (cT SE hc EO S R ev fun v g1 t1 k1 c1 r1=>wpAny_Slice ?_)
 rw [T7]
 refine NE (NE ?_)
 rw [evalPart_some]
 refine T6 (RZ (TB ?_))
 refine Nf fun nG=> ?_
 obtain ⟨a,items,rfl,hl,ri,_,len,le⟩:=Rd.lst (f7 eu▸r1.rd)
 refine nG ?_
 refine ⟨⟨_,_,(hl.push _).typeIs,slot_list_getitem.lookup⟩,?_⟩
 refine Sn (hl.push _) (Ur ..) .none .none (.int _ _) (by decide) ?_ (by rw [len];exact le)
 rw [krv_pick]
 have g':bM g1 ((g1.push {cls:= .type "slice",data:= .fields #[.none,.none,.int (-1) (t1+1)]}).push {cls:= .type "list",data:= .seq items.toList.reverse.toArray}):=fun b o e=>aG _ _ b o (aG _ _ b o e)
 exact h _ _ _ (k1.trans (aw.of_all g')) (c1.grows g') (mL (iE.grows (S.step k1 c1).live (aG _ _)) (by simpa using (ri.grows (aG _ _)).reverse) (by rw [TW];exact le))
end
section
variable {Z:Wd} {n:Nat} {E:Ev} {c:Ctx} {env:Env} {A:N4} {s:Nn} {ρ:Loc} {σ σ':ag} {CA:List Addr} {D:Addr→Prop} {X:Nk→Nn→Prop} {p:N2} {loose:List Str} {mg mb:Str→Nh Nk} {U:aA} {k:Nat}
theorem ta (SE:bK Z n E) {e:Expr} {ce:CE} (hc:au Z.fname k c e ce=true) (EO:az env c) (S:St Z env c.vars ρ CA σ D s.heap) (R:aN n A) {q:Bool×ag} (ev:cv E ce ρ σ=some q) {Q:Nk→Nn→Prop}
  (h:∀h' tk,aw (We CA) s.heap h'→aF Z CA q.2 D h'→Q (.bool q.1) {s with heap:=h',toks:=tk}):Ny (model Z.prog Z.w) A (eval e env) Q X s:=
 SE k c e ce hc env A s ρ σ CA D _ q.2 EO S R (jj ev) _ _ fun v h1 t1 k1 c1 r1=>Rd.bool (r1:b8 Z D h1 v (.bool q.1)).rd▸h h1 t1 k1 c1
theorem j7 (SB:gX Z n E) {e:Expr} {ce:CE} (hc:au Z.fname k c e ce=true) (EO:az env c) (S:St Z env c.vars ρ CA σ D s.heap) (R:aN n A) {q:Bool×ag} (ev:cv E ce ρ σ=some q) {Q:Bool→Nn→Prop}
  (h:∀h' tk,aw (We CA) s.heap h'→aF Z CA q.2 D h'→Q q.1 {s with heap:=h',toks:=tk}):Ny (model Z.prog Z.w) A (isTrue e env (eval e env)) Q X s:=
 SB k c e ce hc env A s ρ σ CA D q.1 q.2 EO S R (jj ev) Q X h
noncomputable def JM (t:Bool):BoolOp:=if t then .And else .Or
theorem rg {t:Bool} {ce:CE} {cs:List CE} {q:Bool×ag} (e:fc E t (ce::cs) ρ σ=some q):∃r,cv E ce ρ σ=some r∧((cs=[]∧q=r)∨(cs≠[]∧r.1= !t∧q=r)∨(cs≠[]∧r.1=t∧fc E t cs ρ r.2=some q)):=
 af e fun r e1 e=>⟨r,e1,by
  cases cs with
  |nil=>exact .inl ⟨rfl,(Ng e).symm⟩
  |cons a as=>
   obtain ⟨b,σ1⟩:=r
   refine .inr ?_
   cases t<;>cases b
   ·exact .inr ⟨fun z=>(nomatch z),rfl,e⟩
   ·exact .inl ⟨fun z=>(nomatch z),rfl,(Ng e).symm⟩
   ·exact .inl ⟨fun z=>(nomatch z),rfl,(Ng e).symm⟩
   ·exact .inr ⟨fun z=>(nomatch z),rfl,e⟩⟩
theorem EK (SE:bK Z n E) {pos:Pos} {t:Bool} (EO:az env c) (R:aN n A):∀{es:List Expr} {cs:List CE},d8 (au Z.fname k c) es cs=true→∀{s:Nn} {σ:ag},St Z env c.vars ρ CA σ D s.heap→∀{q:Bool×ag},fc E t cs ρ σ=some q→∀{Q:Nk→Nn→Prop},
  (∀h' tk,aw (We CA) s.heap h'→aF Z CA q.2 D h'→Q (.bool q.1) {s with heap:=h',toks:=tk})→Ny (model Z.prog Z.w) A (boolOp pos (JM t) (evalEach es env)) Q X s:=by
 intro es
 induction es with
 |nil=>intro cs hc s σ S q ev;cases aE hc;cases ev
 |cons e es ih=>
  intro cs hc s σ S q ev Q h
  obtain ⟨ce,cs,rfl,hc⟩:=cV hc
  obtain ⟨r,e1,hr⟩:=rg ev
  have hc1:=(ac (ac hc).2).1
  have hc2:=(ac (ac hc).2).2
  cases es with
  |nil=>
   cases aE hc2
   rcases hr with ⟨_,rfl⟩|⟨z,_⟩|⟨z,_⟩
   ·exact ta SE hc1 EO S R e1 h
   ·exact (z rfl).elim
   ·exact (z rfl).elim
  |cons e' es=>
   have ne:cs≠[]:=fun z=>by subst z;cases hc2
   show Ny _ _ (eval e env>>=_) _ _ _
   refine No (ta SE hc1 EO S R e1 fun h1 t1 k1 c1=>No (OI (No (Oj (Pv ?_)))))
   rcases hr with ⟨z,_⟩|⟨_,z,rfl⟩|⟨_,z,ev⟩
   ·exact (ne z).elim
   ·have:=h h1 t1 k1 c1
    rw [z] at this ⊢
    cases t<;>exact NE this
   ·have:=ih hc2 (s:={s with heap:=h1,toks:=t1}) (S.step k1 c1) ev fun h2 t2 k2 c2=>h h2 t2 (k1.trans k2) c2
    rw [z]
    cases t<;>exact this
theorem and_true (SB:gX Z n E) {t:Bool} (EO:az env c) (R:aN n A):∀{es:List Expr} {cs:List CE},d8 (au Z.fname k c) es cs=true→∀{s:Nn} {σ:ag},St Z env c.vars ρ CA σ D s.heap→∀{q:Bool×ag},fc E t cs ρ σ=some q→∀{Q:Bool→Nn→Prop},
  (∀h' tk,aw (We CA) s.heap h'→aF Z CA q.2 D h'→Q q.1 {s with heap:=h',toks:=tk})→Ny (model Z.prog Z.w) A (allTrue (JM t) es env) Q X s:=by
 intro es
 induction es with
 |nil=>intro cs hc s σ S q ev;cases aE hc;cases ev
 |cons e es ih=>
  intro cs hc s σ S q ev Q h
  obtain ⟨ce,cs,rfl,hc⟩:=cV hc
  obtain ⟨r,e1,hr⟩:=rg ev
  have hc1:=(ac (ac hc).2).1
  have hc2:=(ac (ac hc).2).2
  have go:Ny (model Z.prog Z.w) A (isTrue e env (eval e env)) (fun b s'=>if b=t then Ny (model Z.prog Z.w) A (allTrue (JM t) es env) Q X s' else Q b s') X s:=by
   refine j7 SB hc1 EO S R e1 fun h1 t1 k1 c1=> ?_
   rcases hr with ⟨rfl,rfl⟩|⟨_,z,rfl⟩|⟨_,z,ev⟩
   ·have:=h h1 t1 k1 c1
    cases es with
    |cons _ _=>cases hc2
    |nil=>
     split
     ·rename_i z
      rw [z] at this
      cases t
      ·exact NE this
      ·exact wpAny_allTrue_And_nil this
     ·exact this
   ·rw [NV (by rw [z];cases t<;>decide)];exact h h1 t1 k1 c1
   ·rw [NG z];exact ih hc2 (s:={s with heap:=h1,toks:=t1}) (S.step k1 c1) ev fun h2 t2 k2 c2=>h h2 t2 (k1.trans k2) c2
  cases t
  ·exact wpAny_allTrue_Or_cons (N3 go (fun b s' h'=>by cases b<;>exact h') fun _ _ x=>x)
  ·exact wpAny_allTrue_And_cons (N3 go (fun b s' h'=>by cases b<;>exact h') fun _ _ x=>x)
theorem eJ.tr {e:Expr} (h:eJ Z A CA D σ' U (eval e env) s) (he:isTrue e env (eval e env)=(do let v←eval e env;standAt e.pos;holding [v] (truthy v))):v9 Z A CA D σ' U e env s:=
 fun b hU Q X hq=>wpAny_isTrue_value (h _ _ fun v h1 t1 k1 c1 r1=>by subst hU;exact Rd.bool (r1:b8 Z D h1 v (.bool b)).rd▸Pv (hq h1 t1 k1 c1)) he
theorem FX (SE:bK Z n E) (SB:gX Z n E) {t:Bool} {es:List Expr} {cs:List CE} {pos:Pos} (hc:d8 (au Z.fname k c) es cs=true) (EO:az env c) (S:St Z env c.vars ρ CA σ D s.heap) (R:aN n A) {q:Bool×ag} (ev:fc E t cs ρ σ=some q):
  eJ Z A CA D q.2 (.v (.bool q.1)) (eval (.BoolOp (JM t) es pos) env) s∧v9 Z A CA D q.2 (.v (.bool q.1)) (.BoolOp (JM t) es pos) env s:=
 ⟨fun Q X h=>EK SE EO R hc S ev fun h1 t1 k1 c1=>h _ h1 t1 k1 c1 (.bool _),fun b' hb Q X h=>wpAny_isTrue_BoolOp (by cases hb;exact and_true SB EO R hc S ev h)⟩
theorem KL (SE:bK Z n E) (SB:gX Z n E) {e:Expr} {ce:CE} {pos:Pos} (hc:au Z.fname k c e ce=true) (EO:az env c) (S:St Z env c.vars ρ CA σ D s.heap) (R:aN n A) {q:Bool×ag} (ev:cv E ce ρ σ=some q):
  eJ Z A CA D q.2 (.v (.bool !q.1)) (eval (.UnaryOp .Not e pos) env) s∧v9 Z A CA D q.2 (.v (.bool !q.1)) (.UnaryOp .Not e pos) env s:=
 ⟨fun Q X h=>T6 (ta SE hc EO S R ev fun h1 t1 k1 c1=>not_of (Pv (h _ h1 t1 k1 c1 (.bool _)))),fun b' hb Q X h=>by cases hb;exact wpAny_isTrue_Not (j7 SB hc EO S R ev h)⟩
theorem iI.older {g g':Heap} {v:Nk} {h:Heap} (r:iI Z g CA σ D h v U) (k:∀a,g.get? a=none→g'.get? a=none):iI Z g' CA σ D h v U:=by
 cases U with
 |v u=>exact r
 |cell k=>exact r
 |own u=>exact let ⟨q,q1,q2,q3⟩:=r;⟨q,q1,k _ q2,q3⟩
theorem eJ.after {h1:Heap} {t1:Nat} {σ1:ag} {e:Sem Nk} (G:Gd Z CA σ D s.heap) (k1:aw (We CA) s.heap h1) (c1:aF Z CA σ1 D h1) (H:eJ Z A CA D σ' U e {s with heap:=h1,toks:=t1}) {Q:Nk→Nn→Prop}
  (h:∀v h' tk,aw (We CA) s.heap h'→aF Z CA σ' D h'→iI Z s.heap CA σ' D h' v U→Q v {s with heap:=h',toks:=tk}):Ny (model Z.prog Z.w) A e Q X {s with heap:=h1,toks:=t1}:=
 H Q X fun v h2 t2 k2 c2 r2=>h v h2 t2 (k1.trans k2) c2 (r2.older fun _ n=>G.alive k1 c1 n)
theorem KA (SE:bK Z n E) (SB:gX Z n E) {t a b:Expr} {x y z:CE} {pos:Pos} (hc:au Z.fname k c t x=true) (ha:au Z.fname k c a y=true) (hb:au Z.fname k c b z=true) (EO:az env c) (S:St Z env c.vars ρ CA σ D s.heap) (R:aN n A)
  {q:Bool×ag} (e1:cv E x ρ σ=some q) (ev:E.e (if q.1 then y else z) ρ q.2=some (U,σ')):eJ Z A CA D σ' U (eval (.IfExp t a b pos) env) s∧v9 Z A CA D σ' U (.IfExp t a b pos) env s:=by
 have hab:∀t,au Z.fname k c (if t=true then a else b) (if t=true then y else z)=true:=fun t=>by cases t;exact hb;exact ha
 have ce:∀t:Bool,(if t=true then eval a env else eval b env)=eval (if t=true then a else b) env:=fun t=>by cases t<;>rfl
 have cb:∀t:Bool,(if t=true then isTrue a env (eval a env) else isTrue b env (eval b env))=isTrue (if t=true then a else b) env (eval (if t=true then a else b) env):=fun t=>by cases t<;>rfl
 refine ⟨fun Q X h=>wpAny_IfExp (j7 SB hc EO S R e1 fun h1 t1 k1 c1=> ?_),fun b' hb' Q X h=>isTrue_IfExp (j7 SB hc EO S R e1 fun h1 t1 k1 c1=> ?_)⟩
 ·have:=eJ.after (s:=s) (X:=X) (Q:=Q) S.toGd k1 c1 (SE k c _ _ (hab q.1) env A {s with heap:=h1,toks:=t1} ρ q.2 CA D U σ' EO (S.step k1 c1) R ev) h
  cases hq:q.1<;>(rw [hq] at this;exact this)
 ·subst hb'
  have:=SB k c _ _ (hab q.1) env A {s with heap:=h1,toks:=t1} ρ q.2 CA D b' σ' EO (S.step k1 c1) R ev Q X fun h2 t2 k2 c2=>h h2 t2 (k1.trans k2) c2
  cases hq:q.1<;>(rw [hq] at this;exact this)
theorem FP (o o':CmpOp) (e e':Expr) (h':fh e'=true) (t t':Sem Nk):markedEach [o,o'] [e,e'] [t,t']=[t,t']:=by
 show t::markedEach [o'] [e'] [t']=_
 rw [wD _ _ h']
theorem Ec (o o':CmpOp) (e e':Expr) (h':fh e'=true):lastMarks [o,o'] [e,e']=false:=by
 show lastMarks [o'] [e']=false
 exact Cy _ _ h'
theorem B1 (SE:bK Z n E) {l r r':Expr} {a b d:CE} {o o':um} {pos:Pos} (ns':fh r'=true) (hc:au Z.fname k c l a=true) (hc':au Z.fname k c r b=true) (hd:au Z.fname k c r' d=true)
  (EO:az env c) (S:St Z env c.vars ρ CA σ D s.heap) (R:aN n A) {q:List V×ag} {x y:V} {t w:Bool} (e1:jC E [a,b] ρ σ=some q) (hq:q.1=[x,y]) (e2:gD o x y=some t)
  (ev:(t=false∧w=false∧σ'=q.2)∨(t=true∧∃z,eO E d ρ q.2=some (z,σ')∧gD o' y z=some w)):
  eJ Z A CA D σ' (.v (.bool w)) (eval (.Compare l [eD o,eD o'] [r,r'] pos) env) s∧v9 Z A CA D σ' (.v (.bool w)) (.Compare l [eD o,eD o'] [r,r'] pos) env s:=by
 have core:∀(Q:Nk→Nn→Prop) (F:Nn→Prop) (X:Nk→Nn→Prop),(∀h' tk,aw (We CA) s.heap h'→aF Z CA σ' D h'→Q (.bool w) {s with heap:=h',toks:=tk})→(w=false→∀h' tk,aw (We CA) s.heap h'→aF Z CA σ' D h'→F {s with heap:=h',toks:=tk})→
   Ny (model Z.prog Z.w) A (eval l env) (fun v s₁=>Ny (model Z.prog Z.w) A (eval r env) (fun v' s₂=>Ny (model Z.prog Z.w) A (Sw (eD o) v v') (fun q s₃=>q= .bool t∧(t=false→F s₃)∧
    (t=true→Ny (model Z.prog Z.w) A (eval r' env) (fun w s₄=>Ny (model Z.prog Z.w) A (Sw (eD o') v' w) Q X s₄) X s₃)) X s₂) X s₁) X s:=fun Q F X h hF=>
  pH SE hc hc' hq EO S R e1 fun v v' h1 t1 k1 c1 r1 r2=>ko (s:={s with heap:=h1,toks:=t1}) r1.rd r2.rd e2 (oZ R) fun tk=>⟨rfl,by
   rcases ev with ⟨rfl,hw,rfl⟩|⟨rfl,z,e5,e6⟩
   ·exact ⟨fun _=>hF hw h1 tk k1 c1,fun z=>(nomatch z)⟩
   ·exact ⟨fun z=>(nomatch z),fun _=>cT (s:={s with heap:=h1,toks:=tk}) SE hd EO (S.step k1 c1) R e5 fun w h2 t2 k2 c2 r3=>
     ko (s:={s with heap:=h2,toks:=t2}) (r2.mono ((S.step k1 c1).toGd.old k2)).rd r3.rd e6 (oZ R) fun tk=>h h2 tk (k1.trans k2) c2⟩⟩
 refine ⟨fun Q X h=> ?_,fun bb hb Q X h=> ?_⟩
 ·show Ny _ _ (do let v←eval l env;compareChain pos v [eD o,eD o'] (markedEach [eD o,eD o'] [r,r'] [eval r env,eval r' env])) _ _ _
  rw [FP _ _ _ _ ns']
  refine No (N3 (core Q (Q (.bool false)) X (fun h1 tk k1 c1=>h _ h1 tk k1 c1 (.bool _)) fun z h1 tk k1 c1=>z▸h _ h1 tk k1 c1 (.bool _)) (fun v s₁ h₁=> ?_) fun _ _ x=>x)
  refine No (Oj (N3 h₁ (fun v' s₂ h₂=>No (OI (No (Oj (N3 h₂ (fun q s₃ h₃=>No (wpAny_release ?_)) fun _ _ x=>x))))) fun _ _ x=>x))
  obtain ⟨rfl,hf,ht⟩:=h₃
  refine No (Oj (Pv ?_))
  cases t with
  |true=>exact No (Oj (N3 (ht rfl) (fun w s₂ h₂=>No (OI (Qd h₂))) fun _ _ x=>x))
  |false=>exact NE (hf rfl)
 ·cases hb
  refine isTrue_chain (rs:=[]) (ops:=[]) (N3 (core (fun w s₂=>Ny (model Z.prog Z.w) A (truthy w) Q X s₂) (Q false) X (fun h1 tk k1 c1=>Pv (h h1 tk k1 c1)) fun z h1 tk k1 c1=>z▸h h1 tk k1 c1) (fun v s₁ h₁=> ?_) fun _ _ x=>x) (Ec _ _ _ _ ns')
  refine No (Oj (N3 h₁ (fun v' s₂ h₂=>No (OI (No (Oj (N3 h₂ (fun q s₃ h₃=>No (wpAny_release ?_)) fun _ _ x=>x))))) fun _ _ x=>x))
  obtain ⟨rfl,hf,ht⟩:=h₃
  refine No (Oj (Pv ?_))
  cases t with
  |true=>exact No (Oj (N3 (ht rfl) (fun w s₂ h₂=>No (OI (No (Qd (N3 h₂ (fun _ _ q=>Oj q) fun _ _ x=>x))))) fun _ _ x=>x))
  |false=>exact NE (hf rfl)
end
noncomputable def xg (Z:Wd):Prop:=∀(c:iG) (us:List V) (w:V),iB c us=some w→∀(A:N4) (s:Nn) (vs:List Nk) (CA:List Addr) (σ:ag) (D:Addr→Prop),aN 0 A→Gd Z CA σ D s.heap→ak Z D s.heap vs us→
 ∀R:Qo→Nn→Prop,(∀v h' tk,bM s.heap h'→b8 Z D h' v w→R (.ok (.ret v)) {s with heap:=h',toks:=tk})→Pr (model Z.prog Z.w) A (.call (.ref (Z.ca c)) ⟨vs,[]⟩) R s
section
variable {Z:Wd} {n:Nat} {E:Ev} {c:Ctx} {env:Env} {A:N4} {s:Nn} {ρ:Loc} {σ σ':ag} {CA:List Addr} {D:Addr→Prop} {X:Nk→Nn→Prop} {p:N2} {loose:List Str} {mg mb:Str→Nh Nk} {U:aA} {k:Nat}
theorem jH {M:Model} {f:Nk} {args:List (Bool×Sem Nk)} (ha:args.any (·.1)=false) {Q:Args→Nn→Prop} (h:Ny M A (spliced args) (fun vs s'=>Q ⟨vs,[]⟩ s') X s):Ny M A (evalArgs f true args []) Q X s:=by
 unfold evalArgs
 match args,ha,h with
 |[],_,h=>
  show Ny M A (spliced []>>=_) Q X s
  refine No (N3 h (fun vs s' h'=>No (NE (Oj (No (NE (No (NE (NE h')))))))) fun _ _ x=>x)
 |(true,x)::r,ha,_=>simp at ha
 |(false,x)::r,_,h=>
  show Ny M A (spliced ((false,x)::r)>>=_) Q X s
  refine No (N3 h (fun vs s' h'=>No (NE (Oj (No (NE (No (NE (NE h')))))))) fun _ _ x=>x)
theorem eg {f:Expr→CE→Bool}:∀{es:List Expr} {cs:List CE},d8 f es cs=true→∀pos env,(backTo pos (starEach es env)).any (·.1)=false∧(backTo pos (starEach es env)).all (!·.1)=true:=by
 intro es
 induction es with
 |nil=>exact fun _ _ _=>⟨rfl,rfl⟩
 |cons e es ih=>
  intro cs h pos env
  refine Nf fun nG=> ?_
  refine ib h fun c cs _ h=> ?_
  refine nG ?_
  have:=ih (ac (ac h).2).2 pos env
  rw [bz (ac h).1]
  exact this
noncomputable def A5 (Z:Wd) (f:Nk):Prop:=(∃id,f= .builtin id)∨(∃T,f= .type T)∨keepIn Z.K f=true
theorem iy {f:Nk} {first:List Nk} {pos:Pos} {args:List (Bool×Sem Nk)} (hf:A5 Z f) (ha:args.any (·.1)=false) {Q:Nk→Nn→Prop}
  (h:Ny (model Z.prog Z.w) A (spliced args) (fun vs s₁=>Z.K.In s₁.heap∧Ny (model Z.prog Z.w) A (call f (first++vs)) Q X s₁) X s):Ny (model Z.prog Z.w) A (callWith pos f first args []) Q X s:=by
 rcases hf with ⟨id,rfl⟩|⟨T,rfl⟩|hk
 ·exact Calls.callWith_builtin ha (jH ha (N3 h (fun _ _ x=>x.2) fun _ _ x=>x))
 ·exact VM ha (jH ha (N3 h (fun _ _ x=>x.2) fun _ _ x=>x))
 ·exact callWith_of (P:=fun h=>Z.K.In h) (by rw [ha];rfl) (keeps_K hk) (jH ha h)
theorem ik {o:Expr} {name:Str} {apos pos:Pos} {args:List Expr} {cs:List CE} (ns:dR o=true) (hline:(apos.endLine==pos.line)=true) (hn:args.length <20) (ha:d8 (au Z.fname k c) args cs=true) {Q:Nk→Nn→Prop}
  (h:Ny (model Z.prog Z.w) A (eval o env) (fun ov s₁=>∀pl:Sem Bool,Ny (model Z.prog Z.w) A (getMethod ov name pl) (fun fx s₂=>Ny (model Z.prog Z.w) A (callWith pos fx.1 fx.2 (backTo pos (starEach args env)) []) Q X s₂) X s₁) X s):
  Ny (model Z.prog Z.w) A (eval (.Call (.Attribute o name apos) args [] pos) env) Q X s:=by
 rw [arm_eval_Call]
 refine No (vK ns (N3 h (fun ov s₁ h₁=>No (OI ?_)) fun _ _ x=>x))
 have hform:methodCallForm (args.length+([]:List TP).length) (backTo pos (starEach args env)) (backToKw pos (keywordEach [] env))=true:=by
  unfold methodCallForm
  rw [(eg ha _ _).2]
  have:([]:List TP).length=0:=rfl
  have e2:backToKw pos (keywordEach [] env)=[]:=rfl
  rw [e2,this]
  simp
  omega
 have hpos:methodCallPos true o env apos pos=pure pos:=by unfold methodCallPos;simp [hline]
 unfold methodCall
 rw [hform]
 refine No (Oj ?_)
 have:=h₁ (do return (←importBound o env).getD true)
 exact N3 this (fun fx s₂ h₂=>No (wpAny_of_eq hpos h₂)) fun _ _ x=>x
theorem lF {i:Nat}:∀{ks:List Nat} {us σ:ag},i∉ks→(pW ks us σ)[i]? =σ[i]?
 |[],_,_,_=>rfl
 |_::_,[],_,_=>rfl
 |k::ks,u::us,σ,h=>(lF (us:=us) (σ:=σ.set k u) fun m=>h (.tail _ m)).trans (Oe fun z=>h (by rw [z];exact .head _))
theorem sD {i:Nat}:∀{ks:List Nat} {us σ:ag},ks.Nodup→us.length=ks.length→i <σ.length→∀{j:Nat},ks[j]? =some i→(pW ks us σ)[i]? =us[j]?
 |[],_,_,_,_,_,_,e=>nomatch e
 |_::_,[],_,_,l,_,_,_=>nomatch l
 |k::ks,u::us,σ,nd,l,lt,0,e=>by
  cases Ng e
  exact (lF (Pc.mp nd).1).trans (Ob lt)
 |k::ks,u::us,σ,nd,l,lt,j+1,e=>sD (Pc.mp nd).2 (PO l) (by rw [Ot];exact lt) (j:=j) e
theorem p9:∀{ks:List Nat} {us σ:ag},(pW ks us σ).length=σ.length
 |[],_,_=>rfl
 |_::_,[],_=>rfl
 |k::ks,u::us,σ=>(p9 (ks:=ks) (us:=us) (σ:=σ.set k u)).trans Ot
theorem iL {σ:ag}:∀{ks:List Nat} {us:ag},wB σ ks=some us→us.length=ks.length∧∀{j k:Nat},ks[j]? =some k→σ[k]? =us[j]?
 |[],_,e=>⟨(Nt PR (Ng e)).symm,fun h=>nomatch h⟩
 |k::ks,_,e=>af e fun u e1 e=>am e fun us e2 e=>by
  obtain ⟨h1,h2⟩:=iL e2
  subst e
  refine ⟨Nt Ts h1,fun {j k'} h=> ?_⟩
  cases j with
  |zero=>cases Ng h;exact e1
  |succ j=>exact h2 h
noncomputable def mQ (CA:List Addr) (ks:List Nat):List Addr:=ks.map fun k=>(CA[k]?).getD 0
theorem ur {ks:List Nat} {j k:Nat} (h:ks[j]? =some k):(mQ CA ks)[j]? =some ((CA[k]?).getD 0):=by rw [mQ,OF,h];rfl
theorem BV {ks:List Nat} {j:Nat} {a:Addr} (h:(mQ CA ks)[j]? =some a):∃k,ks[j]? =some k∧(CA[k]?).getD 0=a:=by rw [mQ,OF] at h;exact map_some h
structure In (Z:Wd) (CA:List Addr) (σ:ag) (D:Addr→Prop) (h:Heap) (ks:List Nat) (us:ag):Prop where
 C:aF Z CA σ D h
 nd:ks.Nodup
 g:wB σ ks=some us
theorem In.lt {ks:List Nat} {us:ag} {h:Heap} (I:In Z CA σ D h ks us) {j k:Nat} (e:ks[j]? =some k):∃a u,CA[k]? =some a∧σ[k]? =some u∧us[j]? =some u:=by
 have h2:=(iL I.g).2 e
 have lj:j <us.length:=by rw [(iL I.g).1];exact (Nq.mp e).1
 rw [Nr lj] at h2
 have lk:k <CA.length:=by rw [I.C.len];exact (Nq.mp h2).1
 exact ⟨_,_,Nr lk,h2,Nr lj⟩
theorem In.at {ks:List Nat} {us:ag} {h:Heap} (I:In Z CA σ D h ks us) {j:Nat} {a:Addr} (e:(mQ CA ks)[j]? =some a):∃k u,ks[j]? =some k∧CA[k]? =some a∧σ[k]? =some u∧us[j]? =some u:=
 let ⟨k,h1,h2⟩:=BV e;let ⟨a',u,h3,h4,h5⟩:=I.lt h1;⟨k,u,h1,by rw [h3] at h2 ⊢;exact Nt some h2,h4,h5⟩
theorem jY {α:Type} {l:List α} (nd:l.Nodup) {i j:Nat} {a:α} (h1:l[i]? =some a) (h2:l[j]? =some a):i=j:=by
 obtain ⟨l1,e1⟩:=Nq.mp h1
 obtain ⟨l2,e2⟩:=Nq.mp h2
 rcases Sf i j with l|l|l
 ·exact (Ph.mp nd i j l1 l2 l (e1.trans e2.symm)).elim
 ·exact l
 ·exact (Ph.mp nd j i l2 l1 l (e2.trans e1.symm)).elim
theorem In.mem {ks:List Nat} {us:ag} {h:Heap} (I:In Z CA σ D h ks us) {a:Addr} (m:a∈mQ CA ks):a∈CA:=
 let ⟨_,e⟩:=Oo.mp m;let ⟨_,_,_,h,_⟩:=I.at e;NF h
theorem In.cells {ks:List Nat} {us:ag} {h:Heap} (I:In Z CA σ D h ks us):aF Z (mQ CA ks) us D h where
 len:=by rw [mQ,Nl,(iL I.g).1]
 nodup:=Ph.mpr fun i j li lj l e=>by
  obtain ⟨k,_,h1,h2,_⟩:=I.at (Nr li)
  obtain ⟨k',_,h1',h2',_⟩:=I.at (Nr lj)
  rw [e] at h2
  cases jY I.C.nodup h2 h2'
  exact absurd (jY I.nd h1 h1') (Q4 l)
 at_:=fun j a u e e'=>let ⟨k,u',_,h2,h3,h4⟩:=I.at e;I.C.at_ k a u h2 (h3.trans (h4.symm.trans e'))
 inD:=fun a m=>I.C.inD a (I.mem m)
theorem In.back {ks:List Nat} {us us':ag} {h h':Heap} {D':Addr→Prop} (I:In Z CA σ D h ks us) (k:aw (We (mQ CA ks)) h h') (c:aF Z (mQ CA ks) us' D' h') (sub:∀a,D a→D' a) (sup:∀a o,h.get? a=some o→D' a→D a):aF Z CA (pW ks us' σ) D' h' where
 len:=by rw [p9];exact I.C.len
 nodup:=I.C.nodup
 at_:=fun i a u e e'=>by
  have hl:us'.length=ks.length:=by rw [←c.len,mQ,Nl]
  by_cases m:i∈ks
  ·obtain ⟨j,hj⟩:=Oo.mp m
   refine Nf fun nG=> ?_
   obtain ⟨a',u',h3,h4,_⟩:=I.lt hj
   refine nG ?_
   rw [sD I.nd hl (Nq.mp h4).1 hj] at e'
   exact c.at_ j a u ((ur hj).trans (by rw [e];rfl)) e'
  ·rw [lF m] at e'
   refine (I.C.at_ i a u e e').mono (fun o g=>k a o g fun w=> ?_) fun b o d g=>⟨fun z=>d (sup b o g z),k b o g fun w=>d (I.C.inD b (I.mem w))⟩
   obtain ⟨j,hj⟩:=Oo.mp w
   obtain ⟨k',_,h1,h2,_⟩:=I.at hj
   cases jY I.C.nodup h2 e
   exact m (NF h1)
 inD:=fun a m=>sub a (I.C.inD a m)
theorem In.renum {h:Heap} {ks:List Nat} {us:ag} (I:In Z CA σ D h ks us) {vs:List Nk} {Us:List aA} (r:bS Z CA D h vs Us):∀{j:Nat},(∀i,(eN Us)[i]? =ks[j+i]?)→bS Z (mQ CA ks) D h vs (Internal.renum j Us):=by
 induction r with
 |nil=>exact fun _=> .nil
 | @cons v vs U Us x r ih=>
  intro j e
  cases U with
  |v u=>exact .cons (U:= .v u) x (ih e)
  |own u=>exact .cons (U:= .own u) x.elim (ih e)
  |cell k=>exact .cons (U:= .cell j) (let ⟨a,h1,h2⟩:=x;⟨a,(ur (e 0).symm).trans (by rw [h1];rfl),h2⟩) (ih fun i=>(e (i+1)).trans (by rw [Oq,OT i]))
theorem th (SC:pR Z n E) {f:Nat} {Us:List aA} {q:Ac×ag} {vs:List Nk} (e:cO E f Us σ=some q) (hq:q.1= .ok U) (R:aN n A) (G:Gd Z CA σ D s.heap) (r:bS Z CA D s.heap vs Us) {K:Qo→Nn→Prop}
  (h:∀v h' tk,aw (We CA) s.heap h'→aF Z CA q.2 D h'→(∀V,U.plain?=some V→iI Z s.heap CA q.2 D h' v V)→K (.ok (.ret v)) {s with heap:=h',toks:=tk}):Pr (model Z.prog Z.w) A (.call (.ref (Z.fa f)) ⟨vs,[]⟩) K s:=by
 refine Nf fun nG=> ?_
 refine aL e fun nd e=> ?_
 refine nG ?_
 refine af e fun us e1 e=>am e fun r1 e2 e=> ?_
 refine Nf fun nG=> ?_
 subst e
 have I:In Z CA σ D s.heap (eN Us) us:=⟨G.cells,nd,e1⟩
 obtain ⟨r0,τ⟩:=r1
 cases hq
 refine nG ?_
 refine SC f _ us U τ e2 A s vs (mQ CA (eN Us)) D R ⟨G.base,G.dabove,G.low,G.live,I.cells⟩ (I.renum r fun i=>by rw [Om]) K fun v h2 t2 k2 c2 r2=> ?_
 have kk:aw (We CA) s.heap h2:=k2.weaken fun b w=>I.mem w
 refine h v h2 t2 kk (I.back k2 c2 (fun _ d=>d) fun _ _ _ d=>d) fun V hV=> ?_
 cases U with
 |v u=>cases Ng hV;exact r2
 |cell k=>cases hV
 |own u=>
  refine Nf fun nG=> ?_
  cases Ng hV
  obtain ⟨a,q1,q2,q3,q4,q5⟩:=r2
  refine nG ?_
  exact ⟨a,q1,q2,q3,q4,I.back k2 q5 (fun _ d=> .inl d) fun b o g d=>d.elim id fun z=>by subst z;exact (ar q2 g).elim⟩
theorem E2 (O:Wd.Ok Z p loose mg mb) (SE:bK Z n E) (SC:pR Z n E) {f:Str} {np pos:Pos} {args:List Expr} {i:Nat} {cs:List CE} (hg:eW c f=true) (hf:Z.fname i=some f) (ha:d8 (au Z.fname k c) args cs=true)
  (EO:az env c) (S:St Z env c.vars ρ CA σ D s.heap) (R:aN n A) {r:List aA×ag} {q:Ac×ag} (e1:kL E cs ρ σ=some r) (e2:cO E i (r.1.map aA.bind) r.2=some q) (e3:q.1.opd?=some U):eJ Z A CA D q.2 U (eval (.Call (.Name f np) args [] pos) env) s:=by
 intro Q X h
 refine Nf fun nG=> ?_
 obtain ⟨o1,o2⟩:=O.fn i f hf
 obtain ⟨V,hV,hU⟩:∃V,q.1= .ok V∧V.plain?=some U:=by
  cases hq:q.1 with
  |ok V=>rw [hq] at e3;exact ⟨V,rfl,e3⟩
  |exc=>rw [hq] at e3;cases e3
 refine nG ?_
 refine Pk (ki O EO S.base hg o1 (iy (.inr (.inr o2)) (eg ha _ _).1 (jd SE EO R ha S e1 fun vs h1 t1 k1 c1 r1=> ?_)))
 have G1:=S.toGd.step k1 c1
 exact ⟨O.X.keeps G1.base,PV (th (s:={s with heap:=h1,toks:=t1}) SC e2 hV R G1 r1 fun v h2 t2 k2 c2 r2=>h v h2 t2 (k1.trans k2) c2 ((r2 U hU).older fun _ n=>S.toGd.alive k1 c1 n))⟩
theorem LU (O:Wd.Ok Z p loose mg mb) (M:xg Z) (SE:bK Z n E) {np pos:Pos} {args:List Expr} {kc:iG} {cs:List CE} (hg:eW c (cn kc)=true) (ha:d8 (au Z.fname k c) args cs=true)
  (EO:az env c) (S:St Z env c.vars ρ CA σ D s.heap) (R:aN n A) {q:List V×ag} {w:V} (ev:jC E cs ρ σ=some q) (ew:iB kc q.1=some w):eJ Z A CA D q.2 (.v w) (eval (.Call (.Name (cn kc) np) args [] pos) env) s:=fun Q X h=>
 Pk (ki O EO S.base hg (O.cls kc).1 (iy (.inr (.inr (O.cls kc).2)) (eg ha _ _).1 (io SE ha EO S R ev fun vs h1 t1 k1 c1 r1=>
  have G1:=S.toGd.step k1 c1
  ⟨O.X.keeps G1.base,PV (M kc q.1 w ew A {s with heap:=h1,toks:=t1} vs CA q.2 D (R.less (N5 _)) G1 r1 _ fun v h' tk g r=>h v h' tk (k1.trans (aw.of_all g)) (c1.grows g) r)⟩)))
theorem qp (b:Bf):A5 Z (Lk b):=by cases b<;>first|exact .inl ⟨_,rfl⟩|exact .inr (.inl ⟨_,rfl⟩)
theorem DY (O:Wd.Ok Z p loose mg mb) (SE:bK Z n E) {np pos:Pos} {args:List Expr} {b:Bf} {cs:List CE} (hg:eW c (bn b)=true) (ha:d8 (au Z.fname k c) args cs=true)
  (EO:az env c) (S:St Z env c.vars ρ CA σ D s.heap) (R:aN n A) {q:List V×ag} {w:V} (ev:rS E cs ρ σ=some q) (ew:vN b q.1=some w):eJ Z A CA D q.2 (.v w) (eval (.Call (.Name (bn b) np) args [] pos) env) s:=fun Q X h=>
 Pk (pb O EO S.base hg (O.bf b).1 (O.bf b).2.1 (O.bf b).2.2 (iy (qp b) (eg ha _ _).1 (zv SE ha EO S R ev fun vs h1 t1 k1 c1 r1=>
  have G1:=S.toGd.step k1 c1
  ⟨O.X.keeps G1.base,u8 (s:={s with heap:=h1,toks:=t1}) G1.live (fun d nd=>Gd.noSys O G1 d nd) R.calm r1 ew fun v h' tk g r=>h v h' tk (k1.trans (aw.of_all g)) (c1.grows g) r⟩)))
theorem Fj (O:Wd.Ok Z p loose mg mb) (SE:bK Z n E) (SC:pR Z n E) {o:Expr} {ce:CE} {m:EE} {apos pos:Pos} (ns:dR o=true) (hl:(apos.endLine==pos.line)=true) (hc:au Z.fname k c o ce=true)
  (EO:az env c) (S:St Z env c.vars ρ CA σ D s.heap) (R:aN n A) {r:V×ag} {pp:iG×List V} {i:Nat} {q:Ac×ag} (e1:eO E ce ρ σ=some r) (e2:r.1.inst?=some pp) (e3:Z.P.meth pp.1 m=some i) (e4:E.c i [.v r.1] []=some q) (e5:q.1.opd?=some U):
  eJ Z A CA D r.2 U (eval (.Call (.Attribute o (mn m) apos) [] [] pos) env) s:=by
 intro Q X h
 refine Nf fun nG=> ?_
 obtain ⟨kc,us⟩:=pp
 obtain ⟨m1,m2,m3,m4⟩:=O.meth _ _ _ e3
 refine nG ?_
 refine ik (k:=k) (c:=c) (cs:=[]) ns hl (by decide) rfl (cT SE hc EO S R e1 fun v h1 t1 k1 c1 r1=>fun pl=> ?_)
 have S1:=S.step k1 c1
 have r1':eE Z [] D h1 v (.v r.1):=r1
 have ec:cO E i [.v r.1] []=some (q.1,[]):=by show (E.c i [.v r.1] []).map _=_;rw [e4];rfl
 have hV:∃V,q.1= .ok V∧V.plain?=some U:=by
  cases hq:q.1 with
  |ok V=>rw [hq] at e5;exact ⟨V,rfl,e5⟩
  |exc=>rw [hq] at e5;cases e5
 refine Nf fun nG=> ?_
 obtain ⟨V,hV,hU⟩:=hV
 have G0:Gd Z [] [] D h1:=⟨S1.base,S1.dabove,S1.low,S1.live,⟨rfl,Q9,fun k a u e _=>(nomatch e),fun a m=>(nomatch m)⟩⟩
 obtain ⟨a,dx,es,nn,rfl,g1,g2,K,_⟩:=(mR e2▸r1:b8 Z D h1 v (.inst kc us)).toInst
 obtain ⟨mm,F⟩:=St.fr (s:={s with heap:=h1,toks:=t1}) S1
 refine nG ?_
 refine method_inst (s:={s with heap:=h1,toks:=t1}) F O.X ⟨g1,rfl,rfl,g2⟩ m1 m2 m3 (zo K fun f hf=>O.noFld _ _ f hf) ?_
 refine iy (.inr (.inr m4)) rfl (Pj ⟨O.X.keeps S1.base,PV ?_⟩)
 refine th (s:={s with heap:=h1,toks:=t1}) (CA:=[]) SC ec hV R G0 (.cons r1' .nil) fun v h2 t2 k2 c2 r2=> ?_
 refine h v h2 t2 (k1.trans (k2.weaken fun b w=>nomatch w)) (c1.keep k2 fun b w=>nomatch w) ?_
 have r2:=r2 U hU
 cases U with
 |v u=>exact r2
 |cell k=>cases V<;>first|exact aA.noConfusion (Ng hU)|cases hU
 |own u=>
  obtain ⟨x,q1,q2,q3,q4,q5⟩:=r2
  exact ⟨x,q1,S.toGd.alive k1 c1 q2,q3,q4,c1.grow (fun b o e=>k2 b o e fun w=>nomatch w) (fun b o e dd=>dd.elim id fun z=>(ar q2 (z▸e)).elim) fun b d=> .inl d⟩
theorem oM (O:Wd.Ok Z p loose mg mb) (SE:bK Z n E) {o:Expr} {ce:CE} {m:Mf} {apos pos:Pos} {args:List Expr} {cs:List CE} (ns:dR o=true) (hl:(apos.endLine==pos.line)=true) (hn:args.length <20)
  (hc:au Z.fname k c o ce=true) (ha:d8 (au Z.fname k c) args cs=true) (EO:az env c) (S:St Z env c.vars ρ CA σ D s.heap) (R:aN n A) {q:aA×ag} (ev:qf Z.P E m ce cs ρ σ=some q):
  eJ Z A CA D q.2 q.1 (eval (.Call (.Attribute o (I7 m) apos) args [] pos) env) s:=by
 intro Q X h
 refine af ev fun r e1 ev=>af ev fun u e2 ev=>af ev fun r' e3 ev=> ?_
 refine aL ev fun e4 ev=> ?_
 refine am ev fun w e5 ev=> ?_
 subst ev
 refine ik (k:=k) (c:=c) ns hl hn ha (SE k c o ce hc env A s ρ σ CA D r.1 r.2 EO S R e1 _ _ fun v h1 t1 k1 c1 r1=>fun pl=> ?_)
 have S1:=S.step k1 c1
 have rv:eE Z CA D h1 v r.1.bind:=r1.bindV fun a=>S.toGd.fresh_notD
 refine wl (s:={s with heap:=h1,toks:=t1}) (rv.rd c1 e2) (sK e5) ?_
 refine iy (.inl ⟨_,rfl⟩) (eg ha _ _).1 (io (s:={s with heap:=h1,toks:=t1}) SE ha EO S1 R e3 fun vs h2 t2 k2 c2 r2=> ?_)
 have S2:=S1.step k2 c2
 exact ⟨O.X.keeps S2.base,C7 (s:={s with heap:=h2,toks:=t2}) O.splits S2.live (pY R) ((rv.mono (S1.toGd.old k2)).rd c2 e4) r2 e5 fun v h' tk g r=>h v h' tk ((k1.trans k2).trans (aw.of_all g)) (c2.grows g) r⟩
theorem aF.change {h h':Heap} (C:aF Z CA σ D h) {i:Nat} {a:Addr} (hi:CA[i]? =some a) (k:Pe a h h') {u:V} (ct:gE Z D h' a u):aF Z CA (σ.set i u) D h' where
 len:=by rw [Ot];exact C.len
 nodup:=C.nodup
 at_:=fun j b w e1 e2=>by
  by_cases hj:i=j
  ·subst hj
   cases Ng (hi.symm.trans e1)
   rw [Ob (by rw [←C.len];exact (Nq.mp hi).1)] at e2
   exact Ng e2▸ct
  ·rw [Oe hj] at e2
   exact (C.at_ j b w e1 e2).mono (fun o e=>(k.2 b fun z=>hj (jY C.nodup hi (z▸e1))).trans e) fun x o d e=>⟨d,(k.2 x fun z=>d (z▸C.inD a (NF hi))).trans e⟩
 inD:=C.inD
theorem su {i:Nat} (e:U.cell?=some i):U= .cell i:=by
 cases U with
 |v u=>cases e
 |own u=>cases e
 |cell k=>exact Nt aA.cell (Ng e)
theorem pM {τ:ag} {i:Nat} {us:List V} (e:(τ[i]?).bind V.lst?=some us):τ[i]? =some (.lst us):=af e fun w e1 e2=>f7 e2▸e1
theorem Ct (O:Wd.Ok Z p loose mg mb) (SE:bK Z n E) {o:Expr} {ce:CE} {cs:List CE} {apos pos:Pos} {args:List Expr} (ns:dR o=true) (hl:(apos.endLine==pos.line)=true) (hn:args.length <20)
  (hc:au Z.fname k c o ce=true) (ha:d8 (au Z.fname k c) args cs=true) (EO:az env c) (S:St Z env c.vars ρ CA σ D s.heap) (R:aN n A) {q:aA×ag} (ev:kC E ce cs ρ σ=some q):
  eJ Z A CA D q.2 q.1 (eval (.Call (.Attribute o (I7 .append) apos) args [] pos) env) s:=by
 intro Q X h
 refine af ev fun ca e0 ev=>af ev fun r e1 ev=>af ev fun i e2 ev=>af ev fun us0 e3 ev=>af ev fun x e4 ev=>af ev fun us e5 ev=> ?_
 refine Nf fun nG=> ?_
 refine aL ev fun hz ev=> ?_
 cases Ng ev
 refine nG ?_
 refine ik (k:=k) (c:=c) ns hl hn ha (SE k c o ce hc env A s ρ σ CA D r.1 r.2 EO S R e1 _ _ fun v h1 t1 k1 c1 r1=>fun pl=> ?_)
 obtain ⟨a,hka,rfl⟩:∃a,CA[i]? =some a∧v= .ref a:=(su e2▸r1:iI Z s.heap CA r.2 D h1 v (.cell i))
 have S1:=S.step k1 c1
 refine wl (s:={s with heap:=h1,toks:=t1}) (m:= .append) (w:= .lst us0) (.inr ⟨a,rfl,c1.at_ _ _ _ hka (pM e3)⟩) ⟨_,rfl⟩ ?_
 have e4':jC E cs ρ r.2=some ([x.1],x.2):=by
  rw [gO e0]
  exact af e4 fun r1 f1 e=>af e fun w f2 e=>by cases Ng e;simp only [jC,kL,f1,NK,toVs,f2]
 refine iy (.inl ⟨_,rfl⟩) (eg ha _ _).1 (io (s:={s with heap:=h1,toks:=t1}) SE ha EO S1 R e4' fun vs h2 t2 k2 c2 r2=> ?_)
 refine Nf fun nG=> ?_
 obtain ⟨w,rfl,rw⟩:=r2.one
 refine nG ?_
 refine ⟨O.X.keeps (S1.step k2 c2).base,?_⟩
 have hz':=Nu hz
 refine Nf fun nG=> ?_
 obtain ⟨_,items,hp,ri⟩:=c2.at_ _ _ _ hka (pM e5)
 refine nG ?_
 have hm:a∈CA:=NF hka
 have hD:=c2.inD a hm
 show Ny _ _ (call (.builtin "list.append") [.ref a,w]) _ _ _
 refine SK (hsz:=by have len:=ri.length;rw [OH] at len;show items.size≤16777216;omega) (s:={s with heap:=h2,toks:=t2}) hp fun h3 hp3 hs3=> ?_
 have old:∀b o,¬D b→h2.get? b=some o→¬D b∧h3.get? b=some o:=fun b o d e=>⟨d,(hs3.2 b fun z=>d (z▸hD)).trans e⟩
 exact h _ h3 t2 ((k1.trans k2).trans (aw.sameBut hs3 hm)) (c2.change hka hs3 ⟨by rw [Nj];exact hz',_,hp3,by rw [UH];exact (ri.mono old).append (.cons (rw.mono old) .nil)⟩) .none
theorem KR (O:Wd.Ok Z p loose mg mb) (SE:bK Z n E) {o:Expr} {ce:CE} {cs:List CE} {apos pos:Pos} {args:List Expr} (ns:dR o=true) (hl:(apos.endLine==pos.line)=true) (hn:args.length <20)
  (hc:au Z.fname k c o ce=true) (ha:d8 (au Z.fname k c) args cs=true) (EO:az env c) (S:St Z env c.vars ρ CA σ D s.heap) (R:aN n A) {q:aA×ag} (ev:D6 E ce cs ρ σ=some q):
  eJ Z A CA D q.2 q.1 (eval (.Call (.Attribute o (I7 .pop) apos) args [] pos) env) s:=by
 intro Q X h
 refine aL (c:=cs.isEmpty=true) ev fun h0 ev=> ?_
 cases aE h0
 have hargs:args=[]:=by cases args with|nil=>rfl|cons _ _=>cases ha
 subst hargs
 refine af ev fun r e1 ev=>af ev fun i e2 ev=>af ev fun us e3 ev=>am ev fun x e4 ev=> ?_
 subst ev
 refine ik (k:=k) (c:=c) (cs:=[]) ns hl hn rfl (SE k c o ce hc env A s ρ σ CA D r.1 r.2 EO S R e1 _ _ fun v h1 t1 k1 c1 r1=>fun pl=> ?_)
 obtain ⟨a,hka,rfl⟩:∃a,CA[i]? =some a∧v= .ref a:=(su e2▸r1:iI Z s.heap CA r.2 D h1 v (.cell i))
 have ct:=c1.at_ _ _ _ hka (pM e3)
 refine wl (s:={s with heap:=h1,toks:=t1}) (m:= .pop) (w:= .lst us) (.inr ⟨a,rfl,ct⟩) ⟨_,rfl⟩ ?_
 refine iy (.inl ⟨_,rfl⟩) rfl (Pj ⟨O.X.keeps (S.step k1 c1).base,?_⟩)
 refine Nf fun nG=> ?_
 obtain ⟨hz,items,⟨nn,hp⟩,ri⟩:=ct
 have len:=ri.length
 rw [OH] at len
 have hm:a∈CA:=NF hka
 have hD:=c1.inD a hm
 have hpos:0 <us.length:=List.length_pos_iff.mpr fun z=>by subst z;cases e4
 obtain ⟨y,hy,ry⟩:=ri.get (k:=us.length -1) (by rw [←List.getLast?_eq_getElem?];exact e4)
 refine nG ?_
 refine Copied.pop_at (s:={s with heap:=h1,toks:=t1}) (hsz:=by show items.size≤16777216;omega) hp (by rw [←On,len];exact hy) fun h3 hs3 hg3=> ?_
 have old:∀b o,¬D b→h1.get? b=some o→¬D b∧h3.get? b=some o:=fun b o d e=>⟨d,(hs3.2 b fun z=>d (z▸hD)).trans e⟩
 exact h y h3 t1 (k1.trans (aw.sameBut hs3 hm)) (c1.change hka hs3 ⟨by rw [Rt];omega,_,⟨_,hg3⟩,by rw [Array.toList_pop];exact (ri.mono old).dropLast⟩) (ry.mono old)
end
structure gq (Z:Wd) (D:Addr→Prop) (h:Heap) (T:Q3) (l:Addr) (items:P5 Nk) (i:Nat) (xs:List V):Prop where
 nd:¬D l
 ob:∃o n,h.get? l=some o∧o.cls= .type T∧o.data= .seq items n
 rep:ak Z D h (items.toList.drop i) xs
inductive dZ (Z:Wd) (D:Addr→Prop) (h:Heap) (I J:Addr) (two:Bool) (xs:List V):Prop
 |lst {l:Addr} {items:P5 Nk} {i:Nat}:J=I→h.IsListIter I l i→gq Z D h "list" l items i xs→dZ Z D h I J two xs
 |tup {l:Addr} {items:P5 Nk} {i:Nat}:J=I→two=false→h.IsTupleIter I l i→gq Z D h "tuple" l items i xs→dZ Z D h I J two xs
 |rng {x c:Int} {n:Nat}:J=I→two=false→IsRangeIter h I x n c→xs=((OV n).map fun (i:Nat)=>V.int (x+(i:Int)*c))→dZ Z D h I J two xs
 |key {d:Addr} {i ep:Nat} {kvs:List (Str×Nk)} {ks:List Sg}:J=I→two=false→h.IsKeyIter I d i kvs.length ep→¬D d→h.DictAt (Op Z.prog Z.w) d kvs ep→(kvs.map (·.1)).drop i=ks.map bF→ks.all eV=true→xs=qz ks→dZ Z D h I J two xs
 |enm {l:Addr} {items:P5 Nk} {i:Nat} {ys:List V} {old:Nk}:I≠J→two=true→IsEnum h I J i old→h.IsListIter J l i→gq Z D h "list" l items i ys→xs=jm i ys→dZ Z D h I J two xs
section
variable {Z:Wd} {D D':Addr→Prop} {h h':Heap} {I J:Addr} {two:Bool} {xs:List V}
theorem gq.mono {T:Q3} {l:Addr} {items:P5 Nk} {i:Nat} (s:gq Z D h T l items i xs) (k:∀b o,¬D b→h.get? b=some o→¬D' b∧h'.get? b=some o):gq Z D' h' T l items i xs:=
 let ⟨o,n,g,q⟩:=s.ob;⟨(k _ _ s.nd g).1,⟨o,n,(k _ _ s.nd g).2,q⟩,s.rep.mono k⟩
theorem sV {l:Addr} {i:Nat} (a:h.IsTupleIter I l i) (hI:∀o,h.get? I=some o→h'.get? I=some o):h'.IsTupleIter I l i:=let ⟨o,p,q⟩:=a;⟨o,hI o p,q⟩
theorem iS {d:Addr} {kvs:List (Str×Nk)} {ep:Nat} (g:h.DictAt (Op Z.prog Z.w) d kvs ep) (nd:¬D d) (k:∀b o,¬D b→h.get? b=some o→¬D' b∧h'.get? b=some o):¬D' d∧h'.DictAt (Op Z.prog Z.w) d kvs ep:=
 let ⟨o,es,g,q⟩:=g;⟨(k _ _ nd g).1,o,es,(k _ _ nd g).2,q⟩
theorem dZ.mono (t:dZ Z D h I J two xs) (hI:∀o,h.get? I=some o→h'.get? I=some o) (hJ:∀o,h.get? J=some o→h'.get? J=some o)
  (k:∀b o,¬D b→h.get? b=some o→¬D' b∧h'.get? b=some o):dZ Z D' h' I J two xs:=by
 cases t with
 |lst e a s=>exact .lst e (a.at hI) (s.mono k)
 |tup e w a s=>exact .tup e w (sV a hI) (s.mono k)
 |rng e w a x=>exact .rng e w (hI _ a) x
 |key e w a d g c z x=>exact .key e w (a.at hI) (iS g d k).1 (iS g d k).2 c z x
 |enm e w a a' s x=>exact .enm e w (hI _ a) (a'.at hJ) (s.mono k) x
end
noncomputable def jX (t:Expr):Nh Bool:=if t.ctorIdx=23 then some false else if t.ctorIdx=25 then some true else none
theorem zh {t:Expr} (h:jX t=some false):∃x p,t= .Name x p:=by
 by_cases q:t.ctorIdx=23
 ·exact RW (motive_1:=fun t=>∃x p,t= .Name x p) t q fun x p=>⟨x,p,rfl⟩
 ·rw [jX,NV q] at h
  exact absurd (bU h).2 (by decide)
theorem rF {t:Expr} (h:jX t=some true):∃es n p,t= .Tuple es n p:=by
 by_cases q:t.ctorIdx=23
 ·rw [jX,NG q] at h;cases h
 ·rw [jX,NV q] at h
  exact RE (motive_1:=fun t=>∃es n p,t= .Tuple es n p) t (bU h).1 fun x n p=>⟨x,n,p,rfl⟩
section
variable {Z:Wd} {A:N4} {X:Nk→Nn→Prop} {s:Nn} {D:Addr→Prop} {I J:Addr} {two:Bool}
theorem ky {target:Expr} {it v:Nk} {Q:Unit→Nn→Prop} (ht:jX target=some false) (h:Q () s):Ny (model Z.prog Z.w) A (PZ target it v) Q X s:=by
 obtain ⟨x,p,rfl⟩:=zh ht
 exact NE h
noncomputable def tv (Z:Wd) (A:N4) (D:Addr→Prop) (I J:Addr) (two:Bool) (target:Expr) (s:Nn) (x:V) (xs:List V) (v:Nk) (s₁:Nn):Prop:=
 ∀(Q:Unit→Nn→Prop) (X:Nk→Nn→Prop),(∀h' tk,aw (fun b=>b=I∨b=J) s.heap h'→dZ Z D h' I J two xs→(∃o,h'.get? I=some o)→(∃o,h'.get? J=some o)→b8 Z D h' v x→Q () {s with heap:=h',toks:=tk})→
  Ny (model Z.prog Z.w) A (PZ target (.ref I) v) Q X s₁
theorem gJ {h:Heap} {I l:Addr} {i:Nat} (a:h.IsListIter I l i):∃o,h.get? I=some o:=let ⟨o,p,_⟩:=a;⟨o,p⟩
theorem mE {h:Heap} {I l:Addr} {i:Nat} (a:h.IsTupleIter I l i):∃o,h.get? I=some o:=let ⟨o,p,_⟩:=a;⟨o,p⟩
theorem mC {h:Heap} {I d:Addr} {i n ep:Nat} (a:h.IsKeyIter I d i n ep):∃o,h.get? I=some o:=let ⟨o,p,_⟩:=a;⟨o,p⟩
theorem oR {h:Heap} {T:Q3} {l:Addr} {items:P5 Nk} {i:Nat} {x:V} {xs:List V} (s:gq Z D h T l items i (x::xs)):∃v,items[i]? =some v∧b8 Z D h v x∧ak Z D h (items.toList.drop (i+1)) xs:=
 let ⟨v,hv,r⟩:=s.rep.dropCons;⟨v,by rw [←On];exact hv,r⟩
theorem gq.next {h h':Heap} {T:Q3} {l:Addr} {items:P5 Nk} {i:Nat} {x:V} {xs:List V} (s:gq Z D h T l items i (x::xs)) (k:∀b o,¬D b→h.get? b=some o→¬D b∧h'.get? b=some o):gq Z D h' T l items (i+1) xs:=
 gq.mono ⟨s.nd,s.ob,let ⟨_,_,_,r⟩:=oR s;r⟩ k
theorem rH {target:Expr} {x:V} {xs:List V} (ht:jX target=some two) (L:iE D s.heap) (t:dZ Z D s.heap I J two (x::xs)) (hI:D I) (hJ:D J) {Q0:Nh Nk→Nn→Prop} (htwo:two=true→∃us,x= .tup us)
  (h0:∀v s₁,tv Z A D I J two target s x xs v s₁→Q0 (some v) s₁):
  Ny (model Z.prog Z.w) A (pyNext (.ref I)) Q0 X s:=by
 have old:∀{h':Heap},(∀b o,b≠I→b≠J→s.heap.get? b=some o→h'.get? b=some o)→∀b o,¬D b→s.heap.get? b=some o→¬D b∧h'.get? b=some o:=
  fun k b o d e=>⟨d,k b o (fun z=>d (z▸hI)) (fun z=>d (z▸hJ)) e⟩
 have kp:∀{h':Heap},Pe I s.heap h'→aw (fun b=>b=I∨b=J) s.heap h':=fun sb=>aw.sameBut sb (.inl rfl)
 have kk:∀{h':Heap},Pe I s.heap h'→∀b o,¬D b→s.heap.get? b=some o→¬D b∧h'.get? b=some o:=fun sb=>old fun b o n1 _ e=>sb.extBut b o n1 e
 cases t with
 |lst e a q=>
  refine Nf fun nG=> ?_
  obtain ⟨v,hv,rv,_⟩:=oR q
  obtain ⟨o,n,g,c,y⟩:=q.ob
  refine nG ?_
  refine S0 a ⟨o,g,c,n,y⟩ hv fun h' a' sb=>h0 _ _ fun Q X h=> ?_
  have fin:=h h' s.toks (kp sb) (.lst e a' (q.next (kk sb))) (gJ a') (e▸gJ a') (rv.mono (kk sb))
  cases two with
  |false=>exact ky ht fin
  |true=>
   refine Nf fun nG=> ?_
   obtain ⟨us,rfl⟩:=htwo rfl
   obtain ⟨es,n',p,rfl⟩:=rF ht
   obtain ⟨b,its,rfl,_⟩:=rv.rd.tup
   refine nG ?_
   exact wpAny_letOwnedTupleGo_listiter (s:={s with heap:=h'}) a' fin
 |tup e w a q=>
  subst w
  obtain ⟨v,hv,rv,_⟩:=oR q
  obtain ⟨o,n,g,c,y⟩:=q.ob
  exact wpAny_pyNext_tuple_item a ⟨o,g,c,n,y⟩ hv fun h' a' sb=>h0 _ _ fun Q X h=>ky ht (h h' s.toks (kp sb) (.tup e rfl a' (q.next (kk sb))) (mE a') (e▸mE a') (rv.mono (kk sb)))
 | @rng y c n e w a z=>
  subst w
  cases n with
  |zero=>cases z
  |succ n=>
   rw [PN,NA,OG] at z
   obtain ⟨e1,e2⟩:=OO z
   refine wpAny_pyNext_range_item a (QL.mpr (OA n)) fun h' a' sb=>h0 _ _ fun Q X h=>ky ht (h h' _ (kp sb) (.rng e rfl (x:=y+c) (c:=c) (n:=n) ?_ ?_) ⟨_,a'⟩ (e▸⟨_,a'⟩) ?_)
   ·rw [show ((n+1:Nat):Int) -1=(n:Int) by rw [Qf];exact R1 _ _] at a';exact a'
   ·rw [e2]
    refine Pz fun i _=> ?_
    show V.int (y+((i+1:Nat):Int)*c)=V.int (y+c+(i:Int)*c)
    rw [Qf,Int.add_mul,Int.one_mul,UC ((i:Int)*c) c,Int.add_assoc]
   ·rw [e1]
    show b8 Z D h' _ (.int (y+((0:Nat):Int)*c))
    rw [U5,Int.zero_mul,Int.add_zero]
    exact .int _ _
 | @key dd i ep kvs ks e w a d g c zk z=>
  subst w
  cases ks with
  |nil=>cases z
  |cons k ks=>
   refine Nf fun nG=> ?_
   obtain ⟨e1,e2⟩:=OO z
   obtain ⟨c1,c2⟩:=m8 c
   rw [OF] at c1
   refine am c1 fun p hq c1=> ?_
   refine nG ?_
   refine wpAny_pyNext_dict_item (k:=p.1) (v:=p.2) a g hq fun key h' hk a' sb=>h0 _ _ fun Q X h=> ?_
   obtain ⟨t,rfl⟩:=TT hk
   rw [e1,e2] at h
   exact ky ht (h h' s.toks (kp sb) (.key e rfl a' d (iS g d (kk sb)).2 c2 (ac zk).2 rfl) (mC a') (e▸mC a') (by rw [c1];exact .str _ _ (ac zk).1))
 | @enm l items i ys old' e w a a1 q z=>
  refine Nf fun nG=> ?_
  subst w
  refine nG ?_
  cases ys with
  |nil=>cases z
  |cons u ys=>
   refine Nf fun nG=> ?_
   obtain ⟨e1,e2⟩:=OO z
   rw [e1,e2] at h0
   obtain ⟨v,hv,rv,_⟩:=oR q
   obtain ⟨o,n,g,c,y⟩:=q.ob
   obtain ⟨es,n',p,rfl⟩:=rF ht
   refine nG ?_
   refine wpAny_pyNext_enum_item a a1 ⟨o,g,c,n,y⟩ hv e fun h' b1 b2 b3 b4 b5=>h0 _ _ fun Q X h=> ?_
   refine wpAny_letOwnedTupleGo_enum (s:={s with heap:=h',toks:=s.toks+1}) b1 fun h'' d1 d2=> ?_
   have nI:s.heap.objs.size≠I:=fun z=>by have:=NY a;rw [z] at this;exact Ou _ this
   have k2:∀b o,b≠I→b≠J→s.heap.get? b=some o→h''.get? b=some o:=fun b o n1 n2 e=>d2.extBut b o n1 (b5 b o n1 n2 e)
   have hJ':h''.IsListIter J l (i+1):=b2.extBut d2.extBut (TO e)
   exact h h'' (s.toks+1) (fun b o e n=>k2 b o (fun z=>n (.inl z)) (fun z=>n (.inr z)) e) (.enm e rfl d1 hJ' (q.next (old k2)) rfl) ⟨_,d1⟩ (gJ hJ')
    (.tup (n:=0) (Oy rfl) (fun q=>let ⟨o,eo⟩:=L _ q;Ou _ (NY eo)) (d2.extBut _ _ nI b3) rfl rfl (.cons (.int _ _) (.cons (rv.mono (old k2)) .nil)))
theorem vq (hh:A.handled=none) (t:dZ Z D s.heap I J two []) {Q:Nh Nk→Nn→Prop}
  (h:∀h' tk,aw (fun b=>b=I∨b=J) s.heap h'→Q none {s with heap:=h',toks:=tk}):
  Ny (model Z.prog Z.w) A (pyNext (.ref I)) Q X s:=by
 have kp:∀{a:Addr} {h':Heap},(a=I∨a=J)→Heap.ExtBut a s.heap h'→aw (fun b=>b=I∨b=J) s.heap h':=fun q sb=>aw.extBut sb q
 cases t with
 |lst e a q=>
  refine Nf fun nG=> ?_
  obtain ⟨o,n,g,c,y⟩:=q.ob
  refine nG ?_
  exact Tl hh a ⟨o,g,c,n,y⟩ (by rw [←On];exact q.rep.dropNil) fun h' sb=>h h' _ (kp (.inl rfl) sb)
 |tup e w a q=>
  obtain ⟨o,n,g,c,y⟩:=q.ob
  exact wpAny_pyNext_tuple_end hh a ⟨o,g,c,n,y⟩ (by rw [←On];exact q.rep.dropNil) fun h' sb=>h h' _ (kp (.inl rfl) sb)
 | @rng y c n e w a z=>
  cases n with
  |succ n=>rw [PN] at z;cases z
  |zero=>exact wpAny_pyNext_range_end hh a (by decide) fun h' sb=>h h' _ (kp (.inl rfl) sb)
 | @key dd i ep kvs ks e w a d g c zk z=>
  cases ks with
  |cons k ks=>cases z
  |nil=>
   have hl:kvs.length≤i:=by
    have:=Nt PR c
    rw [O2,Nl] at this
    exact Nat.le_of_sub_eq_zero this
   exact wpAny_pyNext_dict_end hh a g (OR hl) fun h' sb=>h h' _ (kp (.inl rfl) sb)
 | @enm l items i ys old' e w a a1 q z=>
  cases ys with
  |cons u ys=>cases z
  |nil=>
   refine Nf fun nG=> ?_
   obtain ⟨o,n,g,c,y⟩:=q.ob
   refine nG ?_
   exact wpAny_pyNext_enum_end hh a a1 ⟨o,g,c,n,y⟩ (by rw [←On];exact q.rep.dropNil) fun h' sb=>h h' _ (kp (.inr rfl) sb)
theorem qY {xs:List V} (t:dZ Z D s.heap I J two xs) {Q:Nk→Nn→Prop} (h:Q (.ref I) s):Ny (model Z.prog Z.w) A (pyIter (.ref I)) Q X s:=by
 cases t with
 |lst e a _=>exact wpAny_pyIter_listiter a h
 |tup e _ a _=>exact wpAny_pyIter_tupleiter a h
 |rng e _ a _=>exact wpAny_pyIter_rangeiter a h
 |key e _ a _ _ _ _ _=>exact wpAny_pyIter_keyiter a h
 |enm e _ a _ _ _=>exact UI a h
end
end
section
open PySem PySem.W PyProof.Rows
theorem gi {h:Heap} {a:Addr} (l:h.objs.size≤a):h.get? a=none:=by
 cases q:h.get? a with
 |none=>rfl
 |some o=>exact absurd (NY q) (Pt.mpr l)
structure dM (Z:Wd) (h h':Heap) (a:Addr):Prop where
 none:h.get? a=none
 base:Z.base.objs.size≤a
 live:∃o,h'.get? a=some o
section
variable {Z:Wd} {A:N4} {X:Nk→Nn→Prop} {s:Nn} {D:Addr→Prop} {two:Bool}
theorem Dq {h:Heap} {b:Addr} {o:Obj} (d:¬D b) (e:h.get? b=some o):¬DI D h.objs.size h.objs.size b:=
 fun z=>z.elim d fun z=>Ou _ (z.elim (fun z=>z▸NY e) fun z=>z▸NY e)
theorem CB {v:Nk} {u:V} {xs:List V} (r:b8 Z D s.heap v u) (hx:u0 u=some xs) {Q:Nk→Nn→Prop}
  (h:∀I h' tk,bM s.heap h'→s.heap.objs.size≤I→(∃o,h'.get? I=some o)→dZ Z (DI D I I) h' I I false xs→Q (.ref I) {s with heap:=h',toks:=tk}):
  Ny (model Z.prog Z.w) A (pyIter v) Q X s:=by
 have old:∀{it:Obj} b o,¬D b→s.heap.get? b=some o→¬DI D s.heap.objs.size s.heap.objs.size b∧(s.heap.push it).get? b=some o:=fun b o d e=>⟨Dq d e,NM _ e⟩
 cases r<;>first|(cases hx;done)|skip
 ·rename_i a o items n us z d g c e r
  refine Nf fun nG=> ?_
  cases Ng hx
  refine nG ?_
  exact wpAny_pyIter_tuple ⟨o,g,c,n,e⟩ (h _ _ s.toks (aG _ _) (Nz _) ⟨_,N1 _ rfl⟩ (.tup rfl rfl ⟨_,N1 _ rfl,rfl,rfl⟩ (gq.mono ⟨d,⟨o,n,g,c,e⟩,r⟩ old)))
 ·rename_i a o items n us z d g c x e r
  cases Ng hx
  exact Sc ⟨o,g,c,n,e⟩ (h _ _ s.toks (aG _ _) (Nz _) ⟨_,N1 _ rfl⟩ (.lst rfl ⟨_,N1 _ rfl,rfl,rfl⟩ (gq.mono ⟨d,⟨o,n,g,c,e⟩,r⟩ old)))
 ·rename_i a kvs ks us z d sm dof e r
  cases Ng hx
  obtain ⟨ep,da⟩:=dof.dictAt
  exact wpAny_pyIter_dict sm da (h _ _ s.toks (aG _ _) (Nz _) ⟨_,N1 _ rfl⟩ (.key rfl rfl (i:=0) ⟨_,N1 _ rfl,rfl,rfl⟩ (let ⟨_,_,g,_⟩:=da;Dq d g) (iS da d old).2 (by rw [Q7];exact e) z rfl))
theorem vr {a:Int} (h:a.natAbs <1099511627776): -(2^62)≤a∧a <2^62:=by omega
theorem ru {a b:Int} (ha:a.natAbs <1099511627776) (hb:b.natAbs <1099511627776):QU a b (-1)=((a -b).toNat:Int)∧RK a b (-1)=true:=
 ⟨rangeSize_downNat a b,small_down (vr ha).1 (vr ha).2 (vr hb).1 (vr hb).2⟩
theorem sA {a b:Int} (ha:a.natAbs <1099511627776) (hb:b.natAbs <1099511627776):QU a b 1=((b -a).toNat:Int)∧RK a b 1=true:=
 ⟨rangeSize_nat a b,small_one (vr ha).1 (vr ha).2 (vr hb).1 (vr hb).2⟩
theorem qt {a b c:Int} {xs:List V} (e:jW a b c=some xs):RK a b c=true∧(c=1∨c= -1)∧∃n:Nat,QU a b c=n∧xs=(OV n).map fun (i:Nat)=>V.int (a+(i:Int)*c):=by
 refine aL e fun h e=> ?_
 have h1:=Nu (ac h).1
 have h2:=Nu (ac h).2
 by_cases q:c=1
 ·subst q
  cases Ng ((NG rfl).symm.trans e)
  exact ⟨(sA h1 h2).2,.inl rfl,_,(sA h1 h2).1,Pz fun i _=>by rw [Vi]⟩
 ·refine aL ((NV q).symm.trans e) fun q' e=> ?_
  subst q'
  cases Ng e
  exact ⟨(ru h1 h2).2,.inr rfl,_,(ru h1 h2).1,Pz fun i _=>by rw [Int.mul_neg,Vi,Int.sub_eq_add_neg]⟩
theorem Cw {r:Addr} {a b c:Int} {t u v:Tok} (hr:IsRange s.heap r a b c t u v) {xs:List V} (e:jW a b c=some xs) {Q:Nk→Nn→Prop}
  (h:∀I h' tk,bM s.heap h'→s.heap.objs.size≤I→(∃o,h'.get? I=some o)→dZ Z (DI D I I) h' I I false xs→Q (.ref I) {s with heap:=h',toks:=tk}):
  Ny (model Z.prog Z.w) A (pyIter (.ref r)) Q X s:=by
 obtain ⟨e2,_,n,e1,e3⟩:=qt e
 exact wpAny_pyIter_range hr e2 (h _ _ s.toks (aG _ _) (Nz _) ⟨_,N1 _ rfl⟩ (.rng rfl rfl (by rw [e1];exact N1 _ rfl) e3))
end
section
variable {Z:Wd} {n:Nat} {E:Ev} {c:Ctx} {env:Env} {A:N4} {s:Nn} {ρ:Loc} {σ σ':ag} {CA:List Addr} {D:Addr→Prop} {X:Nk→Nn→Prop} {p:N2} {loose:List Str} {mg mb:Str→Nh Nk} {k:Nat}
noncomputable def Gq:It→Bool
 | .enum _=>true
 |_=>false
theorem dM.of {h h1 h2:Heap} (G:Gd Z CA σ D h) (k:aw (We CA) h h1) (c:aF Z CA σ' D h1) {a:Addr} (l:h1.objs.size≤a) (e:∃o,h2.get? a=some o):dM Z h h2 a:=
 ⟨G.alive k c (gi l),Ni (NP (G.step k c).size) l,e⟩
theorem aF.di {h1 h2:Heap} (c:aF Z CA σ D h1) (g:bM h1 h2) {I J:Addr} (hI:h1.objs.size≤I) (hJ:h1.objs.size≤J):aF Z CA σ (DI D I J) h2:=
 c.grow g (fun b o e d=>d.elim id fun z=>z.elim (fun z=>by subst z;exact (ar (gi hI) e).elim) (fun z=>by subst z;exact (ar (gi hJ) e).elim)) fun b d=> .inl d
theorem Di {vs:List Nk} {us:List V} {h:Heap} (r:ak Z D h vs us):∀{f:Int→List V→Nh (List V)} {xs:List V},(yW us fun a r=>a.int?.bind fun a=>f a r)=some xs→∃i t vs' us',vs= .int i t::vs'∧ak Z D h vs' us'∧f i us'=some xs:=by
 intro f xs e
 cases r with
 |nil=>cases e
 |cons x r=>exact af e fun i e1 e=>let ⟨t,h⟩:=Rd.int (cX e1▸x).rd;⟨i,t,_,_,by rw [h],r,e⟩
theorem vW {P:Prop} {vs:List Nk} {us:List V} {h:Heap} {xs:List V} (r:ak Z D h vs us) (e:iD us=some xs) (K1:∀b t,vs=[.int b t]→jW 0 b 1=some xs→P) (K2:∀a b t t',vs=[.int a t,.int b t']→jW a b 1=some xs→P)
  (K3:∀a b c t t' t'',vs=[.int a t,.int b t',.int c t'']→jW a b c=some xs→P):P:=by
 obtain ⟨a,t,vs1,us1,e0,r1,e⟩:=Di r e
 cases us1 with
 |nil=>cases r1;exact K1 a t e0 e
 |cons x us1=>
  cases r1 with
  |cons x r1=>
   refine af e fun b e1 e5=>af e5 fun c e2 e6=>af e6 fun c' e3 e7=> ?_
   obtain ⟨t',e8⟩:=Rd.int (cX e1▸x).rd
   cases us1 with
   |nil=>
    cases r1
    rw [←Ng e2] at e3
    rw [←Ng e3] at e7
    exact K2 a b t t' (by rw [e0,e8]) e7
   |cons y us1=>
    obtain ⟨v,e9,q⟩:=ak.one (gO (show one (y::us1)=some c from e2)▸r1)
    obtain ⟨t'',e10⟩:=Rd.int (cX e3▸q).rd
    exact K3 a b c' t t' t'' (by rw [e0,e8,e9,e10]) e7
noncomputable def EQ (Z:Wd) (A:N4) (CA:List Addr) (D:Addr→Prop) (σ':ag) (two:Bool) (xs:List V) (t:Sem Nk) (s:Nn):Prop:=
 ∀(Q:Nk→Nn→Prop) (X:Nk→Nn→Prop),(∀I J h' tk,aw (We CA) s.heap h'→aF Z CA σ' (DI D I J) h'→dM Z s.heap h' I→dM Z s.heap h' J→dZ Z (DI D I J) h' I J two xs→Q (.ref I) {s with heap:=h',toks:=tk})→
  Ny (model Z.prog Z.w) A t (fun v s₁=>Ny (model Z.prog Z.w) A (pyIter v) Q X s₁) X s
theorem HL (SE:bK Z n E) {e:Expr} {ce:CE} {q:V×ag} {xs:List V} (hc:au Z.fname k c e ce=true) (EO:az env c) (S:St Z env c.vars ρ CA σ D s.heap) (R:aN n A) (e1:eO E ce ρ σ=some q) (e2:u0 q.1=some xs):EQ Z A CA D q.2 false xs (eval e env) s:=
 fun Q X h=>cT SE hc EO S R e1 fun v h1 t1 k1 c1 r1=>CB (s:={s with heap:=h1,toks:=t1}) r1 e2 fun I h2 t2 g2 n2 l2 it2=>h I I h2 t2 (k1.trans (aw.of_all g2)) (c1.di g2 n2 n2) (.of S.toGd k1 c1 n2 l2) (.of S.toGd k1 c1 n2 l2) it2
theorem Iv (O:Wd.Ok Z p loose mg mb) (SE:bK Z n E) {args:List Expr} {cs:List CE} {np pos:Pos} {q:List V×ag} {xs:List V} (hg:eW c (NB "range")=true) (ha:d8 (au Z.fname k c) args cs=true) (EO:az env c) (S:St Z env c.vars ρ CA σ D s.heap) (R:aN n A)
  (e1:jC E cs ρ σ=some q) (e2:iD q.1=some xs):EQ Z A CA D q.2 false xs (eval (.Call (.Name (NB "range") np) args [] pos) env) s:=by
 intro Q X h
 refine Pk (pb O EO S.base hg O.rng.1 O.rng.2 (by decide) (iy (.inr (.inl ⟨_,rfl⟩)) (eg ha _ _).1 (io SE ha EO S R e1 fun vs h1 t1 k1 c1 ra=> ?_)))
 refine ⟨O.X.keeps (S.toGd.step k1 c1).base,?_⟩
 have fin:∀(a b cc:Int) (t u v:Tok) (tk:Tok),jW a b cc=some xs→
   Ny (model Z.prog Z.w) A (pyIter (.ref h1.objs.size)) Q X {s with heap:=h1.push {cls:= .type "range",data:= .fields #[.int a t,.int b u,.int cc v]},toks:=tk}:=fun a b cc t u v tk er=>
  Cw (Z:=Z) (D:=D) (s:={s with heap:=h1.push {cls:= .type "range",data:= .fields #[.int a t,.int b u,.int cc v]},toks:=tk}) (N1 _ rfl) er fun I h2 t2 g2 n2 l2 it2=>
   have g3:bM h1 h2:=fun b o e=>g2 b o (aG _ _ b o e)
   have n1:h1.objs.size≤I:=Ni (by rw [Ra];exact NQ _) n2
   h I I h2 t2 (k1.trans (aw.of_all g3)) (c1.di g3 n1 n1) (.of S.toGd k1 c1 n1 l2) (.of S.toGd k1 c1 n1 l2) it2
 refine vW ra e2 (fun b t e er=> ?_) (fun a b t t' e er=> ?_) fun a b cc t t' t'' e er=> ?_ <;>rw [e]
 ·exact call_range_1 (fin 0 _ 1 _ _ _ _ er)
 ·exact call_range_2 (fin _ _ 1 _ _ _ _ er)
 ·have hs:=(qt er).2.1
  exact call_range_3 (by rcases hs with rfl|rfl<;>decide) (fin _ _ _ _ _ _ _ er) (hp:=Or.inl (PyProof.noPylong_small (by rcases hs with rfl|rfl<;>decide)))
theorem IZ (O:Wd.Ok Z p loose mg mb) (SE:bK Z n E) {a:Expr} {ce:CE} {np pos:Pos} {q:V×ag} {us:List V} (hg:eW c (NB "enumerate")=true) (hst:oW a=true) (ha:au Z.fname k c a ce=true) (EO:az env c) (S:St Z env c.vars ρ CA σ D s.heap) (R:aN n A)
  (e1:eO E ce ρ σ=some q) (e2:q.1.lst?=some us):EQ Z A CA D q.2 true (jm 0 us) (eval (.Call (.Name (NB "enumerate") np) [a] [] pos) env) s:=by
 intro Q X h
 refine Pk (pb O EO S.base hg O.enm.1 O.enm.2 (by decide) (iy (.inr (.inl ⟨_,rfl⟩)) (by rw [bz hst];rfl) ?_))
 rw [bz hst]
 refine O1 (cT SE ha EO S R e1 fun v h1 t1 k1 c1 r1=>Pj ?_)
 refine ⟨O.X.keeps (S.toGd.step k1 c1).base,?_⟩
 refine Nf fun nG=> ?_
 obtain ⟨a,o,items,nn,e0,z,d,g,cc,x,e,r⟩:=(f7 e2▸r1:b8 Z D h1 v (.lst us)).says
 rw [e0] at nG
 refine nG ?_
 refine call_enumerate_list (s:={s with heap:=h1,toks:=t1}) ⟨o,g,cc,nn,e⟩ fun h2 a1 a2 a3 a4=> ?_
 refine UI (s:={s with heap:=h2,toks:=t1}) a1 ?_
 have kk:∀b o,¬D b→h1.get? b=some o→¬DI D (h1.objs.size+1) h1.objs.size b∧h2.get? b=some o:=fun b o d e=>
  ⟨fun z=>z.elim d fun z=>z.elim (fun z=>ar (gi (NQ _)) (z▸e)) fun z=>ar (gi (Nz _)) (z▸e),a4 b o e⟩
 exact h (h1.objs.size+1) h1.objs.size h2 t1 (k1.trans (aw.of_all a4)) (c1.di a4 (NQ _) (Nz _)) (.of S.toGd k1 c1 (NQ _) ⟨_,a1⟩) (.of S.toGd k1 c1 (Nz _) (gJ a2))
  (.enm (i:=0) (SL _) rfl a1 a2 (gq.mono ⟨d,⟨o,nn,g,cc,e⟩,r⟩ kk) rfl)
theorem qq (O:Wd.Ok Z p loose mg mb) (SE:bK Z n E) {e:Expr} {it:It} {q:List V×ag} (hc:G9 (au Z.fname k c) c e it=true) (EO:az env c) (S:St Z env c.vars ρ CA σ D s.heap) (R:aN n A)
  (ev:dN E it ρ σ=some q):EQ Z A CA D q.2 (Gq it) q.1 (eval e env) s:=by
 cases it with
 |seq ce=>exact af ev fun r e1 ev=>am ev fun us e2 ev=>by subst ev;exact HL (q:=r) SE (ac hc).2 EO S R e1 e2
 |range cs=>
  obtain ⟨⟨x,args⟩,h1,h2⟩:=bO hc
  obtain ⟨np,pos,rfl⟩:=cW h1
  have hx:x=NB "range":=Nv (ac (ac h2).2).1
  subst hx
  exact af ev fun r e1 ev=>am ev fun us e2 ev=>by subst ev;exact Iv (q:=r) O SE (ac h2).1 (ac (ac h2).2).2 EO S R e1 e2
 |enum ce=>
  obtain ⟨⟨x,args⟩,h1,h2⟩:=bO hc
  obtain ⟨np,pos,rfl⟩:=cW h1
  have hx:x=NB "enumerate":=Nv (ac (ac h2).2).1
  subst hx
  refine hO (ac (ac h2).2).2 fun a h3 h4=> ?_
  have h3:args=[a]:=h3
  subst h3
  exact af ev fun r e1 ev=>am ev fun us e2 ev=>by subst ev;exact IZ (q:=r) O SE (ac h2).1 (ac h4).1 (ac h4).2 EO S R e1 e2
end
end
section
open PySem PySem.W PyProof.Rows
set_option tactic.hygienic false
section
variable {Z:Wd} {env:Env} {vars:eF} {ρ:Loc} {CA:List Addr} {σ σ':ag} {D D':Addr→Prop} {h h':Heap}
theorem Gd.move (G:Gd Z CA σ D h) (k:∀b o,h.get? b=some o→(¬D b∨D' b)→h'.get? b=some o) (sub:∀b,D' b→D b) (ca:∀a∈CA,D' a) (low:D' Z.base.objs.size):Gd Z CA σ D' h' where
 base:=fun b o e=>k b o (G.base b o e) (.inl fun d=>by rw [G.dbase b d] at e;cases e)
 dabove:=fun a d=>G.dabove a (sub a d)
 low:=low
 live:=fun a d=>let ⟨o,e⟩:=G.live a (sub a d);⟨o,k a o e (.inr d)⟩
 cells:=⟨G.cells.len,G.cells.nodup,fun i a u e e'=>(G.cells.at_ i a u e e').mono (fun o x=>k a o x (.inr (ca a (NF e)))) fun b o d x=>⟨fun y=>d (sub b y),k b o x (.inl d)⟩,ca⟩
theorem St.move (S:St Z env vars ρ CA σ D h) (k:∀b o,h.get? b=some o→(¬D b∨D' b)→h'.get? b=some o) (sub:∀b,D' b→D b) (a:D' env.locals) (b:∀x c,env.cells.lookup x=some c→D' c) (ca:∀a∈CA,D' a) (low:D' Z.base.objs.size):St Z env vars ρ CA σ D' h' where
 toGd:=S.toGd.move k sub ca low
 ns:=let ⟨m,n⟩:=S.ns;⟨m,n.at' fun o e=>k _ o e (.inr a)⟩
 nsD:=a
 nsCA:=S.nsCA
 pc:=fun x c l=>let ⟨_,v,i⟩:=S.pc x c l;⟨b x c l,v,IsCell.keep i fun o e=>k c o e (.inr (b x c l))⟩
 pinj:=S.pinj
 pcel:=S.pcel
 vars:=fun x i mm U e=>let ⟨v,s,r⟩:=S.vars x i mm U e;⟨v,s.keep (fun o e=>k _ o e (.inr a)) (fun c l o e=>k c o e (.inr (b x c l))),r.mono fun b o d e=>⟨fun y=>d (sub b y),k b o e (.inl d)⟩⟩
theorem Gd.stepGrow (G:Gd Z CA σ D h) (k:aw (We CA) h h') (c:aF Z CA σ' D' h') (q:∀b,D' b→D b∨dM Z h h' b) (m:∀b,D b→D' b):Gd Z CA σ' D' h' where
 base:=fun b o e=>k b o (G.base b o e) fun y=>by rw [G.dbase b (G.cells.inD b y)] at e;cases e
 dabove:=fun a d=>(q a d).elim (G.dabove a) (·.base)
 low:=m _ G.low
 live:=fun a d=>(q a d).elim (fun x=>by
  by_cases mm:a∈CA
  ·exact c.live mm
  ·let ⟨o,e⟩:=G.live a x;exact ⟨o,k a o e mm⟩) (·.live)
 cells:=c
theorem St.stepGrow (S:St Z env vars ρ CA σ D h) (k:aw (We CA) h h') (c:aF Z CA σ' D' h') (q:∀b,D' b→D b∨dM Z h h' b) (m:∀b,D b→D' b):St Z env vars ρ CA σ' D' h' where
 toGd:=S.toGd.stepGrow k c q m
 ns:=let ⟨mm,n⟩:=S.ns;⟨mm,n.at' fun o e=>k _ o e S.nsCA⟩
 nsD:=m _ S.nsD
 nsCA:=S.nsCA
 pc:=fun x c l=>let ⟨d,v,i⟩:=S.pc x c l;⟨m _ d,v,IsCell.keep i fun o e=>k c o e (S.notCA l)⟩
 pinj:=S.pinj
 pcel:=S.pcel
 vars:=fun x i mm U e=>let ⟨v,s,r⟩:=S.vars x i mm U e;⟨v,s.keep (fun o e=>k _ o e S.nsCA) (fun c l o e=>k c o e (S.notCA l)),r.mono fun b o d e=>⟨fun y=>(q b y).elim d fun z=>ar z.none e,k b o e fun mm=>d (S.cells.inD b mm)⟩⟩
theorem St.less (S:St Z env vars ρ CA σ D h) {vars':eF} {ρ':Loc} (k:∀x i U,(x,i)∈vars'→ρ'[i]? =some (some U)→(x,i)∈vars∧ρ[i]? =some (some U)):St Z env vars' ρ' CA σ D h where
 toGd:=S.toGd
 ns:=S.ns
 nsD:=S.nsD
 nsCA:=S.nsCA
 pc:=S.pc
 pinj:=S.pinj
 pcel:=S.pcel
 vars:=fun x i mm U e=>let ⟨a,b⟩:=k x i U mm e;S.vars x i a U b
theorem St.other (S:St Z env vars ρ CA σ D h) {W:Addr→Prop} (k:aw W h h') (w:∀b,W b→D b∧b∉CA∧b≠env.locals∧(∀x,env.cells.lookup x≠some b)∧∃o,h'.get? b=some o):St Z env vars ρ CA σ D h' where
 base:=fun b o e=>k b o (S.base b o e) fun y=>by rw [S.dbase b (w b y).1] at e;cases e
 dabove:=S.dabove
 low:=S.low
 live:=fun a d=>by
  by_cases y:W a
  ·exact (w a y).2.2.2.2
  ·let ⟨o,e⟩:=S.live a d;exact ⟨o,k a o e y⟩
 cells:=S.cells.keep k fun b y=>⟨(w b y).1,(w b y).2.1⟩
 ns:=let ⟨m,n⟩:=S.ns;⟨m,n.at' fun o e=>k _ o e fun y=>(w _ y).2.2.1 rfl⟩
 nsD:=S.nsD
 nsCA:=S.nsCA
 pc:=fun x c l=>let ⟨d,v,i⟩:=S.pc x c l;⟨d,v,IsCell.keep i fun o e=>k c o e fun y=>(w _ y).2.2.2.1 x l⟩
 pinj:=S.pinj
 pcel:=S.pcel
 vars:=fun x i mm U e=>let ⟨v,s,r⟩:=S.vars x i mm U e;⟨v,s.keep (fun o e=>k _ o e fun y=>(w _ y).2.2.1 rfl) (fun c l o e=>k c o e fun y=>(w _ y).2.2.2.1 x l),r.mono fun b o d e=>⟨d,k b o e fun y=>d (w b y).1⟩⟩
end
section
variable {Z:Wd} {n:Nat} {E:Ev} {c:Ctx} {env:Env} {A:N4} {s:Nn} {ρ ρ':Loc} {σ σ':ag} {CA:List Addr} {D:Addr→Prop} {X:Nk→Nn→Prop}
theorem St.keepEq {h h':Heap} (S:St Z env c.vars ρ CA σ D h) (g:bM h h'):St Z env c.vars ρ CA σ D h':=S.step (aw.of_all g) (S.cells.grows g)
theorem nV {x:Str} {a:Addr} (w:Wv env x a):Wx env a:=by
 rcases w with ⟨_,w⟩|⟨k,w⟩
 ·exact .inl w
 ·exact .inr ⟨x,k,w⟩
theorem hK {t:Expr} {t':kN} {vs:eF} {P:Prop} (e:oO t t'=some vs) (K1:∀x p i,t= .Name x p→t'= .one i→vs=[(x,i)]→P) (K2:∀x p y q z w i j,t= .Tuple [.Name x p,.Name y q] z w→t'= .two i j→vs=[(x,i),(y,j)]→P):P:=by
 cases t' with
 |one i=>
  refine am e fun x h1 h2=> ?_
  obtain ⟨p,h3⟩:=aY h1
  exact K1 x p i h3 rfl h2.symm
 |two i j=>
  refine af e fun ts h1 e=> ?_
  refine qo e fun a b h2 e=> ?_
  refine af e fun x h3 e=>am e fun y h4 e=> ?_
  obtain ⟨n,q,h5⟩:=kz h1
  obtain ⟨p1,h6⟩:=aY h3
  obtain ⟨p2,h7⟩:=aY h4
  exact K2 x p1 y p2 n q i j (by rw [h5,h2,h6,h7]) rfl e.symm
theorem nP {i j:Nat} {x:V} (b:gS (.two i j) x ρ=some ρ'):∃u1 u2,x= .tup [u1,u2]∧ρ'=(ρ.set i (some (.v u1))).set j (some (.v u2)):=
 af b fun us h1 b=>let ⟨u1,u2,h2,b⟩:=gm b;⟨u1,u2,by rw [j6 h1,h2],(Ng b).symm⟩
structure Bg (env:Env) (c:Ctx) (loc:Bool) (y:Str) (i:Nat):Prop where
 mem:(y,i)∈c.vars
 kind:env.kindOf y=some .local∨env.kindOf y=some .cell
 loc:loc=true→env.kindOf y=some .local
theorem CR {t:Expr} {t':kN} {loc:Bool} (EO:az env c) (ht:kd c t t' loc=true):∃vs,oO t t'=some vs∧∀y i,(y,i)∈vs→Bg env c loc y i:=by
 refine Nf fun nG=> ?_
 refine ax ht fun vs h1 h2=> ?_
 refine nG ?_
 refine ⟨vs,h1,fun y i m=> ?_⟩
 have h3:=ac (NC.mp h2 (y,i) m)
 have e:env.kindOf y=c.sc.names.lookup y:=by unfold PJ;rw [EO.sc]
 refine ⟨ig h3.1,?_,fun z=> ?_⟩<;>rw [e]
 ·exact (O6.mp h3.2).imp Nv fun q=>Nv (ac q).2
 ·exact (O6.mp h3.2).elim Nv fun q=>by have:=(ac q).1;rw [z] at this;cases this
theorem Bg.keep {loc:Bool} {y:Str} {i:Nat} (t:Bg env c loc y i) {h1 h2:Heap} (k:aw (Wv env y) h1 h2) (l:loc=true):aw (fun a=>a=env.locals) h1 h2:=k.weaken fun b w=>w.elim (·.2) fun w=>by rw [t.loc l] at w;cases w.1
theorem L5 {h:Heap} {x:Str} {b:Addr} (S:St Z env c.vars ρ CA σ D h) (w:Wv env x b):D b:=w.elim (fun w=>w.2▸S.nsD) fun w=>(S.pc _ _ w.2).1
theorem qD {t:Expr} {t':kN} {loc:Bool} {x:V} {v:Nk} (ht:kd c t t' loc=true) (EO:az env c) (S:St Z env c.vars ρ CA σ D s.heap) (hh:A.handled=none) (r:b8 Z D s.heap v x) (b:gS t' x ρ=some ρ') {Q:Unit→Nn→Prop}
  (h:∀h' tk,St Z env c.vars ρ' CA σ D h'→aw (Wx env) s.heap h'→(loc=true→aw (fun a=>a=env.locals) s.heap h')→Q () {s with heap:=h',toks:=tk}):Ny (model Z.prog Z.w) A (assign t env v) Q X s:=by
 refine Nf fun nG=> ?_
 obtain ⟨vs,hv,kk⟩:=CR EO ht
 refine nG ?_
 have hk:env.scope.kind= .function:=by rw [EO.sc];exact EO.kind
 refine hK hv (fun y p i q1 q2 q3=> ?_) fun y p y' p' z w i j q1 q2 q3=> ?_ <;>rw [q2] at b<;>rw [q3] at kk<;>rw [q1]
 ·have k:=kk y i OP
  exact Pw (fY (U:= .v x) S EO.vars hk k.mem k.kind r fun h' tk S' kp=>h h' tk (Ng b▸S') (kp.weaken fun _=>nV) (k.keep kp))
 ·refine Nf fun nG=> ?_
  obtain ⟨u1,u2,e1,e2⟩:=nP b
  rw [e1] at r
  rw [e2] at h
  obtain ⟨a,items,e0,⟨o,g,cc,nn,e⟩,rr,_,_⟩:=r.rd.tup
  obtain ⟨v1,v2,hitems,r1,r2⟩:=rr.two
  rw [e0] at nG
  refine nG ?_
  refine R2 hh ⟨o,g,cc,nn,e⟩ (by rw [←OH,hitems];rfl) rfl fun h1 k1=> ?_
  rw [hitems]
  have g1:bM s.heap h1:=fun b o e=>k1 b o (fun z=>Ou _ (z▸NY e)) e
  have S1:=S.keepEq g1
  have ka:=kk y i OP
  have kb:=kk y' j (OJ _ OP)
  refine OQ (Pw (fY (s:={s with heap:=h1}) (U:= .v u1) S1 EO.vars hk ka.mem ka.kind (r1.grows g1) fun h2 tk2 S2 kp2=> ?_))
  have old2:∀b o,¬D b→h1.get? b=some o→¬D b∧h2.get? b=some o:=fun b o d e=>⟨d,kp2 b o e fun w=>d (L5 S w)⟩
  refine OQ (Pw (fY (s:={s with heap:=h2,toks:=tk2}) (U:= .v u2) S2 EO.vars hk kb.mem kb.kind ((r2.grows g1).mono old2) fun h3 tk3 S3 kp3=> ?_))
  exact NE (h h3 tk3 S3 (((aw.of_all g1).trans (kp2.weaken fun _=>nV)).trans (kp3.weaken fun _=>nV)) fun l=>((aw.of_all g1).trans (ka.keep kp2 l)).trans (kb.keep kp3 l))
end
theorem gI {α:Type} {l:List (Str×α)} {x:Str} {k:α} (h:l.lookup x=some k):(x,k)∈l:=by
 induction l with
 |nil=>simp at h
 |cons p l ih=>
  obtain ⟨y,b⟩:=p
  rw [O3] at h
  cases hq:x==y with
  |true=>rw [hq] at h;simp only [Option.some.injEq] at h;rw [Nv hq,h];exact OP
  |false=>rw [hq] at h;exact OJ _ (ih h)
theorem lm {α:Type} {l:List (Str×α)} {x:Str} {k:α} (m:(x,k)∈l) (h:l.lookup x=none):Rr:=by
 induction l with
 |nil=>cases m
 |cons p l ih=>
  obtain ⟨y,b⟩:=p
  rw [O3] at h
  cases hz:x==y with
  |true=>rw [hz] at h;cases h
  |false=>
   rw [hz] at h
   rcases NN.mp m with z|z
   ·injection z with z1 z2;rw [z1] at hz;simp at hz
   ·exact ih z h
theorem nK {scope:Po} {env:Env} (hf:∀x∈scope.names,x.2= .free→∃a,env.cells.lookup x.1=some a):
  ∃cl:List (Str×Addr),closureFor scope env=pure cl∧(∀x∈scope.names,x.2= .free→cl.lookup x.1=env.cells.lookup x.1)∧∀x a,cl.lookup x=some a→env.cells.lookup x=some a:=by
 have key:∀(l:List (Str×UJ)) (cs:List (Str×Addr)),(∀x∈l,x.2= .free→∃a,env.cells.lookup x.1=some a)→(∀x a,(x,a)∈cs→env.cells.lookup x=some a)→
   ∃cl:List (Str×Addr),(forIn l cs fun x r=>(if (x.2==Qn)=true then do let a←cellOf env x.1;pure (Pd ((x.1,a)::r)) else pure (Pd r):Sem _))=pure cl∧
    (∀x a,(x,a)∈cl→env.cells.lookup x=some a)∧(∀p∈cs,p∈cl)∧∀x∈l,x.2= .free→∃a,(x.1,a)∈cl:=by
  intro l
  induction l with
  |nil=>intro cs _ hc;exact ⟨cs,rfl,hc,fun _ h=>h,by simp⟩
  |cons x l ih=>
   intro cs hl hc
   obtain ⟨n,k⟩:=x
   by_cases hk:k= .free
   ·subst hk
    refine Nf fun nG=> ?_
    obtain ⟨a,ha⟩:=hl (n,.free) OP rfl
    obtain ⟨cl,e1,e2,e3,e4⟩:=ih ((n,a)::cs) (fun y hy=>hl y (OJ _ hy)) (fun y b hb=>by
     rcases NN.mp hb with z|z
     ·injection z with z1 z2;subst z1 z2;exact ha
     ·exact hc y b z)
    refine nG ?_
    refine ⟨cl,?_,e2,fun p hp=>e3 p (OJ _ hp),fun y hy hyk=> ?_⟩
    ·rw [RF]
     have:cellOf env n=pure a:=by unfold cellOf;rw [ha]
     simp only [Rl,if_true,this]
     exact e1
    ·rcases NN.mp hy with z|z
     ·subst z;exact ⟨a,e3 _ OP⟩
     ·exact e4 y z hyk
   ·obtain ⟨cl,e1,e2,e3,e4⟩:=ih cs (fun y hy=>hl y (OJ _ hy)) hc
    refine ⟨cl,?_,e2,e3,fun y hy hyk=> ?_⟩
    ·rw [RF]
     have:(k==Qn)=false:=by simpa using hk
     simp only [this,Ql,UB]
     exact e1
    ·rcases NN.mp hy with z|z
     ·subst z;exact absurd hyk hk
     ·exact e4 y z hyk
 refine Nf fun nG=> ?_
 obtain ⟨cl,e1,e2,_,e4⟩:=key scope.names [] hf (by simp)
 refine nG ?_
 have lk:∀x a,cl.lookup x=some a→env.cells.lookup x=some a:=fun x a h=>by
  have:(x,a)∈cl:=gI h
  exact e2 x a this
 refine ⟨cl,?_,fun x hx hk=> ?_,lk⟩
 ·unfold closureFor
  show (forIn scope.names ([]:List (Str×Addr)) _>>=fun cs=>pure cs)=pure cl
  refine Eq.trans (Nt (· >>=fun cs=>pure cs) ?_) (show (pure cl>>=fun cs=>pure cs:Sem _)=pure cl from rfl)
  refine Eq.trans ?_ e1
  congr 1
 ·obtain ⟨a,ha⟩:=e4 x hx hk
  rw [e2 _ _ ha]
  cases hq:cl.lookup x.1 with
  |some b=>have:=lk _ _ hq;rw [e2 _ _ ha] at this;rw [this]
  |none=>exact (lm ha hq).elim
theorem gV {sc:Po}:∀{names:List (Str×UJ)} {x:Str},(names.map fun (n,k)=>if (k==Qn&&sc.kind== .function&&sc.names.lookup n==some .cell) then (n,T8) else (n,k)).lookup x=
  (names.lookup x).map fun k=>if (k==Qn&&sc.kind== .function&&sc.names.lookup x==some .cell) then T8 else k
 |[],_=>rfl
 |(n,k)::r,x=>by
  have ih:= @gV sc r x
  show List.lookup x ((if (k==Qn&&sc.kind== .function&&sc.names.lookup n==some .cell)=true then (n,T8) else (n,k))::_)=_
  cases hx:x==n with
  |true=>
   have:=Nv hx;subst this
   by_cases hc:(k==Qn&&sc.kind== .function&&sc.names.lookup x==some .cell)=true
   ·rw [NG hc];simp only [O3,hx,RG];rw [NG hc]
   ·rw [NV hc];simp only [O3,hx];simp only [RG];rw [NV hc]
  |false=>
   by_cases hc:(k==Qn&&sc.kind== .function&&sc.names.lookup n==some .cell)=true
   ·rw [NG hc];simp only [O3,hx];exact ih
   ·rw [NV hc];simp only [O3,hx];exact ih
theorem i9:∀{is:List Nat} {ρ:Loc} {k:Nat} {U:aA},(qT is ρ)[k]? =some (some U)↔k∉is∧ρ[k]? =some (some U)
 |[],ρ,k,U=>by simp [qT]
 |i::is,ρ,k,U=>by
  rw [qT,i9]
  by_cases h:i=k
  ·subst h
   constructor
   ·rintro ⟨_,b⟩
    by_cases hl:i <ρ.length
    ·rw [Ob hl] at b;cases b
    ·rw [OR (by simpa using hl)] at b;cases b
   ·rintro ⟨a,_⟩;exact (a OP).elim
  ·rw [Oe h]
   simp only [NN,not_or]
   exact ⟨fun ⟨a,b⟩=>⟨⟨fun z=>h z.symm,a⟩,b⟩,fun ⟨⟨_,a⟩,b⟩=>⟨a,b⟩⟩
theorem rC {t:kN} {x:V} {ρ ρ':Loc} {k:Nat} (b:gS t x ρ=some ρ') (hk:k∉Gy t):ρ'[k]? =ρ[k]? :=by
 cases t with
 |one i=>cases Ng b;exact Oe fun z=>hk (by rw [←z];exact .head _)
 |two i j=>
  obtain ⟨_,_,_,rfl⟩:=nP b
  exact (Oe fun z=>hk (by rw [←z];exact .tail _ (.head _))).trans (Oe fun z=>hk (by rw [←z];exact .head _))
section
variable {Z:Wd} {n:Nat} {E:Ev} {c:Ctx} {env:Env} {A:N4} {s:Nn} {ρ:Loc} {σ σ':ag} {CA:List Addr} {D:Addr→Prop} {X:Nk→Nn→Prop} {k:Nat}
theorem yM (SB:gX Z n E) (EO:az env c) (R:aN n A):∀{es:List Expr} {cs:List CE},d8 (au Z.fname k c) es cs=true→∀{s:Nn} {σ:ag} {b0:Bool} {q:Bool×ag},
  St Z env c.vars ρ CA σ D s.heap→(if b0 then Gi E cs ρ σ else some (false,σ))=some q→∀{Q:Bool→Nn→Prop},
  (∀h' tk,aw (We CA) s.heap h'→aF Z CA q.2 D h'→Q q.1 {s with heap:=h',toks:=tk})→
  Ny (model Z.prog Z.w) A (forIn es b0 fun c r=>if r=true then do let ok←isTrue c env (eval c env);pure (Pd ok) else pure (Pd r)) Q X s:=by
 intro es
 induction es with
 |nil=>
  intro cs hc s σ b0 q S ev Q h
  cases aE hc
  cases b0<;>(cases Ng ev;exact NE (h s.heap s.toks aw.refl S.cells))
 |cons e es ih=>
  intro cs hc s σ b0 q S ev Q h
  obtain ⟨ce,cs,rfl,hc⟩:=cV hc
  rw [RF]
  cases b0 with
  |false=>exact No (NE (ih (ac (ac hc).2).2 (b0:=false) S ev h))
  |true=>
   refine af ev fun r e1 e2=> ?_
   exact No (No (j7 SB (ac (ac hc).2).1 EO S R e1 fun h1 t1 k1 c1=>NE
    (ih (s:={s with heap:=h1,toks:=t1}) (ac (ac hc).2).2 (S.step k1 c1) e2 fun h2 t2 k2 c2=>h h2 t2 (k1.trans k2) c2)))
end
noncomputable def lQ (elt:Expr) (gens:List N0) (scope:Po) (pos:Pos) (d:Nat) (acc:Nk) (env:Env) (k:Sem Fin):Sem Fin:=
 match gens[d]? with
 |some g'=>do
   let x←eval g'.iter env
   standAt g'.iter.pos
   let x←if g'.is_async !=0 then foldedIterable g'.iter x else foldedSetIterable g'.iter env x
   let _←runOwn (.compStart (.ListComp elt gens scope pos) d (←holding [x] (if g'.is_async !=0 then asyncIter x else pyIter x)) acc env) env
   k
 |none=>do
   (do let _←call (.builtin "list.append") [acc,←eval elt env])
   k
theorem vc {elt:Expr} {gens:List N0} {scope:Po} {pos:Pos} {d:Nat} {it acc:Nk} {env:Env} {g:N0} (hg:gens[d]? =some g) (ha:g.is_async=0):
  compTurn (.ListComp elt gens scope pos) d it acc env=(do
   standAt g.iter.pos
   match←pyNext it with
   |none=>pure (.done .next)
   |some v=>
    PZ g.target it v
    assign g.target env v
    let ok←forIn g.ifs true fun c r=>if r=true then do let ok←isTrue c env (eval c env);pure (Pd ok) else pure (Pd r)
    if ok then lQ elt gens scope pos (d+1) acc env (again (.compLoop (.ListComp elt gens scope pos) d it acc env))
    else again (.compLoop (.ListComp elt gens scope pos) d it acc env)):=by
 obtain ⟨t,i,f,a⟩:=g
 replace ha:a=0:=ha
 subst ha
 unfold compTurn lQ
 dsimp only
 rw [hg]
 rfl
section
variable {Z:Wd} {A:N4} {s:Nn} {R:Qo→Nn→Prop}
theorem sL {elt:Expr} {gens:List N0} {scope:Po} {pos:Pos} {d:Nat} {it acc:Nk} {env:Env} {g:N0} (hg:gens[d]? =some g) (ha:g.is_async=0) (I:Nat→Nn→Prop)
  (turn:∀n s,I n s→Ny (model Z.prog Z.w) A (pyNext it) (fun r s₁=>match r with
   |none=>R (.ok .next) s₁
   |some v=>Ny (model Z.prog Z.w) A (PZ g.target it v) (fun _ s₁'=>Ny (model Z.prog Z.w) A (assign g.target env v) (fun _ s₂=>
     Ny (model Z.prog Z.w) A (forIn g.ifs true fun c r=>if r=true then do let ok←isTrue c env (eval c env);pure (Pd ok) else pure (Pd r)) (fun ok s₃=>
      if ok=true then∀(k:Sem Fin) (Q:Fin→Nn→Prop) (X:Nk→Nn→Prop),(∀s₅ m,m <n→I m s₅→Ny (model Z.prog Z.w) A k Q X s₅)→Ny (model Z.prog Z.w) A (lQ elt gens scope pos (d+1) acc env k) Q X s₃
      else∃m,m <n∧I m s₃) (S7 (model Z.prog Z.w) A env fun e s'=>R (.error e) s') s₂) (S7 (model Z.prog Z.w) A env fun e s'=>R (.error e) s') s₁') (S7 (model Z.prog Z.w) A env fun e s'=>R (.error e) s') s₁)
    (S7 (model Z.prog Z.w) A env fun e s'=>R (.error e) s') s)
  (n:Nat) (h:I n s):Pr (model Z.prog Z.w) A (.compLoop (.ListComp elt gens scope pos) d it acc env) R s:=by
 refine codeAny_loop rfl I (fun n s hI=> ?_) n h
 show Ny _ A ((compTurn (.ListComp elt gens scope pos) d it acc env).onRaise (fun x=>do noteFrame x env;theTreesLotGoes x)) _ _ s
 refine wpAny_noted ?_
 rw [vc hg ha]
 refine No (OI (No (N3 (turn n s hI) (fun r s₁ h₁=> ?_) fun _ _ h'=>h')))
 cases r with
 |none=>exact NE h₁
 |some v=>
  refine No (N3 h₁ (fun _ s₁' h₁'=>No (N3 h₁' (fun _ s₂ h₂=>No (N3 h₂ (fun ok s₃ h₃=> ?_) fun _ _ h'=>h')) fun _ _ h'=>h')) fun _ _ h'=>h')
  cases ok with
  |false=>exact NE ⟨rfl,h₃⟩
  |true=>exact h₃ _ _ _ fun s₅ m hm h₅=>NE ⟨rfl,m,hm,h₅⟩
theorem kW {elt:Expr} {gens:List N0} {scope:Po} {pos:Pos} {d:Nat} {it acc:Nk} {env:Env} {g:N0} (hg:gens[d]? =some g) (ha:g.is_async=0)
  (hs:∀Q X,Q it s→Ny (model Z.prog Z.w) A (pyIter it) Q X s) (h:Pr (model Z.prog Z.w) A (.compLoop (.ListComp elt gens scope pos) d it acc env) R s):
  Pr (model Z.prog Z.w) A (.compStart (.ListComp elt gens scope pos) d it acc env) R s:=by
 refine Vs ?_
 show Ny _ _ ((compStart (.ListComp elt gens scope pos) d it acc env).onRaise (fun x=>do noteFrame x env;standAt theWindowsPlace)) _ _ s
 refine wpAny_notedAt ?_
 unfold compStart
 have hg':(clausesOf (.ListComp elt gens scope pos))[d]? =some g:=hg
 rw [hg']
 have:(Option.elim (some g) false fun x=>x.is_async !=0)=false:=by simp [ha]
 rw [this]
 simp only [Ql,UB]
 refine No (U6 (wpAny_ite ?_))
 split
 ·first
   |exact No (NE (NE (And.intro rfl h)))
   |exact NE (And.intro rfl h)
 ·refine No (wpAny_rule ?_)
  exact No (OI (No (hs _ _ (NE (And.intro rfl h)))))
end
noncomputable def Wc (acc:Addr) (CA:List Addr) (env:Env):Addr→Prop:=fun b=>b=acc∨b∈CA∨b=env.locals
theorem i5 {e:Expr} {env:Env} {x:Nk} (h:fh e=true):foldedSetIterable e env x=pure x:=by
 cases e<;>first|rfl|cases h
section
variable {Z:Wd} {n:Nat} {E:Ev} {c:Ctx} {env:Env} {A:N4} {CA:List Addr} {p:N2} {loose:List Str} {mg mb:Str→Nh Nk} {k:Nat}
theorem rY {ρ:Loc} {σ:ag} {D:Addr→Prop} {h:Heap} {acc:Addr} {us:List V} (S:St Z env c.vars ρ CA σ D h) (C:gE Z D h acc (.lst us)):acc≠env.locals∧∀x,env.cells.lookup x≠some acc:=by
 refine ⟨fun z=> ?_,fun x z=>let ⟨_,_,ic⟩:=S.pc x acc z;C.notCell ic⟩
 obtain ⟨_,items,⟨m,e⟩,_⟩:=C
 obtain ⟨_,o,_,_,e1,e2,_⟩:=S.ns
 rw [←z,e] at e1;cases e1;cases e2
noncomputable def xC (Z:Wd) (A:N4) (c:Ctx) (env:Env) (acc:Addr) (CA:List Addr) (gens:List N0) (elt:Expr) (scope:Po) (pos:Pos) (d:Nat) (E:Ev) (eltc:CE) (cgs:List CG):Prop:=
 ∀(s:Nn) (ρ:Loc) (σ:ag) (q:List V×ag) (us0:List V) (D:Addr→Prop),St Z env c.vars ρ CA σ D s.heap→D acc→acc∉CA→gE Z D s.heap acc (.lst us0)→dQ E eltc cgs ρ σ=some q→us0.length+q.1.length≤16777216→
  ∀(kk:Sem Fin) (Q:Fin→Nn→Prop) (X:Nk→Nn→Prop),
   (∀h' tk,aw (Wc acc CA env) s.heap h'→St Z env c.vars (qT (Dy cgs) ρ) CA q.2 D h'→gE Z D h' acc (.lst (us0++q.1))→Ny (model Z.prog Z.w) A kk Q X {s with heap:=h',toks:=tk})→
   Ny (model Z.prog Z.w) A (lQ elt gens scope pos d (.ref acc) env kk) Q X s
theorem Lw {ρ:Loc} {σ:ag} {D:Addr→Prop} {h:Heap} {acc b:Addr} (S:St Z env c.vars ρ CA σ D h) (da:D acc) (w:Wc acc CA env b):D b:=by
 rcases w with rfl|w|rfl
 ·exact da
 ·exact S.cells.inD b w
 ·exact S.nsD
structure qw (Z:Wd) (env:Env) (CA:List Addr) (D:Addr→Prop) (I J acc:Addr):Prop where
 nI:¬D I
 nJ:¬D J
 da:D acc
 dL:D env.locals
 dP:∀x c,env.cells.lookup x=some c→D c
 dC:∀a∈CA,D a
 dlow:D Z.base.objs.size
structure uC (Z:Wd) (env:Env) (c:Ctx) (ρ0:Loc) (CA:List Addr) (D:Addr→Prop) (I J acc:Addr) (two:Bool) (E:Ev) (t:kN) (ifs:List CE) (eltc:CE) (cgs:List CG) (q:List V×ag) (g h:Heap) (xs us0:List V) (σ:ag) (r:List V×ag):Prop where
 keep:aw (fun b=>Wc acc CA env b∨b=I∨b=J) g h
 st:St Z env c.vars ρ0 CA σ (DI D I J) h
 cont:gE Z (DI D I J) h acc (.lst us0)
 it:dZ Z (DI D I J) h I J two xs
 ev:jt (jh E t ifs (dQ E eltc cgs) ρ0) xs σ=some r
 eq:us0++r.1=q.1∧r.2=q.2
section
variable {gens:List N0} {elt:Expr} {scope:Po} {pos:Pos} {d:Nat} {g:N0} {eltc:CE} {t:kN} {ifs:List CE} {cgs:List CG} {acc:Addr} {two:Bool} {D:Addr→Prop} {I J:Addr} {s:Nn} {ρ0:Loc} {q:List V×ag} {h1:Heap} {us0:List V} {σ1:ag} {r:List V×ag}
theorem qw.low (G:qw Z env CA D I J acc) {b:Addr} (d:¬D b):¬Wc acc CA env b:=fun w=>by
 rcases w with rfl|w|rfl
 ·exact d G.da
 ·exact d (G.dC _ w)
 ·exact d G.dL
theorem uC.done (G:qw Z env CA D I J acc) (L:uC Z env c ρ0 CA D I J acc two E t ifs eltc cgs q s.heap h1 [] us0 σ1 r) {h2:Heap} (k2:aw (fun b=>b=I∨b=J) h1 h2):
  aw (fun b=>Wc acc CA env b∨b=I∨b=J) s.heap h2∧St Z env c.vars ρ0 CA q.2 D h2∧gE Z D h2 acc (.lst q.1):=by
 have mv:∀b o,h1.get? b=some o→(¬DI D I J b∨D b)→h2.get? b=some o:=fun b o e w=>k2 b o e fun z=>w.elim (fun w=>w (.inr z)) fun w=>z.elim (fun z=>G.nI (z▸w)) fun z=>G.nJ (z▸w)
 have hr:=Ng L.ev
 have e1:us0=q.1:=by rw [←L.eq.1,←hr,NH]
 have e2:σ1=q.2:=by rw [←L.eq.2,←hr]
 rw [←e1,←e2]
 exact ⟨L.keep.trans (k2.weaken fun b w=> .inr w),L.st.move mv (fun b q=> .inl q) G.dL G.dP G.dC G.dlow,L.cont.mono (fun o e=>mv _ o e (.inr G.da)) fun b o q e=>⟨fun z=>q (.inl z),mv b o e (.inl q)⟩⟩
theorem xZ {ρ ρ':Loc} {ct:Expr} {t:kN} {loc two:Bool} {x:V} (ht:kd c ct t loc=true) (htw:jX ct=some two) (e:gS t x ρ=some ρ') (z:two=true):∃vs,x= .tup vs:=by
 refine Nf fun nG=> ?_
 refine ax ht fun vs hv _=> ?_
 refine hK hv (fun y p i q1 q2 _=> ?_) fun y p y' p' z' w i j q1 q2 _=> ?_
 ·rw [q1,z] at htw;cases htw
 ·rw [q2] at e
  obtain ⟨_,_,q3,_⟩:=nP e
  exact nG ⟨_,q3⟩
noncomputable def CW (Z:Wd) (env:Env) (c:Ctx) (ρ0:Loc) (CA:List Addr) (D:Addr→Prop) (I J acc:Addr) (two:Bool) (E:Ev) (t:kN) (ifs:List CE) (eltc:CE) (cgs:List CG) (q:List V×ag) (s:Nn) (m:Nat) (s':Nn):Prop:=
 ∃xs us0 σ1 r h1 tk,m=xs.length∧s'={s with heap:=h1,toks:=tk}∧uC Z env c ρ0 CA D I J acc two E t ifs eltc cgs q s.heap h1 xs us0 σ1 r
theorem EX (SB:gX Z n E) (EO:az env c) (Rm:aN n A) (EM:xC Z A c env acc CA gens elt scope pos (d+1) E eltc cgs) (ht:kd c g.target t true=true)
  (hi:d8 (au Z.fname k c) g.ifs ifs=true) (G:qw Z env CA D I J acc) (hca:acc∉CA) (hclr:∀j U,ρ0[j]? =some (some U)→j∉Gy t∧j∉Dy cgs) (hz:q.1.length≤16777216)
  {x:V} {xs:List V} {σ:ag} {r:List V×ag} {us0:List V} {tk:Tok} (L:uC Z env c ρ0 CA D I J acc two E t ifs eltc cgs q s.heap h1 (x::xs) us0 σ r) {v:Nk} {s₁:Nn} (hgo:tv Z A (DI D I J) I J two g.target {s with heap:=h1,toks:=tk} x xs v s₁)
  {QT:Bool→Nn→Prop} {X:Nk→Nn→Prop} (hF:∀s3,CW Z env c ρ0 CA D I J acc two E t ifs eltc cgs q s xs.length s3→QT false s3)
  (hT:∀s3,(∀(kk:Sem Fin) (Q:Fin→Nn→Prop) (X:Nk→Nn→Prop),(∀s5,CW Z env c ρ0 CA D I J acc two E t ifs eltc cgs q s xs.length s5→Ny (model Z.prog Z.w) A kk Q X s5)→Ny (model Z.prog Z.w) A (lQ elt gens scope pos (d+1) (.ref acc) env kk) Q X s3)→QT true s3):
  Ny (model Z.prog Z.w) A (PZ g.target (.ref I) v) (fun _ s₁'=>Ny (model Z.prog Z.w) A (assign g.target env v) (fun _ s₂=>
     Ny (model Z.prog Z.w) A (forIn g.ifs true fun c r=>if r=true then do let ok←isTrue c env (eval c env);pure (Pd ok) else pure (Pd r)) QT X s₂) X s₁') X s₁:=by
 have dI:DI D I J I:= .inr (.inl rfl)
 have dJ:DI D I J J:= .inr (.inr rfl)
 refine af L.ev fun ra e1 ev=>af ev fun rb e2 ev=>af e1 fun ρ' e5 e1=>af e1 fun bb e6 e1=>hgo _ _ fun h2 t2 k2 IT2 lI lJ r2=> ?_
 have aO:=rY L.st L.cont
 have S2:=L.st.other k2 fun b w=>by
  rcases w with rfl|rfl
  ·exact ⟨dI,fun m=>G.nI (G.dC _ m),fun z=>G.nI (z▸G.dL),fun x z=>G.nI (G.dP x _ z),lI⟩
  ·exact ⟨dJ,fun m=>G.nJ (G.dC _ m),fun z=>G.nJ (z▸G.dL),fun x z=>G.nJ (G.dP x _ z),lJ⟩
 refine qD (s:={s with heap:=h2,toks:=t2}) ht EO S2 Rm.calm r2 e5 fun h3 t3 S3 _ k3=> ?_
 have k3:=k3 rfl
 refine yM (s:={s with heap:=h3,toks:=t3}) SB EO Rm hi (b0:=true) S3 e6 fun h4 t4 k4 c4=> ?_
 have S4:=S3.step k4 c4
 have old3:∀b o,¬DI D I J b→h2.get? b=some o→¬DI D I J b∧h3.get? b=some o:=fun b o q e=>⟨q,k3 b o e fun w=>q (w▸L.st.nsD)⟩
 have C4:=((L.cont.mono (fun o e=>k2 _ o e fun w=>w.elim (fun z=>G.nI (z▸G.da)) fun z=>G.nJ (z▸G.da)) fun b o q e=>⟨q,k2 b o e fun w=>q (.inr w)⟩).mono (fun o e=>k3 _ o e aO.1) old3).mono (fun o e=>k4 _ o e hca) (S3.toGd.old k4)
 have IT4:=(IT2.mono (fun o e=>k3 _ o e fun z=>G.nI (z▸G.dL)) (fun o e=>k3 _ o e fun z=>G.nJ (z▸G.dL)) old3).mono (fun o e=>k4 _ o e fun m=>G.nI (G.dC I m)) (fun o e=>k4 _ o e fun m=>G.nJ (G.dC J m)) (S3.toGd.old k4)
 have kp4:aw (fun b=>Wc acc CA env b∨b=I∨b=J) s.heap h4:=((L.keep.trans (k2.weaken fun b w=> .inr w)).trans (k3.weaken fun b w=> .inl (.inr (.inr w)))).trans (k4.weaken fun b w=> .inl (.inr (.inl w)))
 have eqs:us0++(ra.1++rb.1)=q.1∧rb.2=q.2:=by have:=L.eq;rw [←Ng ev] at this;exact this
 obtain ⟨b,σ4⟩:=bb
 cases b with
 |false=>
  have e1:=Ng e1
  rw [←e1] at e2 eqs
  exact hF _ ⟨xs,us0,_,rb,h4,t4,rfl,rfl,kp4,S4.less fun y j U m e=>⟨m,(rC e5 (hclr j U e).1).trans e⟩,C4,IT4,e2,eqs⟩
 |true=>
  refine hT _ fun kk Q X hk=> ?_
  have hlen:us0.length+ra.1.length≤16777216:=by
   rw [←eqs.1,Nj,Nj,←Oq] at hz
   exact Ni (Oa _ _) hz
  exact EM {s with heap:=h4,toks:=t4} ρ' σ4 ra us0 (DI D I J) S4 (.inl G.da) hca C4 e1 hlen kk Q X fun h5 t5 k5 S5 C5=>
   hk _ ⟨xs,us0++ra.1,ra.2,rb,h5,t5,rfl,rfl,kp4.trans (k5.weaken fun b w=> .inl w),S5.less fun y j U m e=>⟨m,i9.mpr ⟨(hclr j U e).2,(rC e5 (hclr j U e).1).trans e⟩⟩,C5,
   IT4.mono (fun o e=>k5 _ o e (G.low G.nI)) (fun o e=>k5 _ o e (G.low G.nJ)) fun b o q e=>⟨q,k5 b o e fun w=>q (Lw S4 (.inl G.da) w)⟩,e2,by rw [NI];exact eqs⟩
theorem pi (SB:gX Z n E) (EO:az env c) (Rm:aN n A) (EM:xC Z A c env acc CA gens elt scope pos (d+1) E eltc cgs) (hg:gens[d]? =some g) (ha:g.is_async=0) (ht:kd c g.target t true=true) (htw:jX g.target=some two)
  (hi:d8 (au Z.fname k c) g.ifs ifs=true) (G:qw Z env CA D I J acc) (hca:acc∉CA) (hclr:∀j U,ρ0[j]? =some (some U)→j∉Gy t∧j∉Dy cgs) (hz:q.1.length≤16777216)
  {xs:List V} {σ:ag} {r:List V×ag} {us0:List V} (L0:uC Z env c ρ0 CA D I J acc two E t ifs eltc cgs q s.heap s.heap xs us0 σ r) {R:Qo→Nn→Prop}
  (h:∀h' tk,aw (fun b=>Wc acc CA env b∨b=I∨b=J) s.heap h'→St Z env c.vars ρ0 CA q.2 D h'→gE Z D h' acc (.lst q.1)→R (.ok .next) {s with heap:=h',toks:=tk}):
  Pr (model Z.prog Z.w) A (.compLoop (.ListComp elt gens scope pos) d (.ref I) (.ref acc) env) R s:=by
 refine sL hg ha (CW Z env c ρ0 CA D I J acc two E t ifs eltc cgs q s) (fun m s' hI=> ?_) xs.length ⟨xs,us0,σ,r,s.heap,s.toks,rfl,rfl,L0⟩
 refine Nf fun nG=> ?_
 obtain ⟨xs,us0,σ1,r,h1,tk,e0,e1,L⟩:=hI
 rw [e0,e1] at nG
 cases xs with
 |nil=>exact nG (vq (s:={s with heap:=h1,toks:=tk}) Rm.calm L.it fun h2 t2 k2=>let f:=L.done G k2;h h2 t2 f.1 f.2.1 f.2.2)
 |cons x xs'=>exact af L.ev fun ra e1 _=>af e1 fun ρ' e5 _=>nG (rH (s:={s with heap:=h1,toks:=tk}) (target:=g.target) htw L.st.live L.it (.inr (.inl rfl)) (.inr (.inr rfl)) (xZ ht htw e5) fun v s₁ hgo=>
  EX SB EO Rm EM ht hi G hca hclr hz L hgo (fun s3 I=>⟨xs'.length,OD _,I⟩) fun s3 H kk Q X hk=>H kk Q X fun s5 I=>hk s5 _ (OD _) I)
end
theorem pA {t:Expr} {t':kN} {it:It} {loc:Bool} (ht:kd c t t' loc=true) (h:AQ t' it=true):jX t=some (Gq it):=by
 refine ax ht fun vs hv _=> ?_
 refine hK hv (fun y p i q1 q2 _=> ?_) fun y p y' p' z w i j q1 q2 _=> ?_ <;>rw [q2] at h<;>rw [q1]<;>cases it<;>first|rfl|cases h
theorem Fk (O:Wd.Ok Z p loose mg mb) (SE:bK Z n E) (SB:gX Z n E) (EO:az env c) (Rm:aN n A) {gens:List N0} {elt:Expr} {scope:Po} {pos:Pos} {eltc:CE} {acc:Addr} (he:au Z.fname k c elt eltc=true):
  ∀(gs:List N0) (cgs:List CG) (d:Nat),gens.drop d=gs→AO (au Z.fname k c) c gs cgs=true→xC Z A c env acc CA gens elt scope pos d E eltc cgs:=by
 intro gs
 induction gs with
 |nil=>
  intro cgs d hd hc s ρ σ q us0 D S da hca C ev hz kk Q X h
  cases aE hc
  have hg:gens[d]? =none:=OR (List.drop_eq_nil_iff.mp hd)
  unfold lQ
  rw [hg]
  refine am ev fun r e1 ev=> ?_
  subst ev
  refine No (No (cT SE he EO S Rm e1 fun v h1 t1 k1 c1 r1=>No ?_))
  refine Nf fun nG=> ?_
  obtain ⟨_,items,hp,ri⟩:=C.mono (fun o e=>k1 _ o e hca) (S.toGd.old k1)
  refine nG ?_
  have aO:=rY S C
  refine SK (hsz:=by have len:=ri.length;rw [OH] at len;rw [len];exact Ni (Oa _ _) hz) (s:={s with heap:=h1,toks:=t1}) hp fun h2 hp2 hs2=>NE ?_
  have old:∀b o,¬D b→h1.get? b=some o→¬D b∧h2.get? b=some o:=fun b o d e=>⟨d,(hs2.2 b fun z=>d (z▸da)).trans e⟩
  exact h h2 t1 ((k1.weaken fun b w=> .inr (.inl w)).trans (aw.sameBut hs2 (.inl rfl))) ((S.step k1 c1).other (W:=fun b=>b=acc) (aw.sameBut hs2 rfl) fun b w=>by subst w;exact ⟨da,hca,aO.1,aO.2,let ⟨_,e⟩:=hp2;⟨_,e⟩⟩)
   ⟨by rw [Nj];exact hz,_,hp2,by rw [UH];exact (ri.mono old).append (.cons (r1.mono old) .nil)⟩
 |cons g gs ih=>
  intro cgs d hd hc
  obtain ⟨cg,cgs,rfl,hc⟩:=cV hc
  obtain ⟨t,it,ifs⟩:=cg
  have hc1:=ac (ac hc).1
  have hc2:=ac hc1.2
  have hc3:=ac hc2.2
  have hc4:=ac hc3.2
  have hc5:=ac hc4.2
  obtain ⟨tt,ii,ff,aa⟩:=g
  have h0:aa=0:=Nv hc1.1
  subst h0
  obtain ⟨hg,hd'⟩:=m8 hd
  have EM:=ih cgs (d+1) hd' (ac hc).2
  intro s ρ σ q us0 D S da hca C ev hz kk Q X h
  refine af ev fun r e1 ev=> ?_
  unfold lQ
  rw [hg]
  have key:=qq O SE hc5.1 EO S Rm e1 (fun itv s₂=>Ny (model Z.prog Z.w) A (runOwn (.compStart (.ListComp elt gens scope pos) d itv (.ref acc) env) env) (fun _ s₃=>Ny (model Z.prog Z.w) A kk Q X s₃) X s₂) X fun I J h1' t1 k1 c1 nI nJ IT=> ?_
  ·refine No (N3 key (fun x s₁ hx=>No (OI ?_)) fun _ _ z=>z)
   show Ny _ A (foldedSetIterable ii env x>>=_) _ _ _
   rw [i5 hc4.1]
   exact No (NE (No (Oj (N3 hx (fun itv s₂ h₂=>No h₂) fun _ _ z=>z))))
  ·have G:qw Z env CA D I J acc:=⟨S.toGd.fresh_notD nI.none,S.toGd.fresh_notD nJ.none,da,S.nsD,fun x c l=>(S.pc x c l).1,S.cells.inD,S.low⟩
   have S1:St Z env c.vars ρ CA r.2 (DI D I J) h1':=S.stepGrow k1 c1 (fun b q=>q.imp id fun z=>z.elim (fun z=>z▸nI) fun z=>z▸nJ) fun b q=> .inl q
   have C1:gE Z (DI D I J) h1' acc (.lst us0):=C.mono (fun o e=>k1 _ o e hca) fun b o q e=>⟨fun z=>z.elim q fun z=>z.elim (fun z=>ar nI.none (z▸e)) fun z=>ar nJ.none (z▸e),(S.toGd.old k1 b o q e).2⟩
   refine wpAny_runOwn (h:=none) ?_
   show Pr _ A _ _ _
   refine kW hg rfl (fun Q X hq=>qY (s:={s with heap:=h1',toks:=t1}) IT hq) ?_
   refine pi (s:={s with heap:=h1',toks:=t1}) (q:=(us0++q.1,q.2)) SB EO Rm EM hg rfl hc2.1 (pA hc2.1 hc3.1) hc5.2 G hca (fun j U e=>let h:=(i9.mp e).1;⟨fun m=>h (TC _ m),fun m=>h (Ri _ m)⟩) (by rw [Nj];exact hz)
    ⟨aw.refl,S1.less fun y j U m e=>⟨m,(i9.mp e).2⟩,C1,IT,ev,rfl,rfl⟩ fun h' tk k2 S2 C2=> ?_
   exact h h' tk (aw.fresh (k1.weaken fun b w=> .inr (.inl w)) k2 fun b w=>w.imp id fun w=>w.elim (fun w=>w▸nI.none) fun w=>w▸nJ.none) S2 C2
end
theorem vD:∀{gs:List N0} {cgs:List CG} {vs:eF},jZ gs cgs=some vs→∀x i,(x,i)∈vs→i∈Dy cgs:=by
 intro gs
 induction gs with
 |nil=>intro cgs vs e x i m;cases Ng (bU e).2;cases m
 |cons g gs ih=>
  intro cgs vs e x i m
  cases cgs with
  |nil=>cases e
  |cons cg cgs=>
   obtain ⟨t,it,ifs⟩:=cg
   refine af e fun v1 e1 e=>am e fun v2 e2 e=> ?_
   subst e
   refine Nx.mpr ((Nx.mp m).imp (fun m=> ?_) fun m=>ih e2 x i m)
   refine hK e1 (fun y p j _ h q=> ?_) fun y p y' p' z w j j' _ h q=> ?_ <;>rw [q] at m<;>have h:t=_:=h<;>rw [h]
   ·cases NU.mp m;exact .head _
   ·rcases NN.mp m with z|z
    ·cases z;exact .head _
    ·cases NU.mp z;exact .tail _ (.head _)
section
variable {Z:Wd} {n:Nat} {E:Ev} {c:Ctx} {env:Env} {A:N4} {s:Nn} {ρ:Loc} {σ σ':ag} {CA:List Addr} {D:Addr→Prop} {X:Nk→Nn→Prop} {p:N2} {loose:List Str} {mg mb:Str→Nh Nk} {k:Nat} {h:Heap}
structure G8 (c:Ctx) (scope:Po):Prop where
 kind:scope.kind= .function
 cell:∀x∈scope.names,x.2≠ .cell
 loc:∀x∈scope.names,x.2= .local→scope.names.lookup x.1=some .local
 free:∀x∈scope.names,x.2= .free→c.sc.names.lookup x.1=some .cell
theorem ju {α:Type} [BEq α] [LawfulBEq α] {a b:α} (h:(a !=b)=true):a≠b:=fun e=>by subst e;rw [UK] at h;cases h
theorem tA {scope:Po} (e:tp c scope=true):G8 c scope:=
 let e1:=ac e;let e2:=ac e1.1;let e3:=ac e2.1
 ⟨Nv e3.1,fun x m=>ju (NC.mp e3.2 x m),fun x m z=>(O6.mp (NC.mp e2.2 x m)).elim (fun w=>(ju w z).elim) Nv,fun x m z=>(O6.mp (NC.mp e1.2 x m)).elim (fun w=>(ju w z).elim) Nv⟩
theorem lK {scope:Po} (EO:az env c):relabel scope env=jq scope c.sc:=by
 have:relabel scope env=jq scope env.scope:=rfl
 rw [this,EO.sc]
theorem St.enter (S:St Z env c.vars ρ CA σ D h) (EO:az env c) {scope:Po} (so:G8 c scope) {C:Addr} (ns:∃m,h.Ns C m) (dC:D C) (nCA:C∉CA) {cl:List (Str×Addr)}
  (cl1:∀x∈scope.names,x.2= .free→cl.lookup x.1=env.cells.lookup x.1) (cl2:∀x a,cl.lookup x=some a→env.cells.lookup x=some a) {gens:List N0} {cgs:List CG} {vs:eF} (hv:jZ gens cgs=some vs):
  St Z (compEnvC scope cl C env) (fS c scope vs).vars (qT (Dy cgs) ρ) CA σ D h where
 toGd:=S.toGd
 ns:=ns
 nsD:=dC
 nsCA:=nCA
 pc:=fun x q l=>S.pc x q (cl2 x q l)
 pinj:=fun x y q a b=>S.pinj x y q (cl2 x q a) (cl2 y q b)
 pcel:=fun x e=>by
  have e':(jq scope c.sc).names.lookup x=some .cell:=by rw [←lK EO];exact e
  rw [jq,gV] at e'
  refine am e' fun kx e1 e2=> ?_
  have m:=gI e1
  split at e2
  ·rename_i hh
   simp only [Bool.and_eq_true,beq_iff_eq] at hh
   have hf:=hh.1.1
   subst hf
   have:=cl1 _ m rfl
   obtain ⟨q,hq⟩:=S.pcel x (by unfold PJ;rw [EO.sc];exact hh.2)
   exact ⟨q,this.trans hq⟩
  ·subst e2;exact (so.cell _ m rfl).elim
 vars:=fun x i m U e=>by
  obtain ⟨ni,e⟩:=i9.mp e
  rcases Nx.mp m with m|m
  ·exact (ni (vD hv x i m)).elim
  ·rw [QM] at m
   refine Nf fun nG=> ?_
   obtain ⟨m,hf⟩:=m
   have hf:scope.names.lookup x=some .free:=by simpa using hf
   have mm:=gI hf
   have kc:env.kindOf x=some .cell:=by unfold PJ;rw [EO.sc];exact so.free _ mm rfl
   obtain ⟨v,sl,r⟩:=S.vars x i m U e
   refine nG ?_
   refine ⟨v,?_,r⟩
   have kc':(compEnvC scope cl C env).kindOf x=some .cell:=by
    show (relabel scope env).names.lookup x=some .cell
    rw [lK EO,jq,gV,hf]
    have:=so.free _ mm rfl
    simp [EO.kind,this]
   rcases sl with ⟨a,_⟩|⟨_,q,l,ic⟩
   ·rw [kc] at a;cases a
   ·exact .inr ⟨.inl kc',q,(cl1 _ mm rfl).trans l,ic⟩
theorem oc {vars:eF} (e:ti vars=true):j3 vars:=⟨fun x i y j m m'=>by
 have:(decide (x=y)==decide (i=j))=true:=NC.mp (NC.mp e _ m) _ m'
 exact OW.mp (Nv this)⟩
structure o7 (Z:Wd) (k:Nat) (c:Ctx) (elt:Expr) (gens:List N0) (scope:Po) (eltc:CE) (cgs:List CG) (vs:eF):Prop where
 hv:jZ gens cgs=some vs
 so:G8 c scope
 vo:j3 (fS c scope vs).vars
 gs:tW (au Z.fname k) c (fS c scope vs) gens cgs=true
 he:au Z.fname k (fS c scope vs) elt eltc=true
theorem mS {elt:Expr} {gens:List N0} {scope:Po} {eltc:CE} {cgs:List CG} (h:((jZ gens cgs).any fun vs=>tp c scope&&(ti (fS c scope vs).vars&&(tW (au Z.fname k) c (fS c scope vs) gens cgs&&au Z.fname k (fS c scope vs) elt eltc)))=true):
  ∃vs,o7 Z k c elt gens scope eltc cgs vs:=let ⟨vs,h1,h2⟩:=bO h;let h3:=ac h2;let h4:=ac h3.2;let h5:=ac h4.2;⟨vs,h1,tA h3.1,oc h4.1,h5.1,h5.2⟩
structure BF (Z:Wd) (env:Env) (c:Ctx) (ρ:Loc) (CA:List Addr) (σ':ag) (D:Addr→Prop) (us:List V) (g h':Heap) (a C:Addr):Prop where
 keep:aw (We CA) g h'
 st:St Z env c.vars ρ CA σ' (DC D C) h'
 na:dM Z g h' a
 nC:dM Z g h' C
 ne:a≠C
 cont:gE Z (DC (DC D C) a) h' a (.lst us)
 cells:aF Z CA σ' (DC (DC D C) a) h'
 ns:∃m,h'.Ns C m
theorem rT (O:Wd.Ok Z p loose mg mb) (SE:bK Z n E) (SB:gX Z n E) {elt:Expr} {gens:List N0} {scope:Po} {pos pos':Pos} {eltc:CE} {cgs:List CG} {q:List V×ag} {vs:eF} (K:o7 Z k c elt gens scope eltc cgs vs)
  (EO:az env c) (S:St Z env c.vars ρ CA σ D s.heap) (R:aN n A) (ev:dQ E eltc cgs ρ σ=some q) (hz:q.1.length≤16777216) {use:Nh (Nk→Sem Unit)} {Q:Nk→Nn→Prop}
  (h:∀a C h' tk,BF Z env c ρ CA q.2 D q.1 s.heap h' a C→
   match use with
   |none=>∀h'',Pe C h' h''→Q (.ref a) {s with heap:=h'',toks:=tk}
   |some u=>Ny (model Z.prog Z.w) A (u (.ref a)) (fun _ s''=>∃m,s''.heap.Ns C m∧∀h'',Pe C s''.heap h''→Q .none {s'' with heap:=h''}) X {s with heap:=h',toks:=tk}):
  Ny (model Z.prog Z.w) A (comprehension (.ListComp elt gens scope pos) scope env pos' (newList []) (firstAsync gens) (firstIter gens env) use) Q X s:=by
 refine Nf fun nG=> ?_
 obtain ⟨hv,so,hvo,h1s,he⟩:=K
 obtain ⟨g,gs,rfl,h1s⟩:=cV (us:=gens) h1s
 obtain ⟨cg,cgs,rfl,h1s⟩:=cV (us:=cgs) h1s
 obtain ⟨t,it,ifs⟩:=cg
 obtain ⟨tt,ii,ff,aa⟩:=g
 have hc1:=ac (ac h1s).1
 have hc2:=ac hc1.2
 have hc3:=ac hc2.2
 have hc4:=ac hc3.2
 have hc5:=ac hc4.2
 have h0:aa=0:=Nv hc1.1
 subst h0
 obtain ⟨cl,hcl,cl1,cl2⟩:=nK (scope:=scope) (env:=env) fun x m z=>S.pcel x.1 (by unfold PJ;rw [EO.sc];exact so.free x m z)
 refine nG ?_
 refine af ev fun r e1 ev=> ?_
 refine wpAny_comprehension_free (cl:=cl) rfl (fun x=>i5 hc4.1) hcl so.kind so.loc (qq O SE hc5.1 EO S R e1 _ X fun I J h1' t1 k1 c1 nI nJ IT=> ?_)
 refine UL (wpAny_newFunctionEnv so.cell (by intro y hy;simp at hy) (fun h₁ hns₁ hsb₁=> ?_) so.kind) (by size_fits)
 dsimp only at hns₁ hsb₁ ⊢
 generalize ha:h1'.objs.size=a at hns₁ hsb₁ ⊢
 generalize hH2:h1'.push {cls:= .type "list",dict:=none,data:= .seq ([]:List Nk).toArray}=H2 at hns₁ hsb₁ ⊢
 generalize hC:H2.objs.size=C at hns₁ hsb₁ ⊢
 have hCa:C=a+1:=by rw [←hC,←hH2,Ra,ha]
 have aC:a≠C:=by rw [hCa];exact (SL _).symm
 have g12:bM h1' h₁:=fun b o e=>hsb₁.extBut b o (fun z=>by rw [z,hCa,←ha] at e;exact absurd (NY e) (Pt.mpr (NQ _))) (NM _ (hH2▸NM _ e))
 have hacc:h₁.PlainList a #[]:=⟨_,hsb₁.extBut _ _ aC (NM _ (by rw [←ha];exact hH2▸N1 _ rfl))⟩
 have ge_a:h1'.objs.size≤a:=by rw [ha];exact Nz _
 have ge_C:h1'.objs.size≤C:=by rw [hCa,←ha];exact NQ _
 have c1':aF Z CA r.2 D h1':=c1.shift (fun b _ _ d=> .inl d) S.cells.inD
 have na:dM Z s.heap h₁ a:= .of S.toGd k1 c1' ge_a ⟨_,hacc.choose_spec⟩
 have nC:dM Z s.heap h₁ C:= .of S.toGd k1 c1' ge_C (let ⟨o,_,_,e,_⟩:=hns₁;⟨o,e⟩)
 have lt:∀{b x},dM Z s.heap h1' b→h1'.objs.size≤x→b≠x:=fun n l z=>let ⟨o,e⟩:=n.live;absurd (NY e) (Pt.mpr (z▸l))
 have up:∀b o,¬DI D I J b→h1'.get? b=some o→¬DI (DI D a C) I J b∧h₁.get? b=some o:=fun b o q e=>
  ⟨fun z=>z.elim (fun z=>z.elim (fun w=>q (.inl w)) fun z=>z.elim (fun z=>ar (gi ge_a) (z▸e)) fun z=>ar (gi ge_C) (z▸e)) fun z=>q (.inr z),g12 b o e⟩
 have c2:aF Z CA r.2 (DI (DI D a C) I J) h₁:=⟨c1.len,c1.nodup,fun i b u e e'=>(c1.at_ i b u e e').mono (fun o x=>g12 b o x) up,fun b m=> .inl (.inl (S.cells.inD b m))⟩
 have k2:aw (We CA) s.heap h₁:=k1.trans (aw.of_all g12)
 have nI2:dM Z s.heap h₁ I:=⟨nI.none,nI.base,let ⟨o,e⟩:=nI.live;⟨o,g12 _ _ e⟩⟩
 have nJ2:dM Z s.heap h₁ J:=⟨nJ.none,nJ.base,let ⟨o,e⟩:=nJ.live;⟨o,g12 _ _ e⟩⟩
 have S2:St Z env c.vars ρ CA r.2 (DI (DI D a C) I J) h₁:=S.stepGrow k2 c2 (fun b q=>q.elim (fun q=>q.imp id fun q=>q.elim (fun q=>q▸na) fun q=>q▸nC) fun q=> .inr (q.elim (fun q=>q▸nI2) fun q=>q▸nJ2)) fun b q=> .inl (.inl q)
 have nDa:=S.toGd.fresh_notD na.none
 have nDC:=S.toGd.fresh_notD nC.none
 have S3:=S2.enter EO so (C:=C) ⟨_,hns₁⟩ (.inl (.inr (.inr rfl))) (fun m=>nDC (S.cells.inD _ m)) cl1 cl2 hv
 have EO3:az (compEnvC scope cl C env) (fS c scope vs):=⟨lK EO,so.kind,EO.glb,EO.blt,hvo⟩
 have G:qw Z (compEnvC scope cl C env) CA (DI D a C) I J a:=⟨fun z=>z.elim (S.toGd.fresh_notD nI.none) fun z=>z.elim (lt nI ge_a) (lt nI ge_C),fun z=>z.elim (S.toGd.fresh_notD nJ.none) fun z=>z.elim (lt nJ ge_a) (lt nJ ge_C),.inr (.inl rfl),.inr (.inr rfl),
  fun x q l=> .inl (S.pc x q (cl2 x q l)).1,fun b m=> .inl (S.cells.inD b m),.inl S.low⟩
 have EM:=Fk (CA:=CA) (A:=A) (acc:=a) (pos:=pos) (scope:=scope) (gens:=⟨tt,ii,ff,0⟩::gs) O SE SB EO3 R he gs cgs 1 rfl (ac h1s).2
 have IT3:=IT.mono (fun o e=>g12 _ o e) (fun o e=>g12 _ o e) up
 refine kW (g:=⟨tt,ii,ff,0⟩) (s:={s with heap:=h₁,toks:=_}) rfl rfl (fun Q X hq=>qY (s:={s with heap:=h₁,toks:=_}) IT3 hq) ?_
 refine pi (env:=compEnvC scope cl C env) (c:=fS c scope vs) (s:={s with heap:=h₁,toks:=_}) (D:=DI D a C) (us0:=[]) (q:=q) SB EO3 R EM rfl rfl hc2.1 (pA hc2.1 hc3.1) hc5.2 G (fun m=>nDa (S.cells.inD _ m))
  (fun j U e=>let h:=(i9.mp e).1;⟨fun m=>h (TC _ m),fun m=>h (Ri _ m)⟩) hz ⟨aw.refl,S3,⟨N5 _,#[],hacc,.nil⟩,IT3,ev,rfl,rfl⟩ fun h' tk k3 S4 C4=> ?_
 have k4:aw (We CA) s.heap h':=aw.fresh k2 k3 fun b w=>by
  rcases w with (rfl|w|rfl)|rfl|rfl
  ·exact .inr na.none
  ·exact .inl w
  ·exact .inr nC.none
  ·exact .inr nI.none
  ·exact .inr nJ.none
 have nC4:dM Z s.heap h' C:=⟨nC.none,nC.base,let ⟨_,o,_,_,e,_⟩:=S4.ns;⟨o,e⟩⟩
 have sw:∀b,DC (DC D C) a b→DI D a C b:=fun b z=>z.elim (fun z=>z.imp id .inr) fun z=> .inr (.inl z)
 have fin:=h a C h' tk ⟨k4,S.stepGrow k4 (S4.cells.shift (fun b o e q=>q.imp id .inr) fun b m=> .inl (S.cells.inD b m)) (fun b q=>q.imp id fun (z:b=C)=>z▸nC4) fun b q=> .inl q,⟨na.none,na.base,C4.live⟩,nC4,aC,
  C4.mono (fun o e=>e) fun b o q e=>⟨fun z=>q (sw b z),e⟩,S4.cells.shift (fun b o e q=>sw b q) fun b m=> .inl (.inl (S.cells.inD b m)),S4.ns⟩
 cases use with
 |none=>exact let ⟨m,hm⟩:=S4.ns;⟨m,hm,fin⟩
 |some u=>exact fin
theorem xr (O:Wd.Ok Z p loose mg mb) (SE:bK Z n E) (SB:gX Z n E) {elt:Expr} {gens:List N0} {scope:Po} {pos:Pos} {eltc:CE} {cgs:List CG} {vs:eF} {q:List V×ag} (K:o7 Z k c elt gens scope eltc cgs vs)
  (EO:az env c) (S:St Z env c.vars ρ CA σ D s.heap) (R:aN n A) (ev:dQ E eltc cgs ρ σ=some q) (hz:q.1.length≤16777216):eJ Z A CA D q.2 (.own (.lst q.1)) (eval (.ListComp elt gens scope pos) env) s:=by
 intro Q X h
 rw [eval_ListComp]
 refine rT O SE SB K EO S R ev hz (use:=none) fun a C h' tk L=>fun h'' hs=> ?_
 have nDC:=S.toGd.fresh_notD L.nC.none
 have at1:∀(i:Nat) (b:Addr),CA[i]? =some b→∀o,h'.get? b=some o→h''.get? b=some o:=fun i b e o x=>hs.extBut b o (fun (z:b=C)=>nDC (z▸S.cells.inD b (NF e))) x
 have sub:∀b o,¬DC (DC D C) a b→h'.get? b=some o→¬DC D a b∧h''.get? b=some o:=fun b o q e=>⟨fun z=>q (z.imp .inl id),hs.extBut b o (fun z=>q (.inl (.inr z))) e⟩
 refine h (.ref a) h'' tk (L.keep.fresh (aw.sameBut hs rfl (W:=fun b=>b=C)) fun b w=> .inr (w▸L.nC.none)) ?_ ⟨a,rfl,L.na.none,L.na.base,L.cont.mono (fun o e=>hs.extBut _ o L.ne e) sub,L.cells.len,L.cells.nodup,fun i b u e e'=>(L.cells.at_ i b u e e').mono (at1 i b e) sub,fun b m=> .inl (S.cells.inD b m)⟩
 exact ⟨L.cells.len,L.cells.nodup,fun i b u e e'=>(L.st.cells.at_ i b u e e').mono (at1 i b e) fun b o q e=>⟨fun z=>q (.inl z),hs.extBut b o (fun z=>q (.inr z)) e⟩,fun b m=>S.cells.inD b m⟩
end
section
variable {Z:Wd} {n:Nat} {E:Ev} {p:N2} {loose:List Str} {mg mb:Str→Nh Nk}
abbrev Ji (Z:Wd) (A:N4) (CA:List Addr) (D:Addr→Prop) (env:Env) (s:Nn) (e:Expr) (q:aA×ag):Prop:=eJ Z A CA D q.2 q.1 (eval e env) s∧v9 Z A CA D q.2 q.1 e env s
theorem jO {A:N4} {CA:List Addr} {D:Addr→Prop} {q:aA×ag} {env:Env} {s:Nn} {e:Expr} (h:eJ Z A CA D q.2 q.1 (eval e env) s) (he:isTrue e env (eval e env)=(do let v←eval e env;standAt e.pos;holding [v] (truthy v))):
  Ji Z A CA D env s e q:=⟨h,h.tr he⟩
end
section
variable {fn:Nat→Nh Str} {k:Nat} {c:Ctx} {e:Expr} {ce ce' cd:CE} {cs:List CE}
theorem Ib {P:Prop} {f:gU} (h:au fn (k+1) c e (.attr ce f)=true) (K:∀a p,e= .Attribute a (fs f) p→dR a=true→au fn k c a ce=true→P):P:=by
 refine ax h fun q h1 h2=> ?_
 have a:=ac h2
 exact K q.1 q.2.2 (by rw [lL h1,Nv a.1]) ((ac a.2).1) ((ac a.2).2)
theorem Jq {P:Prop} (h:au fn (k+1) c e (.idx ce ce')=true) (K:∀a b p,e= .Subscript a b p→jn b=true→au fn k c a ce=true→au fn k c b ce'=true→P):P:=by
 refine ax h fun q h1 h2=> ?_
 obtain ⟨p,e1⟩:=ku h1
 have a:=ac h2
 exact K q.1 q.2 p e1 a.1 ((ac a.2).1) ((ac a.2).2)
theorem Kb {P:Prop} {lo hi:Nh CE} (h:au fn (k+1) c e (.slc ce lo hi)=true) (K:∀a l u p1 p,e= .Subscript a (.Slice l u none p1) p→au fn k c a ce=true→wz (au fn k c) l lo=true→wz (au fn k c) u hi=true→P):P:=by
 refine ax h fun q h1 h2=> ?_
 obtain ⟨p,e1⟩:=ku h1
 have a:=ac h2
 refine ax a.2 fun r h3 h4=> ?_
 obtain ⟨p1,e2⟩:=rL h3
 have b:=ac h4
 exact K q.1 r.1 r.2.1 p1 p (by rw [e1,e2,Oz.mp b.1]) a.1 ((ac b.2).1) ((ac b.2).2)
theorem JZ {P:Prop} (h:au fn (k+1) c e (.rev ce)=true) (K:∀a kk q1 q2 p1 p,e= .Subscript a (.Slice none none (some (.UnaryOp .USub (.Constant (.int 1) kk q1) q2)) p1) p→au fn k c a ce=true→P):P:=by
 refine ax h fun q h1 h2=> ?_
 obtain ⟨p,e1⟩:=ku h1
 have a:=ac h2
 refine ax a.2 fun r h3 h4=> ?_
 obtain ⟨p1,e2⟩:=rL h3
 have b:=ac h4
 have d:=ac b.2
 refine ax d.2 fun x e3 h5=> ?_
 obtain ⟨kk,q1,q2,e4⟩:=mZ h5
 exact K q.1 kk q1 q2 p1 p (by rw [e1,e2,Oz.mp b.1,Oz.mp d.1,e3,e4]) a.1
theorem Ks {P:Prop} {o:Fa} (h:au fn (k+1) c e (.bin o ce ce')=true) (K:∀a b p,e= .BinOp a (E1 o) b p→au fn k c a ce=true→au fn k c b ce'=true→P):P:=by
 refine ax h fun q h1 h2=> ?_
 obtain ⟨p,e1⟩:=zu h1
 have a:=ac h2
 exact K q.1 q.2.2 p (by rw [e1,Nu a.1]) ((ac a.2).1) ((ac a.2).2)
theorem F0 {P:Prop} {o:um} (h:au fn (k+1) c e (.cmp ce o ce')=true) (K:∀a b p,e= .Compare a [eD o] [b] p→au fn k c a ce=true→fh b=true→au fn k c b ce'=true→P):P:=by
 refine ax h fun q h1 h2=> ?_
 obtain ⟨p,e1⟩:=qZ h1
 have a:=ac h2
 have b:=ac a.2
 refine hO b.2 fun r e2 h3=> ?_
 exact K q.1 r p (by rw [e1,Nu a.1,e2]) b.1 ((ac h3).1) ((ac h3).2)
theorem HS {P:Prop} {o o':um} (h:au fn (k+1) c e (.cmp2 ce o ce' o' cd)=true) (K:∀a b d p,e= .Compare a [eD o,eD o'] [b,d] p→au fn k c a ce=true→fh b=true→fh d=true→au fn k c b ce'=true→au fn k c d cd=true→P):P:=by
 refine ax h fun q h1 h2=> ?_
 obtain ⟨p,e1⟩:=qZ h1
 have a:=ac h2
 have b:=ac a.2
 obtain ⟨r,r',e2,h3⟩:=lZ b.2
 have d:=ac h3
 exact K q.1 r r' p (by rw [e1,Nu a.1,e2]) b.1 d.1 ((ac d.2).1) ((ac (ac d.2).2).1) ((ac (ac d.2).2).2)
theorem BK {P:Prop} {o:BoolOp} (h:(sH e).any (fun q=>decide (q.1=o)&&d8 (au fn k c) q.2 cs)=true) (K:∀es p,e= .BoolOp o es p→d8 (au fn k c) es cs=true→P):P:=by
 refine ax h fun q h1 h2=> ?_
 obtain ⟨p,e1⟩:=wj h1
 have a:=ac h2
 exact K q.2 p (by rw [e1,Nu a.1]) a.2
theorem KC {P:Prop} (h:au fn (k+1) c e (.not ce)=true) (K:∀a p,e= .UnaryOp .Not a p→au fn k c a ce=true→P):P:=by
 refine ax h fun q h1 h2=> ?_
 obtain ⟨p,e1⟩:=vM h1
 have a:=ac h2
 exact K q.2 p (by rw [e1,Nu a.1]) a.2
theorem Kz {P:Prop} (h:au fn (k+1) c e (.ite ce ce' cd)=true) (K:∀a b d p,e= .IfExp a b d p→au fn k c a ce=true→au fn k c b ce'=true→au fn k c d cd=true→P):P:=by
 refine ax h fun q h1 h2=> ?_
 obtain ⟨p,e1⟩:=BH h1
 have a:=ac h2
 exact K q.1 q.2.1 q.2.2 p e1 a.1 ((ac a.2).1) ((ac a.2).2)
theorem Ek {P:Prop} {i:Nat} (h:au fn (k+1) c e (.callF i cs)=true) (K:∀f np es p,e= .Call (.Name f np) es [] p→eW c f=true→fn i=some f→d8 (au fn k c) es cs=true→P):P:=by
 refine ax h fun q h1 h2=> ?_
 obtain ⟨np,p,e1⟩:=cW h1
 have a:=ac h2
 have b:=ac a.2
 exact K q.1 np q.2 p e1 a.1 (Nv b.1) b.2
theorem yu {P:Prop} {x:Str} (h:(fT e).any (fun q=>eW c q.1&&(q.1==x&&d8 (au fn k c) q.2 cs))=true) (K:∀np es p,e= .Call (.Name x np) es [] p→eW c x=true→d8 (au fn k c) es cs=true→P):P:=by
 refine ax h fun q h1 h2=> ?_
 obtain ⟨np,p,e1⟩:=cW h1
 have a:=ac h2
 have b:=ac a.2
 have b1:=Nv b.1
 exact K np q.2 p (by rw [e1,b1]) (b1▸a.1) b.2
theorem EC {P:Prop} {m:EE} (h:au fn (k+1) c e (.callM ce m)=true) (K:∀a ap p,e= .Call (.Attribute a (mn m) ap) [] [] p→(ap.endLine==p.line)=true→dR a=true→au fn k c a ce=true→P):P:=by
 refine ax h fun q h1 h2=> ?_
 obtain ⟨ap,p,e1,hl⟩:=iQ h1
 have a:=ac h2
 have b:=ac a.2
 have d:=ac b.2
 exact K q.1 ap p (by rw [e1,Nv a.1,aE d.1]) hl b.1 d.2
theorem DF {P:Prop} {m:Mf} (h:au fn (k+1) c e (.callS m ce cs)=true) (K:∀a ap es p,e= .Call (.Attribute a (I7 m) ap) es [] p→(ap.endLine==p.line)=true→dR a=true→es.length <20→au fn k c a ce=true→d8 (au fn k c) es cs=true→P):P:=by
 refine ax h fun q h1 h2=> ?_
 obtain ⟨ap,p,e1,hl⟩:=iQ h1
 have a:=ac h2
 have b:=ac a.2
 have d:=ac b.2
 exact K q.1 ap q.2.2 p (by rw [e1,Nv a.1]) hl b.1 (Nu d.1) ((ac d.2).1) ((ac d.2).2)
end
section
variable {Z:Wd} {n:Nat} {E:Ev} {p:N2} {loose:List Str} {mg mb:Str→Nh Nk}
set_option maxHeartbeats 1000000 in
theorem rI (O:Wd.Ok Z p loose mg mb) (M:xg Z) (SE:bK Z n E) (SB:gX Z n E) (SC:pR Z n E) {k:Nat} {c:Ctx} {e:Expr} {ce:CE} (hc:au Z.fname k c e ce=true) {env:Env} {A:N4} {s:Nn} {ρ:Loc} {σ:ag} {CA:List Addr} {D:Addr→Prop} {q:aA×ag}
  (EO:az env c) (S:St Z env c.vars ρ CA σ D s.heap) (R:aN n A) (ev:dT Z.P E ce ρ σ=some q):Ji Z A CA D env s e q:=by
 refine Nf fun nG=> ?_
 cases k with
 |zero=>cases hc
 |succ k=>
  cases ce with
  |cst u=>obtain ⟨kc,h1,h2⟩:=bO hc;obtain ⟨kk,pos,he⟩:=gT h1;exact nG (he▸Ng ev▸jO (KS (Nu h2) S) rfl)
  |neg i=>obtain ⟨kk,p1,p2,he⟩:=mZ hc;exact nG (he▸Ng ev▸jO (J0 (he▸hc) S) rfl)
  |var i=>obtain ⟨x,h1,h2⟩:=bO hc;obtain ⟨pos,he⟩:=aY h1;exact am ev fun U e1 ev=>nG (he▸ev▸jO (J2 h2 EO S e1) rfl)
  |glob g=>
   refine ax hc fun x h1 h2=> ?_
   obtain ⟨pos,he⟩:=aY h1
   have a:=ac h2
   rw [Nv a.2] at he a
   exact am ev fun t e1 ev=>nG (he▸ev▸jO (Ip O a.1 EO S e1) rfl)
  |tup cs=>obtain ⟨es,h1,h2⟩:=bO hc;obtain ⟨kk,pos,he⟩:=kz h1;exact af ev fun r e1 ev=>aL ev fun hz ev=>nG (he▸Ng ev▸jO (Jv SE h2 EO S R e1 (eC hz)) rfl)
  |lst cs=>obtain ⟨es,h1,h2⟩:=bO hc;obtain ⟨pos,he⟩:=zO h1;exact af ev fun r e1 ev=>aL ev fun hz ev=>nG (he▸Ng ev▸jO (JF SE h2 EO S R e1 (eC hz)) rfl)
  |dct0=>
   refine ax hc fun q h1 h2=> ?_
   obtain ⟨pos,he⟩:=yK h1
   have a:=ac h2
   rw [aE a.1,aE a.2] at he
   exact nG (he▸Ng ev▸jO (G5 O S) rfl)
  |attr ce f=>exact Ib hc fun a pos he h1 h2=>af ev fun r e1 ev=>am ev fun w e2 ev=>nG (he▸ev▸jO (IN O SE h1 h2 EO S R e1 e2) rfl)
  |idx ce ci=>exact Jq hc fun a b pos he h1 h2 h3=>af ev fun r e1 ev=>am ev fun w e2 ev=>nG (he▸ev▸jO (Kr SE h1 h2 h3 EO S R e1 e2) rfl)
  |slc ce lo hi=>exact Kb hc fun a l u p1 pos he h1 h2 h3=>af ev fun r e1 ev=>af ev fun a e2 ev=>af ev fun b e3 ev=>am ev fun w e4 ev=>nG (he▸ev▸jO (Jz SE h1 h2 h3 EO S R e1 e2 e3 e4) rfl)
  |rev ce=>exact JZ hc fun a kk q1 q2 p1 pos he h1=>af ev fun r e1 ev=>am ev fun us e2 ev=>nG (he▸ev▸jO (Ku SE h1 EO S R e1 e2) rfl)
  |bin o a b=>exact Ks hc fun l r pos he h1 h2=>af ev fun r e1 ev=>am ev fun w e2 ev=>nG (he▸ev▸jO (JV SE h1 h2 EO S R e1 e2) rfl)
  |cmp a o b=>exact F0 hc fun l r pos he h1 h2 h3=>af ev fun r e1 ev=>am ev fun w e2 ev=>nG (he▸ev▸JC SE h2 h1 h3 EO S R e1 e2)
  |cmp2 a o b o' d=>
   refine HS hc fun l r r' pos he h1 h2 h3 h4 h5=> ?_
   refine af ev fun rr e1 ev=> ?_
   refine qo ev fun x y hq ev=> ?_
   refine af ev fun t e2 ev=> ?_
   cases t with
   |false=>exact nG (he▸Ng ev▸B1 SE h3 h1 h4 h5 EO S R e1 hq e2 (.inl ⟨rfl,rfl,rfl⟩))
   |true=>exact af ev fun z e3 ev=>am ev fun w e4 ev=>nG (he▸ev▸B1 SE h3 h1 h4 h5 EO S R e1 hq e2 (.inr ⟨rfl,z.1,e3,e4⟩))
  |and cs=>exact BK hc fun es pos he h1=>am ev fun r e1 ev=>nG (he▸ev▸FX (t:=true) SE SB h1 EO S R e1)
  |or cs=>exact BK hc fun es pos he h1=>am ev fun r e1 ev=>nG (he▸ev▸FX (t:=false) SE SB h1 EO S R e1)
  |not ce=>exact KC hc fun a pos he h1=>am ev fun r e1 ev=>nG (he▸ev▸KL SE SB h1 EO S R e1)
  |ite x y z=>exact Kz hc fun a b d pos he h1 h2 h3=>af ev fun r e1 ev=>nG (he▸KA SE SB h1 h2 h3 EO S R e1 ev)
  |callF i cs=>exact Ek hc fun f np es pos he h1 h2 h3=>af ev fun r e1 ev=>af ev fun rr e2 ev=>am ev fun U e3 ev=>nG (he▸ev▸jO (E2 O SE SC h1 h2 h3 EO S R e1 e2 e3) rfl)
  |mk kc cs=>exact yu hc fun np es pos he h1 h2=>af ev fun r e1 ev=>am ev fun w e2 ev=>nG (he▸ev▸jO (LU O M SE h1 h2 EO S R e1 e2) rfl)
  |callB b cs=>exact yu hc fun np es pos he h1 h2=>af ev fun r e1 ev=>am ev fun w e2 ev=>nG (he▸ev▸jO (DY O SE h1 h2 EO S R e1 e2) rfl)
  |callM ce m=>exact EC hc fun a ap pos he hl h1 h2=>af ev fun r e1 ev=>af ev fun pp e2 ev=>af ev fun i e3 ev=>af ev fun rr e4 ev=>am ev fun U e5 ev=>nG (he▸ev▸jO (Fj O SE SC h1 hl h2 EO S R e1 e2 e3 e4 e5) rfl)
  |callS m ce cs=>
   refine DF hc fun a ap es pos he hl h1 h2 h3 h4=> ?_
   refine nG (he▸jO ?_ rfl)
   cases m with
   |append=>exact Ct O SE h1 hl h2 h3 h4 EO S R ev
   |pop=>exact KR O SE h1 hl h2 h3 h4 EO S R ev
   |startswith=>exact oM O SE h1 hl h2 h3 h4 EO S R ev
   |split=>exact oM O SE h1 hl h2 h3 h4 EO S R ev
   |index=>exact oM O SE h1 hl h2 h3 h4 EO S R ev
   |get=>exact oM O SE h1 hl h2 h3 h4 EO S R ev
  |comp elt cgs=>
   refine ax hc fun q h1 h2=> ?_
   obtain ⟨pos,he⟩:=o8 h1
   obtain ⟨vs,K⟩:=mS h2
   exact af ev fun r e1 ev=>aL ev fun hz ev=>nG (he▸Ng ev▸jO (xr O SE SB K EO S R e1 (eC hz)) rfl)
  |stuck=>cases ev
theorem zg (O:Wd.Ok Z p loose mg mb) (M:xg Z) (SE:bK Z n E) (SB:gX Z n E) (SC:pR Z n E):bK Z (n+1) (step Z.P E):=
 fun k c e ce hc env A s ρ σ CA D U σ' EO S R ev=>(rI O M SE SB SC (q:=(U,σ')) hc EO S (R.less (NQ _)) ev).1
theorem y8 (O:Wd.Ok Z p loose mg mb) (M:xg Z) (SE:bK Z n E) (SB:gX Z n E) (SC:pR Z n E):gX Z (n+1) (step Z.P E):=
 fun k c e ce hc env A s ρ σ CA D b σ' EO S R ev=>(rI O M SE SB SC (q:=(_,σ')) hc EO S (R.less (NQ _)) ev).2 b rfl
end
noncomputable def mr (e:Stmt):Nh (List Expr×Expr×Pos):=if h:e.ctorIdx=5 then some (SM (motive_2:=fun _=>List Expr×Expr×Pos) e h fun ts v p=>(ts,v,p)) else none
theorem rR {e:Stmt} {q:List Expr×Expr×Pos} (h:mr e=some q):e=Vj q.1 q.2.1 q.2.2:=
 let ⟨k,h⟩:=aM h
 SM (motive_2:=fun e=>∀k:e.ctorIdx=5,(SM (motive_2:=fun _=>List Expr×Expr×Pos) e k fun ts v p=>(ts,v,p))=q→e=Vj q.1 q.2.1 q.2.2) e k (fun ts v p _ h=>Nt (fun q:List Expr×Expr×Pos=>Vj q.1 q.2.1 q.2.2) (h:(ts,v,p)=q)) k h
noncomputable def wm (e:Stmt):Nh (Expr):=if h:e.ctorIdx=24 then some (TD (motive_2:=fun _=>Expr) e h fun v _=>v) else none
theorem k9 {e:Stmt} {q:Expr} (h:wm e=some q):∃p,e=V3 q p:=
 let ⟨k,h⟩:=aM h
 TD (motive_2:=fun e=>∀k:e.ctorIdx=24,(TD (motive_2:=fun _=>Expr) e k fun v _=>v)=q→∃p,e=V3 q p) e k (fun v p _ h=>⟨p,Nt (fun q:Expr=>V3 q p) (h:v=q)⟩) k h
noncomputable def GA (e:Stmt):Nh (Nh Expr):=if h:e.ctorIdx=3 then some (SN (motive_2:=fun _=>Nh Expr) e h fun v _=>v) else none
theorem zy {e:Stmt} {q:Nh Expr} (h:GA e=some q):∃p,e=Vk q p:=
 let ⟨k,h⟩:=aM h
 SN (motive_2:=fun e=>∀k:e.ctorIdx=3,(SN (motive_2:=fun _=>Nh Expr) e k fun v _=>v)=q→∃p,e=Vk q p) e k (fun v p _ h=>⟨p,Nt (fun q:Nh Expr=>Vk q p) (h:v=q)⟩) k h
noncomputable def yC (e:Stmt):Nh (Expr×List Stmt×List Stmt):=if h:e.ctorIdx=12 then some (UM (motive_2:=fun _=>Expr×List Stmt×List Stmt) e h fun t a b _=>(t,a,b)) else none
theorem zT {e:Stmt} {q:Expr×List Stmt×List Stmt} (h:yC e=some q):∃p,e=V6 q.1 q.2.1 q.2.2 p:=
 let ⟨k,h⟩:=aM h
 UM (motive_2:=fun e=>∀k:e.ctorIdx=12,(UM (motive_2:=fun _=>Expr×List Stmt×List Stmt) e k fun t a b _=>(t,a,b))=q→∃p,e=V6 q.1 q.2.1 q.2.2 p) e k (fun t a b p _ h=>⟨p,Nt (fun q:Expr×List Stmt×List Stmt=>V6 q.1 q.2.1 q.2.2 p) (h:(t,a,b)=q)⟩) k h
noncomputable def yE (e:Stmt):Nh (Expr×Expr×List Stmt×List Stmt):=if h:e.ctorIdx=9 then some (T9 (motive_2:=fun _=>Expr×Expr×List Stmt×List Stmt) e h fun t i a b _=>(t,i,a,b)) else none
theorem zA {e:Stmt} {q:Expr×Expr×List Stmt×List Stmt} (h:yE e=some q):∃p,e=V4 q.1 q.2.1 q.2.2.1 q.2.2.2 p:=
 let ⟨k,h⟩:=aM h
 T9 (motive_2:=fun e=>∀k:e.ctorIdx=9,(T9 (motive_2:=fun _=>Expr×Expr×List Stmt×List Stmt) e k fun t i a b _=>(t,i,a,b))=q→∃p,e=V4 q.1 q.2.1 q.2.2.1 q.2.2.2 p) e k (fun t i a b p _ h=>⟨p,Nt (fun q:Expr×Expr×List Stmt×List Stmt=>V4 q.1 q.2.1 q.2.2.1 q.2.2.2 p) (h:(t,i,a,b)=q)⟩) k h
noncomputable def yA (e:Stmt):Nh (Expr×List Stmt×List Stmt):=if h:e.ctorIdx=11 then some (Ti (motive_2:=fun _=>Expr×List Stmt×List Stmt) e h fun t a b _=>(t,a,b)) else none
theorem ux {e:Stmt} {q:Expr×List Stmt×List Stmt} (h:yA e=some q):∃p,e=VN q.1 q.2.1 q.2.2 p:=
 let ⟨k,h⟩:=aM h
 Ti (motive_2:=fun e=>∀k:e.ctorIdx=11,(Ti (motive_2:=fun _=>Expr×List Stmt×List Stmt) e k fun t a b _=>(t,a,b))=q→∃p,e=VN q.1 q.2.1 q.2.2 p) e k (fun t a b p _ h=>⟨p,Nt (fun q:Expr×List Stmt×List Stmt=>VN q.1 q.2.1 q.2.2 p) (h:(t,a,b)=q)⟩) k h
noncomputable def B0 (e:Stmt):Nh (Unit):=if h:e.ctorIdx=27 then some (R3 (motive_2:=fun _=>Unit) e h fun _=>()) else none
theorem vS {e:Stmt} {q:Unit} (h:B0 e=some q):∃p,e=Ua p:=
 let ⟨k,h⟩:=aM h
 R3 (motive_2:=fun e=>∀k:e.ctorIdx=27,(R3 (motive_2:=fun _=>Unit) e k fun _=>())=q→∃p,e=Ua p) e k (fun p _ h=>⟨p,Nt (fun q:Unit=>Ua p) (h:()=q)⟩) k h
noncomputable def GL (e:Stmt):Nh (List Stmt×List ExceptHandler×List Stmt×List Stmt):=if h:e.ctorIdx=17 then some (Ub (motive_2:=fun _=>List Stmt×List ExceptHandler×List Stmt×List Stmt) e h fun b hs o f _=>(b,hs,o,f)) else none
theorem zN {e:Stmt} {q:List Stmt×List ExceptHandler×List Stmt×List Stmt} (h:GL e=some q):∃p,e=V5 q.1 q.2.1 q.2.2.1 q.2.2.2 p:=
 let ⟨k,h⟩:=aM h
 Ub (motive_2:=fun e=>∀k:e.ctorIdx=17,(Ub (motive_2:=fun _=>List Stmt×List ExceptHandler×List Stmt×List Stmt) e k fun b hs o f _=>(b,hs,o,f))=q→∃p,e=V5 q.1 q.2.1 q.2.2.1 q.2.2.2 p) e k (fun b hs o f p _ h=>⟨p,Nt (fun q:List Stmt×List ExceptHandler×List Stmt×List Stmt=>V5 q.1 q.2.1 q.2.2.1 q.2.2.2 p) (h:(b,hs,o,f)=q)⟩) k h
noncomputable def H6:ExceptHandler→Nh (Str×List Stmt)
 | .ExceptHandler t x b _=>if x.isNone then t.bind fun t=>(cz t).map fun x=>(x,b) else none
theorem Bh {e:ExceptHandler} {q:Str×List Stmt} (h:H6 e=some q):∃np p,e= .ExceptHandler (some (.Name q.1 np)) none q.2 p:=by
 obtain ⟨t,x,b,p⟩:=e
 refine aL h fun h1 h2=> ?_
 cases x with
 |some _=>cases h1
 |none=>
  obtain ⟨t,rfl,h3⟩:=Pp.mp h2
  obtain ⟨y,h4,rfl⟩:=map_some h3
  obtain ⟨np,rfl⟩:=aY h4
  exact ⟨np,p,rfl⟩
noncomputable def tY:Str:="OperandError"
noncomputable def wf (e:Expr):Bool:=e.ctorIdx !=25
noncomputable def cJ (c:Ctx) (x:Str) (i:Nat):Bool:=c.vars.contains (x,i)&&(c.sc.names.lookup x==some .local||c.sc.names.lookup x==some .cell)
noncomputable def wd (e:Expr):Nh (Str×Str):=(ul e).bind fun ts=>two ts fun a b=>(cz a).bind fun x=>(cz b).map fun y=>(x,y)
noncomputable def bG (f:Stmt→CS→Bool) (es:List Stmt) (cs:List CS):Bool:=List.rec (motive:=fun _=>List CS→Bool) List.isEmpty (fun e _ ih cs=>jP cs fun c cs=>f e c&&ih cs) es cs
noncomputable def xJ (c:Ctx) (f:Expr→CE→Bool) (ct ci:Expr) (t:kN) (it:It):Bool:=kd c ct t false&&(AQ t it&&(fh ci&&G9 f c ci it))
noncomputable def cA (fnm:Nat→Nh Str) (m:Nat) (c:Ctx):Nat→Stmt→CS→Bool
 |0,_,_=>false
 |n+1,st,cs=>match cs with
  | .assign i e=>(mr st).any fun q=>kJ q.1 fun t=>(cz t).any fun x=>cJ c x i&&((e.comp?.isSome||eM q.2.1)&&au fnm m c q.2.1 e)
  | .own i e=>(mr st).any fun q=>kJ q.1 fun t=>(cz t).any fun x=>cJ c x i&&((e.comp?.isSome||eM q.2.1)&&au fnm m c q.2.1 e)
  | .assignT ts es=>(mr st).any fun q=>kJ q.1 fun t=>(wd t).any fun xy=>(ul q.2.1).any fun vs=>Cq ts fun i j=> !(vs.all (constantsAlone 8))&&(vs.length==2&&(cJ c xy.1 i.1&&(cJ c xy.2 j.1&&(xy.1 !=xy.2&&d8 (au fnm m c) vs es))))
  | .unpack ts e=>(mr st).any fun q=>kJ q.1 fun t=>(wd t).any fun xy=>Cq ts fun i j=>cJ c xy.1 i&&(cJ c xy.2 j&&(xy.1 !=xy.2&&(eM q.2.1&&(wf q.2.1&&au fnm m c q.2.1 e))))
  | .setIdx x i e=>(mr st).any fun q=>kJ q.1 fun t=>(uA t).any fun r=>jn r.2&&(au fnm m c r.1 x&&(au fnm m c r.2 i&&au fnm m c q.2.1 e))
  | .expr e=>(wm st).any fun v=>eM v&&au fnm m c v e
  | .ret e=>(GA st).any fun v=>v.any fun v=>au fnm m c v e
  | .ite t a b=>(yC st).any fun q=>au fnm m c q.1 t&&(bG (cA fnm m c n) q.2.1 a&&bG (cA fnm m c n) q.2.2 b)
  | .for_ t it body=>(yE st).any fun q=>q.2.2.2.isEmpty&&(xJ c (au fnm m c) q.1 q.2.1 t it&&bG (cA fnm m c n) q.2.2.1 body)
  | .while_ t body=>(yA st).any fun q=>q.2.2.isEmpty&&(au fnm m c q.1 t&&bG (cA fnm m c n) q.2.1 body)
  | .cont=>(B0 st).isSome
  | .raise_=>st.ctorIdx==16
  | .try_ a b=>(GL st).any fun q=>q.2.2.1.isEmpty&&(q.2.2.2.isEmpty&&(bG (cA fnm m c n) q.1 a&&kJ q.2.1 fun hd=>(H6 hd).any fun r=>r.1==tY&&(eW c tY&&bG (cA fnm m c n) r.2 b)))
structure lR (Z:Wd) (h h':Heap) (CA CA':List Addr) (D D':Addr→Prop):Prop where
 pre:CA<+:CA'
 sub:∀b,D b→D' b
 sup:∀b,D' b→D b∨(b∈CA'∧dM Z h h' b)
 new:∀b∈CA',b∈CA∨dM Z h h' b
noncomputable def lE (Z:Wd) (g:Heap) (CA:List Addr) (σ:ag) (D:Addr→Prop) (h:Heap) (f:Flow):fg→Prop
 | .next=>f= .next
 | .cont=>f= .cont
 | .ret U=>∃v,f= .ret v∧iI Z g CA σ D h v U
 | .exc=>Rr
structure cu (Z:Wd) (W:Addr→Prop) (env:Env) (vars:eF) (CA:List Addr) (D:Addr→Prop) (g:Heap) (r:fg×Loc×ag) (f:Flow) (h':Heap) (CA':List Addr) (D':Addr→Prop):Prop where
 keep:aw W g h'
 ext:lR Z g h' CA CA' D D'
 st:St Z env vars r.2.1 CA' r.2.2 D' h'
 flow:lE Z g CA' r.2.2 D' h' f r.1
noncomputable def lG (Z:Wd) (A:N4) (env:Env) (vars:eF) (CA:List Addr) (D:Addr→Prop) (r:fg×Loc×ag) (t:Sem Flow) (s:Nn):Prop:=
 ∀(Q:Flow→Nn→Prop) (X:Nk→Nn→Prop),(∀f h' tk CA' D',cu Z (Ws env CA) env vars CA D s.heap r f h' CA' D'→Q f {s with heap:=h',toks:=tk})→
  Ny (model Z.prog Z.w) A t Q X s
noncomputable def fg.ok:fg→Bool
 | .exc=>false
 |_=>true
noncomputable def ji (Z:Wd) (n:Nat) (E:Ev):Prop:=∀(k m:Nat) (c:Ctx) (st:Stmt) (cs:CS),cA Z.fname m c k st cs=true→∀(env:Env) (A:N4) (s:Nn) (ρ:Loc) (σ:ag) (CA:List Addr) (D:Addr→Prop) (r:fg×Loc×ag),
 az env c→St Z env c.vars ρ CA σ D s.heap→aN n A→E.s cs ρ σ=some r→r.1.ok=true→lG Z A env c.vars CA D r (exec st env) s
section
variable {Z:Wd} {env:Env} {vars:eF} {ρ ρ' ρ'':Loc} {CA CA1 CA2:List Addr} {σ σ1 σ2:ag} {D D1 D2:Addr→Prop} {g h h1 h2:Heap} {W W':Addr→Prop} {r r':fg×Loc×ag} {f f':Flow}
theorem lR.refl (S:∀a∈CA,D a):lR Z h h1 CA CA D D:=⟨⟨[],NH _⟩,fun _ d=>d,fun _ d=> .inl d,fun _ m=> .inl m⟩
theorem St.wsLive (S:St Z env vars ρ CA1 σ D h) (p:∀a∈CA,a∈CA1) {a:Addr} (w:Ws env CA a):∃o,h.get? a=some o:=by
 rcases w with w|rfl|⟨x,_,l⟩
 ·exact S.cells.live (p a w)
 ·obtain ⟨_,o,_,_,e,_⟩:=S.ns;exact ⟨o,e⟩
 ·obtain ⟨_,_,o,e,_⟩:=S.pc x a l;exact ⟨o,e⟩
theorem aw.alive (k:aw W h h1) (l:∀a,W a→∃o,h1.get? a=some o) {a:Addr} (n:h1.get? a=none):h.get? a=none:=by
 cases e:h.get? a with
 |none=>rfl
 |some o=>exact (ar n (k a o e fun w=>let ⟨_,e'⟩:=l a w;ar n e')).elim
theorem lR.mem (x:lR Z h h1 CA CA1 D D1):∀a∈CA,a∈CA1:=fun a m=>x.pre.subset m
theorem dM.to {a:Addr} (n:dM Z h h1 a) (l:∃o,h2.get? a=some o):dM Z h h2 a:=⟨n.none,n.base,l⟩
theorem dM.from {a:Addr} (n:dM Z h1 h2 a) (al:h1.get? a=Sb→h.get? a=Sb):dM Z h h2 a:=⟨al n.none,n.base,n.live⟩
theorem lR.at (x:lR Z h h1 CA CA1 D D1) (l:∀a∈CA1,∃o,h2.get? a=some o):lR Z h h2 CA CA1 D D1:=⟨x.pre,x.sub,fun b d=>(x.sup b d).imp id fun z=>⟨z.1,z.2.to (l b z.1)⟩,fun b m=>(x.new b m).imp id fun n=>n.to (l b m)⟩
theorem lR.since (x:lR Z h1 h2 CA CA1 D D1) (al:∀a,h1.get? a=none→h.get? a=none):lR Z h h2 CA CA1 D D1:=⟨x.pre,x.sub,fun b d=>(x.sup b d).imp id fun z=>⟨z.1,z.2.from (al b)⟩,fun b m=>(x.new b m).imp id fun n=>n.from (al b)⟩
theorem lR.join (x:lR Z h h2 CA CA1 D D1) (y:lR Z h h2 CA1 CA2 D1 D2):lR Z h h2 CA CA2 D D2 where
 pre:=x.pre.trans y.pre
 sub:=fun b d=>y.sub b (x.sub b d)
 sup:=fun b d=>(y.sup b d).elim (fun d=>(x.sup b d).imp id fun z=>⟨y.pre.subset z.1,z.2⟩) .inr
 new:=fun b m=>(y.new b m).elim (x.new b) .inr
theorem lR.freshAt (x:lR Z h h1 CA CA1 D D1) (s:∀b,b∈CA→W b) {b:Addr} (w:Ws env CA1 b) (s':∀b,Wx env b→W b):W b∨h.get? b=none:=w.elim (fun w=>(x.new b w).imp (s b) fun n=>n.none) fun w=> .inl (s' b w)
theorem iI.back {v:Nk} {U:aA} (al:∀a,h1.get? a=none→h.get? a=none) (x:iI Z h1 CA2 σ2 D2 h2 v U):iI Z h CA2 σ2 D2 h2 v U:=by
 cases U with
 |v u=>exact x
 |cell k=>exact x
 |own u=>obtain ⟨a,e,n,r⟩:=x;exact ⟨a,e,al a n,r⟩
theorem lE.back {o:fg} (al:∀a,h1.get? a=none→h.get? a=none) (x:lE Z h1 CA2 σ2 D2 h2 f o):lE Z h CA2 σ2 D2 h2 f o:=by
 cases o with
 |next=>exact x
 |cont=>exact x
 |exc=>exact x
 |ret U=>obtain ⟨v,e,x⟩:=x;exact ⟨v,e,x.back al⟩
theorem cu.trans (a:cu Z W env vars CA D g r f h1 CA1 D1) (l:∀b,W b→∃o,h1.get? b=some o) (s:∀b,b∈CA→W b) (s':∀b,Wx env b→W b) (b:cu Z (Ws env CA1) env vars CA1 D1 h1 r' f' h2 CA2 D2):cu Z W env vars CA D g r' f' h2 CA2 D2:=
 have al:∀x,h1.get? x=none→g.get? x=none:=fun _ n=>a.keep.alive l n
 ⟨a.keep.fresh b.keep fun x w=>a.ext.freshAt s w s',(a.ext.at fun x m=>b.st.cells.live (b.ext.mem x m)).join (b.ext.since al),b.st,b.flow.back al⟩
theorem cu.seq (a:cu Z (Ws env CA) env vars CA D g r f h1 CA1 D1) (b:cu Z (Ws env CA1) env vars CA1 D1 h1 r' f' h2 CA2 D2):cu Z (Ws env CA) env vars CA D g r' f' h2 CA2 D2:=
 a.trans (fun _ w=>a.st.wsLive a.ext.mem w) (fun _ m=> .inl m) (fun _ w=> .inr w) b
theorem cu.of (S:St Z env vars ρ CA σ D h) (k:aw (We CA) h h1) (c:aF Z CA σ1 D h1) {o:fg} (F:lE Z h CA σ1 D h1 f o):cu Z (Ws env CA) env vars CA D h (o,ρ,σ1) f h1 CA D:=
 ⟨k.weaken fun _ w=> .inl w,lR.refl S.cells.inD,S.step k c,F⟩
theorem St.newCell (S:St Z env vars ρ CA σ D h) (k:aw (We CA) h h1) {a:Addr} {u:V} (n:dM Z h h1 a) (ct:gE Z D1 h1 a u) (c:aF Z CA σ1 D1 h1) (sub:∀b,D b→D1 b) (ha:D1 a) (sup:∀b,D1 b→D b∨dM Z h h1 b):
  St Z env vars ρ (CA++[a]) (σ1++[u]) D1 h1:=by
 have na:a∉CA:=fun m=>let ⟨_,e⟩:=S.cells.live m;ar n.none e
 have S1:St Z env vars ρ CA σ1 D1 h1:=S.stepGrow k c sup sub
 have mem:∀b∈CA++[a],b∈CA∨b=a:=fun b m=>(Nx.mp m).imp id NU.mp
 refine ⟨⟨S1.base,S1.dabove,S1.low,S1.live,?_⟩,S1.ns,S1.nsD,?_,S1.pc,S1.pinj,S1.pcel,fun x i m U e=>let ⟨v,sl,r⟩:=S1.vars x i m U e;⟨v,sl,r.more ⟨[a],rfl⟩⟩⟩
 ·refine ⟨by rw [Nj,Nj,c.len];rfl,?_,fun i b w e e'=> ?_,fun b m=>(mem b m).elim (c.inD b) fun z=>z▸ha⟩
  ·exact OL.mpr ⟨c.nodup,SO _ _,fun x mx y my z=>na ((z.trans (NU.mp my))▸mx)⟩
  ·rcases Qk i CA.length with l|l
   ·rw [Ov l] at e
    rw [Ov (c.len▸l)] at e'
    exact c.at_ i b w e e'
   ·rw [Ox l] at e
    rw [Ox (c.len▸l),←c.len] at e'
    cases hq:i -CA.length with
    |zero=>rw [hq] at e e';cases Ng e;cases Ng e';exact ct
    |succ j=>rw [hq] at e;cases e
 ·exact fun m=>(mem _ m).elim S1.nsCA fun z=>let ⟨_,o,_,_,e,_⟩:=S.ns;ar n.none (z▸e)
end
section
variable {Z:Wd} {n:Nat} {E:Ev} {c:Ctx} {env:Env} {A:N4} {s:Nn} {ρ ρ':Loc} {σ σ':ag} {CA:List Addr} {D:Addr→Prop} {o:fg}
theorem iT (SS:ji Z n E) {k m:Nat} (EO:az env c) (R:aN n A):∀{sts:List Stmt} {css:List CS},bG (cA Z.fname m c k) sts css=true→∀{s:Nn} {ρ:Loc} {σ:ag} {CA:List Addr} {D:Addr→Prop} {r:fg×Loc×ag},St Z env c.vars ρ CA σ D s.heap→aH E css ρ σ=some r→r.1.ok=true→
  lG Z A env c.vars CA D r (execs sts env) s:=by
 intro sts
 induction sts with
 |nil=>
  intro css hc s ρ σ CA D r S ev ho Q X h
  refine Nf fun nG=> ?_
  cases aE hc
  cases Ng ev
  refine nG ?_
  exact P1 (h .next s.heap s.toks CA D (.of S aw.refl S.cells rfl))
 |cons st sts ih=>
  intro css hc s ρ σ CA D r S ev ho Q X h
  refine Nf fun nG=> ?_
  obtain ⟨cs,css,rfl,hc⟩:=cV hc
  refine nG ?_
  refine af ev fun r1 e1 ev=> ?_
  refine Nf fun nG=> ?_
  obtain ⟨o1,ρ1,σ1⟩:=r1
  refine nG ?_
  cases o1 with
  |next=>
   refine Ol (SS k m c st cs (ac hc).1 env A s ρ σ CA D _ EO S R e1 rfl _ _ fun f h1 t1 CA1 D1 a1=> ?_)
   have hf:f= .next:=a1.flow
   subst hf
   exact ih (ac hc).2 (s:={s with heap:=h1,toks:=t1}) a1.st ev ho Q X fun f h2 t2 CA2 D2 a2=>h f h2 t2 CA2 D2 (a1.seq a2)
  |cont=>
   refine Nf fun nG=> ?_
   cases Ng ev
   refine nG ?_
   refine Ol (SS k m c st cs (ac hc).1 env A s ρ σ CA D _ EO S R e1 rfl _ _ fun f h1 t1 CA1 D1 a1=> ?_)
   have hf:f= .cont:=a1.flow
   subst hf
   exact h _ h1 t1 CA1 D1 a1
  |ret U=>
   cases Ng ev
   refine Ol (SS k m c st cs (ac hc).1 env A s ρ σ CA D _ EO S R e1 rfl _ _ fun f h1 t1 CA1 D1 a1=> ?_)
   obtain ⟨v,rfl,hf⟩:∃v,f= .ret v∧_:=a1.flow
   exact h _ h1 t1 CA1 D1 a1
  |exc=>cases Ng ev;cases ho
end
theorem eR {env:Env} {c:Ctx} (EO:az env c):env.scope.kind= .function:=by rw [EO.sc];exact EO.kind
theorem pT {elt:Expr} {gens:List N0} {scope:Po} {cp:Pos} {x:Str} {p:Pos} {line:Nat} {env:Env}:swapsWith (.ListComp elt gens scope cp) (some (.Name x p)) line env=pure false∨(swapsWith (.ListComp elt gens scope cp) (some (.Name x p)) line env=pure true∧env.kindOf x=some .local):=by
 unfold swapsWith
 dsimp only
 generalize hb:(env.blockKind==ScopeKind.function&&env.kindOf x==some NameKind.local&&p.line==_&& !_)=b
 cases b with
 |false=>exact .inl rfl
 |true=>exact .inr ⟨rfl,Nv (ac (ac (ac hb).1).1).2⟩
theorem ez {v:Expr} {t:Nh Expr} {line:Nat} {env:Env} (h:eM v=true):swapsWith v t line env=pure false:=by
 cases v<;>first|rfl|cases h
section
variable {Z:Wd} {n:Nat} {E:Ev} {c:Ctx} {env:Env} {A:N4} {s:Nn} {ρ ρ':Loc} {σ σ':ag} {CA:List Addr} {D:Addr→Prop} {m:Nat} {p:N2} {loose:List Str} {mg mb:Str→Nh Nk}
structure kt (env:Env) (c:Ctx) (x:Str) (i:Nat):Prop where
 mem:(x,i)∈c.vars
 kind:env.kindOf x=some .local∨env.kindOf x=some .cell
theorem eP {x:Str} {i:Nat} (h:cJ c x i=true) (EO:az env c):kt env c x i:=
 ⟨ig (ac h).1,by unfold PJ;rw [EO.sc];exact (O6.mp (ac h).2).imp Nv Nv⟩
theorem cu.store {h1 h2:Heap} {o:fg} {i:Nat} {x:Str} {ρ1:Loc} {σ1:ag} {CA1:List Addr} {D1:Addr→Prop} (k1:aw (We CA) s.heap h1) (x1:lR Z s.heap h1 CA CA1 D D1) (S2:St Z env c.vars ρ1 CA1 σ1 D1 h2) (k2:aw (Wv env x) h1 h2):cu Z (Ws env CA) env c.vars CA D s.heap (.next,ρ1,σ1) .next h2 CA1 D1:=
 ⟨(k1.weaken fun _ w=> .inl w).trans (k2.weaken fun _ w=> .inr (nV w)),x1.at fun _ m=>S2.cells.live m,S2,rfl⟩
theorem qy {h h1:Heap} {a:Addr} (n:dM Z h h1 a) {D':Addr→Prop} (sub:∀b,D b→D' b) (sup:∀b,D' b→D b∨b=a):lR Z h h1 CA (CA++[a]) D D' where
 pre:=⟨[a],rfl⟩
 sub:=sub
 sup:=fun b d=>(sup b d).imp id fun z=>⟨Ri _ (NU.mpr z),z▸n⟩
 new:=fun b m=>(Nx.mp m).imp id fun m=>(NU.mp m:b=a)▸n
theorem nu {a:Addr} {σ:ag} (l:CA.length=σ.length):(CA++[a])[σ.length]? =some a:=by rw [←l];exact RN
theorem ro {x:Str} {i:Nat} {v:Expr} {xp pos:Pos} (hst:cJ c x i=true) (EO:az env c) (S:St Z env c.vars ρ CA σ D s.heap)
  (hsw:swapsWith v (some (.Name x xp)) pos.line env=pure false) {U:aA} {u:V} {σ1:ag} (H:eJ Z A CA D σ1 U (eval v env) s) (eu:U.toV=some u):lG Z A env c.vars CA D (.next,ρ.set i (some (.v u)),σ1) (exec (.Assign [.Name x xp] v pos) env) s:=fun Q X h=>
 have t:=eP hst EO
 UN (hs:=hsw) (H _ _ fun w h1 t1 k1 c1 r1=>fY (s:={s with heap:=h1,toks:=t1}) (U:= .v u) (S.step k1 c1) EO.vars (eR EO) t.mem t.kind ((r1.bindV fun a=>S.toGd.fresh_notD).toV eu) fun h2 t2 S2 k2=>
  h .next h2 t2 CA D (.store (i:=i) (o:= .next) k1 (lR.refl S.cells.inD) S2 k2))
theorem BA {x:Str} {i:Nat} {v:Expr} {xp pos:Pos} (hst:cJ c x i=true) (EO:az env c) (S:St Z env c.vars ρ CA σ D s.heap)
  (hsw:swapsWith v (some (.Name x xp)) pos.line env=pure false) {u:V} {σ1:ag} (H:eJ Z A CA D σ1 (.own u) (eval v env) s):lG Z A env c.vars CA D (.next,ρ.set i (some (.cell σ1.length)),σ1++[u]) (exec (.Assign [.Name x xp] v pos) env) s:=fun Q X h=>
 have t:=eP hst EO
 UN (hs:=hsw) (H _ _ fun w h1 t1 k1 c1 ⟨a,e,na,ba,ct,c2⟩=>
  have nA:dM Z s.heap h1 a:=⟨na,ba,ct.live⟩
  have S1:=S.newCell k1 nA ct c2 (fun b d=> .inl d) (.inr rfl) fun b d=>d.imp id fun (z:b=a)=>z▸nA
  fY (s:={s with heap:=h1,toks:=t1}) (U:= .cell σ1.length) S1 EO.vars (eR EO) t.mem t.kind ⟨a,nu c1.len,e⟩ fun h2 t2 S2 k2=>
   h .next h2 t2 _ _ (.store (i:=i) (o:= .next) k1 (qy nA (fun b d=> .inl d) fun b d=>d) S2 k2))
theorem St.drop1 {vars:eF} {h h':Heap} {C:Addr} {D1 D':Addr→Prop} (S:St Z env vars ρ CA σ D1 h) (hs:Pe C h h') (sub:∀b,D' b→D1 b) (nC:¬D' C) (dC:D1 C) (a:D' env.locals) (b:∀x c,env.cells.lookup x=some c→D' c) (ca:∀a∈CA,D' a) (low:D' Z.base.objs.size):St Z env vars ρ CA σ D' h':=
 S.move (fun b o e q=>hs.extBut b o (fun z=>by subst z;exact q.elim (fun w=>w dC) nC) e) sub a b ca low
theorem rf (O:Wd.Ok Z p loose mg mb) (SE:bK Z n E) (SB:gX Z n E) {x:Str} {elt:Expr} {gens:List N0} {scope:Po} {cpos:Pos} {eltc:CE} {cgs:List CG} {xp pos:Pos} {k:Nat} {vs:eF} {q:List V×ag} (K:o7 Z k c elt gens scope eltc cgs vs)
  (EO:az env c) (S:St Z env c.vars ρ CA σ D s.heap) (R:aN n A) (hsw:swapsWith (.ListComp elt gens scope cpos) (some (.Name x xp)) pos.line env=pure true) (ev:dQ E eltc cgs ρ σ=some q) (hz:q.1.length≤16777216) {Q:Flow→Nn→Prop} {X:Nk→Nn→Prop}
  (h:∀a C h' tk,BF Z env c ρ CA q.2 D q.1 s.heap h' a C→Ny (model Z.prog Z.w) A (storeName env x (.ref a)) (fun _ s''=>∃m,s''.heap.Ns C m∧∀h'',Pe C s''.heap h''→Q .next {s'' with heap:=h''}) X {s with heap:=h',toks:=tk}):
  Ny (model Z.prog Z.w) A (exec (.Assign [.Name x xp] (.ListComp elt gens scope cpos) pos) env) Q X s:=by
 rw [exec_Assign_Name_used _ _ _ _ hsw]
 refine No (OI (No ?_))
 rw [arm_evalThenUse_ListComp]
 exact No (rT O SE SB K EO S R ev hz (use:=some (assign (.Name x xp) env)) (Q:=fun _ s'=>Ny (model Z.prog Z.w) A (pure ()) (fun _ s'=>Ny (model Z.prog Z.w) A (pure Flow.next) Q X s') X s') fun a C h' tk L=>
  Pw (N3 (h a C h' tk L) (fun _ s'' ⟨m,hm,hq⟩=>⟨m,hm,fun h'' hs=>NE (NE (hq h'' hs))⟩) fun _ _ z=>z))
theorem po {x:Str} {i:Nat} {U:aA} {a C:Addr} {g h1:Heap} {t1:Nat} {CA1:List Addr} {σ1 τ:ag} {D1 D':Addr→Prop} {us:List V} {Q:Flow→Nn→Prop} {X:Nk→Nn→Prop} (t:kt env c x i) (EO:az env c) (S:St Z env c.vars ρ CA σ D g) (hloc:env.kindOf x=some .local)
  (L:BF Z env c ρ CA τ D us g h1 a C) (S1:St Z env c.vars ρ CA1 σ1 D1 h1) (r:eE Z CA1 D1 h1 (.ref a) U) (sub:∀b,D' b→D1 b) (nC:¬D' C) (dC:D1 C) (dD:∀b,D b→D' b) (ca:∀a∈CA1,D' a) (x1:lR Z g h1 CA CA1 D D')
  (h:∀f h' tk CA' D',cu Z (Ws env CA) env c.vars CA D g (.next,ρ.set i (some U),σ1) f h' CA' D'→Q f {s with heap:=h',toks:=tk}):
  Ny (model Z.prog Z.w) A (storeName env x (.ref a)) (fun _ s''=>∃m,s''.heap.Ns C m∧∀h'',Pe C s''.heap h''→Q .next {s'' with heap:=h''}) X {s with heap:=h1,toks:=t1}:=
 fY (s:={s with heap:=h1,toks:=t1}) S1 EO.vars (eR EO) t.mem t.kind r fun h2 t2 S2 k2=>
  have nDC:=S.toGd.fresh_notD L.nC.none
  let ⟨mm,hns⟩:=L.ns
  ⟨mm,hns.at' fun o e=>k2 _ o e fun w=>w.elim (fun w=>nDC (w.2▸S.nsD)) fun w=>(by have:=w.1;rw [hloc] at this;cases this),fun h3 hs3=>
   have S3:=S2.drop1 hs3 sub nC dC (dD _ S.nsD) (fun x q l=>dD _ (S.pc x q l).1) ca (dD _ S.low)
   h .next h3 t2 CA1 D' ⟨aw.fresh ((L.keep.weaken fun b w=> .inl w).trans (k2.weaken fun b w=> .inr (nV w))) (aw.sameBut hs3 rfl (W:=fun b=>b=C)) fun b w=> .inr (w▸L.nC.none),x1.at fun _ m=>S3.cells.live m,S3,rfl⟩⟩
section
variable (O:Wd.Ok Z p loose mg mb) (SE:bK Z n E) (SB:gX Z n E) {x:Str} {i:Nat} {elt:Expr} {gens:List N0} {scope:Po} {cpos:Pos} {eltc:CE} {cgs:List CG} {xp pos:Pos} {k:Nat} {vs:eF} {q:List V×ag} (K:o7 Z k c elt gens scope eltc cgs vs) (hst:cJ c x i=true)
  (EO:az env c) (S:St Z env c.vars ρ CA σ D s.heap) (R:aN n A) (ev:dQ E eltc cgs ρ σ=some q) (hz:q.1.length≤16777216)
include O SE SB K hst EO S R ev hz
theorem pF:lG Z A env c.vars CA D (.next,ρ.set i (some (.v (.lst q.1))),q.2) (exec (.Assign [.Name x xp] (.ListComp elt gens scope cpos) pos) env) s:=
 pT.elim (fun hsw=>ro hst EO S hsw (xr O SE SB K EO S R ev hz) rfl) fun ⟨hsw,hloc⟩ Q X h=>
  rf O SE SB K EO S R hsw ev hz fun a C h' tk L=>
   have nDC:=S.toGd.fresh_notD L.nC.none
   po (eP hst EO) EO S hloc L L.st (U:= .v (.lst q.1)) (D':=D) (L.cont.rep (fun z=>z.elim (S.toGd.fresh_notD L.na.none) L.ne) fun b d=> .inl d) (fun b d=> .inl d) nDC (.inr rfl) (fun _ d=>d) S.cells.inD (lR.refl S.cells.inD) h
theorem uU:lG Z A env c.vars CA D (.next,ρ.set i (some (.cell q.2.length)),q.2++[.lst q.1]) (exec (.Assign [.Name x xp] (.ListComp elt gens scope cpos) pos) env) s:=
 pT.elim (fun hsw=>BA hst EO S hsw (xr O SE SB K EO S R ev hz)) fun ⟨hsw,hloc⟩ Q X h=>
  rf O SE SB K EO S R hsw ev hz fun a C h' tk L=>
   have nDC:=S.toGd.fresh_notD L.nC.none
   have S1:=S.newCell L.keep L.na L.cont L.cells (fun b d=> .inl (.inl d)) (.inr rfl) fun b d=>d.elim (fun d=>d.imp id fun d=>(d:b=C)▸L.nC) fun d=> .inr ((d:b=a)▸L.na)
   po (eP hst EO) EO S hloc L S1 (U:= .cell q.2.length) (D':=DC D a) ⟨a,nu L.cells.len,rfl⟩ (fun b d=>d.elim (fun d=> .inl (.inl d)) .inr) (fun z=>z.elim nDC fun z=>L.ne z.symm) (.inl (.inr rfl)) (fun _ d=> .inl d)
    (fun b mb=>(Nx.mp mb).imp (S.cells.inD b) NU.mp) (qy L.na (fun b d=> .inl d) fun b d=>d) h
end
end
theorem xU {β:Type} {c:Prop} [Su c] {x:β} {f:Nh β} (h:f=if c then some x else none):f=some x∨f=none:=by
 by_cases q:c
 ·rw [NG q] at h;exact .inl h
 ·rw [NV q] at h;exact .inr h
theorem ww {α β:Type} {a b:α} {f:α→Nh β} {x y:β} (fa:f a=some x∨f a=none) (fb:f b=some y∨f b=none) (h:([a,b].filterMap f).length=2):[a,b].filterMap f=[x,y]:=by
 rw [QB,QB] at h ⊢
 rcases fa with fa|fa<;>rcases fb with fb|fb<;>rw [fa,fb] at h ⊢ <;>first|rfl|cases h
theorem tN {x y:Str} {p1 p2 w w':Pos} {k k':Nat} {va vb:Expr} {env:Env} (hn:([va,vb].all (constantsAlone 8))=false):
  swappedStores [.Tuple [.Name x p1,.Name y p2] k w] (.Tuple [va,vb] k' w') env=pure none∨swappedStores [.Tuple [.Name x p1,.Name y p2] k w] (.Tuple [va,vb] k' w') env=pure (some [x,y]):=by
 unfold swappedStores
 dsimp only
 split
 ·exact .inl rfl
 ·split
  ·exact .inl rfl
  ·split
   ·exact .inl rfl
   ·rename_i hh
    split
    ·exact .inl rfl
    ·split
     ·rename_i hq;rw [hn] at hq;cases hq
     ·right
      congr 2
      rw [Bool.or_eq_true,not_or] at hh
      exact ww (xU rfl) (xU rfl) (Decidable.of_not_not fun z=>hh.1 (bne_iff_ne.mpr z))
section
variable {Z:Wd} {n:Nat} {E:Ev} {c:Ctx} {env:Env} {A:N4} {s:Nn} {ρ ρ':Loc} {σ σ':ag} {CA:List Addr} {D:Addr→Prop} {o:fg} {m:Nat} {X:Nk→Nn→Prop}
theorem eE.moveOn {CA:List Addr} {D D':Addr→Prop} {h h':Heap} {v:Nk} {U:aA} (r:eE Z CA D h v U) {W:Addr→Prop} (k:aw W h h') (w:∀b,W b→D b) (e:∀b o,h.get? b=some o→D' b→D b):eE Z CA D' h' v U:=
 r.mono fun b o d g=>⟨fun z=>d (e b o g z),k b o g fun y=>d (w b y)⟩
theorem eE.grows {h h':Heap} {v:Nk} {U:aA} (r:eE Z CA D h v U) (g:bM h h'):eE Z CA D h' v U:=r.mono fun b o d e=>⟨d,g b o e⟩
theorem Hu {vars:eF} {h:Heap} (S:St Z env vars ρ CA σ D h) {b:Addr} (w:Wx env b):D b:=by
 rcases w with rfl|⟨x,_,l⟩
 ·exact S.nsD
 ·exact (S.pc x b l).1
theorem wJ {x y:Str} {i j:Nat} {v1 v2:Nk} {U1 U2:aA} (EO:az env c) (S:St Z env c.vars ρ CA σ D s.heap) (tx:kt env c x i) (ty:kt env c y j) (r1:eE Z CA D s.heap v1 U1) (r2:eE Z CA D s.heap v2 U2) {Q:Unit→Nn→Prop}
  (h:∀h' tk,St Z env c.vars ((ρ.set i (some U1)).set j (some U2)) CA σ D h'→aw (Wx env) s.heap h'→Q () {s with heap:=h',toks:=tk}):
  Ny (model Z.prog Z.w) A (storeName env x v1) (fun _ s₁=>Ny (model Z.prog Z.w) A (storeName env y v2) Q X s₁) X s:=
 fY S EO.vars (eR EO) tx.mem tx.kind r1 fun h1 t1 S1 k1=>
  fY (s:={s with heap:=h1,toks:=t1}) S1 EO.vars (eR EO) ty.mem ty.kind (r2.moveOn k1 (fun b w=>Hu S (nV w)) fun b o e d=>d) fun h2 t2 S2 k2=>
   h h2 t2 S2 ((k1.weaken fun b w=>nV w).trans (k2.weaken fun b w=>nV w))
structure I6 (Z:Wd) (env:Env) (vars:eF) (ρ:Loc) (CA:List Addr) (D:Addr→Prop) (g:Heap) (q:List aA×ag) (vs:List Nk) (h':Heap) (CA':List Addr) (D':Addr→Prop):Prop where
 keep:aw (We CA) g h'
 ext:lR Z g h' CA CA' D D'
 st:St Z env vars ρ CA' q.2 D' h'
 vals:bS Z CA' D' h' vs q.1
theorem I6.cons {vars:eF} {g h1 h2:Heap} {CA1 CA2:List Addr} {D1 D2:Addr→Prop} {q:List aA×ag} {vs:List Nk} {v:Nk} {U:aA} (k:aw (We CA) g h1) (x:lR Z g h1 CA CA1 D D1) (S:St Z env vars ρ CA1 σ D1 h1) (r:eE Z CA1 D1 h1 v U) (e:I6 Z env vars ρ CA1 D1 h1 q vs h2 CA2 D2):
  I6 Z env vars ρ CA D g (U::q.1,q.2) (v::vs) h2 CA2 D2 where
 keep:=k.fresh e.keep fun b w=>(x.new b w).imp id fun n=>n.none
 ext:=(x.at fun a m=>e.st.cells.live (e.ext.mem a m)).join (e.ext.since fun a=>k.alive fun b w=>S.cells.live (x.mem b w))
 st:=e.st
 vals:= .cons ((r.moveOn e.keep (fun b w=>S.cells.inD b w) fun b o g d=>(e.ext.sup b d).elim id fun z=>(ar z.2.none g).elim).more e.ext.pre) e.vals
theorem FH:∀{ts:List (Nat×Bool)} {es:List CE} {σ:ag} {q:List aA×ag},wb E ts es ρ σ=some q→q.1.length=ts.length:=by
 intro ts
 induction ts with
 |nil=>intro es σ q ev;cases Ng (bU ev).2;rfl
 |cons t ts ih=>
  intro es σ q ev
  cases es with
  |nil=>cases ev
  |cons e es=>
   obtain ⟨t,b⟩:=t
   refine af ev fun r e1 ev=> ?_
   cases b with
   |false=>exact af ev fun u e2 ev=>am ev fun q2 e3 ev=>by subst ev;exact Nt Ts (ih e3)
   |true=>exact af ev fun u e2 ev=>am ev fun q2 e3 ev=>by subst ev;exact Nt Ts (ih e3)
theorem z0 (SE:bK Z n E) {pos:Pos} (EO:az env c) (R:aN n A):∀{es:List Expr} {cs:List CE},d8 (au Z.fname m c) es cs=true→∀{ts:List (Nat×Bool)} {s:Nn} {σ:ag} {CA:List Addr} {D:Addr→Prop} {q:List aA×ag},
  St Z env c.vars ρ CA σ D s.heap→wb E ts cs ρ σ=some q→∀{Q:List Nk→Nn→Prop},
  (∀vs h' tk CA' D',I6 Z env c.vars ρ CA D s.heap q vs h' CA' D'→Q vs {s with heap:=h',toks:=tk})→
  Ny (model Z.prog Z.w) A (spliced (backTo pos (starEach es env))) Q X s:=by
 intro es
 induction es with
 |nil=>
  intro cs hc ts s σ CA D q S ev Q h
  refine Nf fun nG=> ?_
  cases aE hc
  refine nG ?_
  cases ts with
  |nil=>cases Ng ev;exact Pj (h [] s.heap s.toks CA D ⟨aw.refl,lR.refl S.cells.inD,S,.nil⟩)
  |cons t ts=>cases ev
 |cons e es ih=>
  intro cs hc ts s σ CA D q S ev Q h
  refine Nf fun nG=> ?_
  obtain ⟨ce,cs,rfl,hc⟩:=cV hc
  refine nG ?_
  have hc2:=ac (ac hc).2
  cases ts with
  |nil=>cases ev
  |cons t ts=>
   obtain ⟨t,b⟩:=t
   refine af ev fun r e1 ev=> ?_
   obtain ⟨U,σ1⟩:=r
   rw [bz (ac hc).1]
   cases b with
   |false=>
    refine af ev fun u e2 ev=>am ev fun q2 e3 ev=> ?_
    subst ev
    exact O1 (SE m c e ce hc2.1 env A s ρ σ CA D U σ1 EO S R e1 _ _ fun v h1 t1 k1 c1 r1=>ih hc2.2 (s:={s with heap:=h1,toks:=t1}) (S.step k1 c1) e3 fun vs h2 t2 CA2 D2 L=>
     h (v::vs) h2 t2 CA2 D2 (.cons (U:= .v u) k1 (lR.refl S.cells.inD) (S.step k1 c1) ((r1.bindV fun a=>S.toGd.fresh_notD).toV e2) L))
   |true=>
    refine af ev fun u e2 ev=>am ev fun q2 e3 ev=> ?_
    subst ev
    cases U with
    |v u=>cases e2
    |cell k=>cases e2
    |own w=>
     cases Ng e2
     exact O1 (SE m c e ce hc2.1 env A s ρ σ CA D _ σ1 EO S R e1 _ _ fun v h1 t1 k1 c1 ⟨a,ea,na,ba,ct,c2⟩=>
      have nA:dM Z s.heap h1 a:=⟨na,ba,ct.live⟩
      have S1:=S.newCell k1 nA ct c2 (fun b d=> .inl d) (.inr rfl) fun b d=>d.imp id fun (z:b=a)=>z▸nA
      ih hc2.2 (s:={s with heap:=h1,toks:=t1}) S1 e3 fun vs h2 t2 CA2 D2 L=>
       h (v::vs) h2 t2 CA2 D2 (.cons (U:= .cell σ1.length) k1 (qy nA (fun b d=> .inl d) fun b d=>d) S1 ⟨a,nu c1.len,ea⟩ L))
theorem bS.two {CA':List Addr} {D':Addr→Prop} {h':Heap} {us:List aA} {vs:List Nk} {P:Prop} (r:bS Z CA' D' h' vs us) (l:us.length=2) (K:∀v1 v2 U1 U2,vs=[v1,v2]→us=[U1,U2]→eE Z CA' D' h' v1 U1→eE Z CA' D' h' v2 U2→P):P:=by
 cases r with
 |nil=>cases l
 |cons r1 r=>cases r with
  |nil=>cases l
  |cons r2 r=>cases r with
   |nil=>exact K _ _ _ _ rfl rfl r1 r2
   |cons _ _=>cases l
theorem sU {h h1 h2:Heap} (g:bM h h1) (g2:bM h1 h2):bM h h2:=fun b o e=>g2 b o (g b o e)
structure CY (env:Env) (c:Ctx) (x y:Str) (i j:Nat):Prop where
 a:kt env c x i
 b:kt env c y j
 ne:i≠j
theorem qh {e:Expr} {q:Str×Str} (h:wd e=some q):∃p1 p2 k w,e= .Tuple [.Name q.1 p1,.Name q.2 p2] k w:=
 af h fun ts h1 h=>let ⟨a,b,h2,h⟩:=gm h;af h fun x h3 h=>am h fun y h4 h=>let ⟨k,w,h5⟩:=kz h1;let ⟨p1,h6⟩:=aY h3;let ⟨p2,h7⟩:=aY h4;⟨p1,p2,k,w,by rw [h5,h2,h6,h7,←h]⟩
theorem cu.two {h1 h2:Heap} {q:List aA×ag} {vs:List Nk} {h0:Heap} {CA1:List Addr} {D1:Addr→Prop} {ρ':Loc} (L:I6 Z env c.vars ρ CA D s.heap q vs h0 CA1 D1) (g:bM h0 h1) (S2:St Z env c.vars ρ' CA1 q.2 D1 h2) (k2:aw (Wx env) h1 h2):cu Z (Ws env CA) env c.vars CA D s.heap (.next,ρ',q.2) .next h2 CA1 D1:=
 ⟨((L.keep.trans (aw.of_all g)).weaken fun b w=> .inl w).trans (k2.weaken fun b w=> .inr w),L.ext.at fun _ m=>S2.cells.live m,S2,rfl⟩
theorem wL (SE:bK Z n E) {x y:Str} {i j:Nat} {bi bj:Bool} {va vb:Expr} {cs:List CE} {p1 p2 w w' pos:Pos} {k k':Nat} (t:CY env c x y i j) (hn:([va,vb].all (constantsAlone 8))=false)
  (hc:d8 (au Z.fname m c) [va,vb] cs=true) (EO:az env c) (S:St Z env c.vars ρ CA σ D s.heap) (R:aN n A) {q:List aA×ag} (ev:wb E [(i,bi),(j,bj)] cs ρ σ=some q):
  lG Z A env c.vars CA D (.next,iY [i,j] q.1 ρ,q.2) (exec (.Assign [.Tuple [.Name x p1,.Name y p2] k w] (.Tuple [va,vb] k' w') pos) env) s:=by
 intro Q X h
 have main:∀(Q':Nk→Nn→Prop),(∀tt v1 v2 U1 U2 h0 h1 t1 CA1 D1,q.1=[U1,U2]→I6 Z env c.vars ρ CA D s.heap q [v1,v2] h0 CA1 D1→bM h0 h1→eE Z CA1 D1 h1 v1 U1→eE Z CA1 D1 h1 v2 U2→h1.IsTuple tt #[v1,v2]→Q' (.ref tt) {s with heap:=h1,toks:=t1})→
   Ny (model Z.prog Z.w) A (eval (.Tuple [va,vb] k' w') env) Q' X s:=by
  intro Q' hq
  refine wpAny_Tuple (z0 SE EO R hc S ev fun vs h1 t1 CA1 D1 L=> ?_)
  refine bS.two L.vals (FH ev) fun v1 v2 U1 U2 e1 hU r1 r2=> ?_
  rw [e1] at L ⊢
  have g:=aG h1 {cls:= .type "tuple",data:= .seq [v1,v2].toArray}
  exact ⟨(by decide:2≤PM),hq _ v1 v2 U1 U2 h1 _ t1 CA1 D1 hU L g (r1.grows g) (r2.grows g) ⟨_,N1 _ rfl,rfl,0,rfl⟩⟩
 have hs:swapsWithSole [.Tuple [.Name x p1,.Name y p2] k w] (.Tuple [va,vb] k' w') pos.line env=pure false:=rfl
 rcases tN (x:=x) (y:=y) (p1:=p1) (p2:=p2) (w:=w) (w':=w') (k:=k) (k':=k') (env:=env) hn with hw|hw
 ·refine Assign_Tuple (hs:=hs) (hw:=hw) (main _ fun tt v1 v2 U1 U2 h0 h1 t1 CA1 D1 hU L g r1 r2 ht=>R2 R.calm ht rfl rfl fun h2 k2=> ?_)
  have g2:bM h1 h2:=fun b o e=>k2 b o (fun z=>Ou _ (z▸NY e)) e
  refine OQ (Pw (N3 (wJ (s:={s with heap:=h2,toks:=t1}) EO (L.st.keepEq (sU g g2)) t.a t.b (r1.grows g2) (r2.grows g2) (Q:=fun _ s'=>Ny (model Z.prog Z.w) A (assignInOrder [] []) (fun _=>Q .next) X s') fun h3 t3 S3 k3=>NE ?_) (fun _ s' hq=>OQ (Pw hq)) fun _ _ z=>z))
  rw [hU] at h
  exact h .next h3 t3 CA1 D1 (.two L (sU g g2) S3 k3)
 ·refine Assign_Tuple_swapped (hs:=hs) (hw:=hw) (main _ fun tt v1 v2 U1 U2 h0 h1 t1 CA1 D1 hU L g r1 r2 ht=> ?_)
  refine unpackItems_tuple (items:= #[v1,v2]) R.calm ?_ fun h2 k2=> ?_
  ·exact ht
  have g2:bM h1 h2:=fun b o e=>k2 b o (fun z=>Ou _ (z▸NY e)) e
  refine OQ (bindName_ (N3 (wJ (s:={s with heap:=h2,toks:=t1}) EO (L.st.keepEq (sU g g2)) t.b t.a (r2.grows g2) (r1.grows g2) (Q:=fun _ s'=>Ny (model Z.prog Z.w) A (assignInOrder [] []) (fun _=>Q .next) X s') fun h3 t3 S3 k3=>NE ?_) (fun _ s' hq=>OQ (bindName_ hq)) fun _ _ z=>z))
  rw [hU] at h
  exact h .next h3 t3 CA1 D1 (.two L (sU g g2) (((List.set_comm _ _ t.ne).symm▸S3:St Z env c.vars ((ρ.set i (some U1)).set j (some U2)) CA1 q.2 D1 h3)) k3)
theorem zX (SE:bK Z n E) {x y:Str} {i j:Nat} {v:Expr} {ce:CE} {p1 p2 w pos:Pos} {k:Nat} (t:CY env c x y i j) (h1:eM v=true) (h2:wf v=true)
  (hc:au Z.fname m c v ce=true) (EO:az env c) (S:St Z env c.vars ρ CA σ D s.heap) (R:aN n A) {us:List V} {q:V×ag} (ev:eO E ce ρ σ=some q) (hq:q.1= .tup us) (hl:us.length=2):
  lG Z A env c.vars CA D (.next,iY [i,j] (us.map aA.v) ρ,q.2) (exec (.Assign [.Tuple [.Name x p1,.Name y p2] k w] v pos) env) s:=by
 intro Q X h
 have hs:swapsWithSole [.Tuple [.Name x p1,.Name y p2] k w] v pos.line env=pure false:=by unfold swapsWithSole;exact ez h1
 have hw:swappedStores [.Tuple [.Name x p1,.Name y p2] k w] v env=pure none:=by cases v<;>first|rfl|cases h2
 refine Assign_Tuple (hs:=hs) (hw:=hw) (cT SE hc EO S R ev fun vv h1 t1 k1 c1 r1=> ?_)
 obtain ⟨a,items,rfl,ht,rr,_,_⟩:=(hq▸r1:b8 Z D h1 vv (.tup us)).rd.tup
 cases us with
 |nil=>cases hl
 |cons u1 us=>cases us with
  |nil=>cases hl
  |cons u2 us=>cases us with
   |cons _ _=>cases hl
   |nil=>
    obtain ⟨v1,v2,hitems,q1,q2⟩:=rr.two
    refine R2 (s:={s with heap:=h1,toks:=t1}) R.calm (let ⟨o,g,cc,nn,e⟩:=ht;⟨o,g,cc,nn,e⟩) (by rw [←OH,hitems];rfl) rfl fun h2 k2=> ?_
    rw [hitems]
    have g2:bM h1 h2:=fun b o e=>k2 b o (fun z=>Ou _ (z▸NY e)) e
    have S1:=S.step k1 c1
    exact OQ (Pw (N3 (wJ (s:={s with heap:=h2,toks:=t1}) (U1:= .v u1) (U2:= .v u2) EO (S1.keepEq g2) t.a t.b (q1.grows g2) (q2.grows g2) (Q:=fun _ s'=>Ny (model Z.prog Z.w) A (assignInOrder [] []) (fun _=>Q .next) X s') fun h3 t3 S3 k3=>NE
     (h .next h3 t3 CA D ⟨((k1.trans (aw.of_all g2)).weaken fun b w=> .inl w).trans (k3.weaken fun b w=> .inr w),lR.refl S.cells.inD,S3,rfl⟩)) (fun _ s' hq=>OQ (Pw hq)) fun _ _ z=>z))
end
theorem Ka {k:Int} {n:Nat} (h:k <n) (z:n≤16777216):k <2^63:=by omega
section
variable {Z:Wd} {n:Nat} {E:Ev} {c:Ctx} {env:Env} {A:N4} {s:Nn} {ρ ρ':Loc} {σ σ':ag} {CA:List Addr} {D:Addr→Prop} {o:fg} {m:Nat} {X:Nk→Nn→Prop} {p:N2} {loose:List Str} {mg mb:Str→Nh Nk} {P:Af} {r:fg×Loc×ag}
theorem yO {v o' ix:Expr} {sp:Pos} {line:Nat} {env:Env}:swapsWith v (some (.Subscript o' ix sp)) line env=pure false:=by
 cases v<;>rfl
theorem z4 {a:Addr} {vv kv:Nk} {u k w w':V} (dead:D a) (ct:gE Z D s.heap a w) (rv:b8 Z D s.heap vv u) (rk:b8 Z D s.heap kv k) (e:CL w k u=some w') {Q:Unit→Nn→Prop}
  (h:∀h' tk,Pe a s.heap h'→gE Z D h' a w'→Q () {s with heap:=h',toks:=tk}):Ny (model Z.prog Z.w) A (setItem (.ref a) kv vv) Q X s:=by
 have old:∀{h4:Heap},Pe a s.heap h4→∀b o,¬D b→s.heap.get? b=some o→¬D b∧h4.get? b=some o:=fun hs b o d e=>⟨d,(hs.2 b fun z=>d (z▸dead)).trans e⟩
 cases w<;>first|(cases e;done)|skip
 ·refine af e fun i e1 e=> ?_
  refine aL e fun hz e=> ?_
  have h1:=Nu (ac hz).1
  have h2:=Nu (ac hz).2
  cases Ng e
  obtain ⟨z,items,hp,ri⟩:=ct
  have len:items.size=_:=(OH (xs:=items)).symm.trans ri.length
  obtain ⟨tk,rfl⟩:=Rd.int (cX e1▸rk).rd
  rw [←len] at h2
  exact qI hp h1 (Ka h2 (len▸z)) h2 fun h4 hp4 hs4=>h h4 _ hs4 ⟨by rw [Ot];exact z,_,hp4,by rw [Array.toList_setIfInBounds];exact (ri.mono (old hs4)).set _ (rv.mono (old hs4))⟩
 ·refine af e fun kx e1 e=> ?_
  refine Nf fun nG=> ?_
  refine aL e fun hz e=> ?_
  cases Ng e
  have rs:Rd Z D s.heap kv (.str kx):=(dU e1▸rk).rd
  obtain ⟨tk,rfl⟩:=rs.str
  obtain ⟨z,kvs,sm,hd,ek,ri⟩:=ct
  refine nG ?_
  have hl:kvs.length=_:=(Nl (f:=fun x:Str×Nk=>x.1)).symm.trans ((Nt PR ek).trans (Nl (f:=bF)))
  refine wpAny_setItem_pairs (knd:=Op Z.prog Z.w) (k:=bF kx) (SV _ _ _ _) hd (fun h4 hp4 hs4=> ?_) (hl▸eC hz)
  have st:=nX (x:=kx) ek (ri.mono (old hs4)) (DictOf.nodup hd) (rv.mono (old hs4))
  exact h h4 _ hs4 ⟨NC.mpr (nE (P:=fun k=>eV k=true) rs.strOk (NC.mp z)),_,sm,hp4,st.1,st.2⟩
theorem z6 (SE:bK Z n E) {oe ix v:Expr} {cx ci ce:CE} {sp pos:Pos} (hx:au Z.fname m c oe cx=true) (hi:au Z.fname m c ix ci=true) (hv:au Z.fname m c v ce=true)
  (EO:az env c) (S:St Z env c.vars ρ CA σ D s.heap) (R:aN n A) (ev:dX P E (.setIdx cx ci ce) ρ σ=some r):
  lG Z A env c.vars CA D r (exec (.Assign [.Subscript oe ix sp] v pos) env) s:=fun Q X h=>
 af ev fun u e1 ev=>af ev fun U e2 ev=>af ev fun k e3 ev=>af ev fun cc e4 ev=>af ev fun w e5 ev=>am ev fun w' e6 ev=>by
  refine Nf fun nG=> ?_
  subst ev
  obtain ⟨U,σ2⟩:=U
  refine nG ?_
  cases U<;>first|(cases e4;done)|skip
  cases Ng e4
  refine wpAny_Assign_Subscript (hs:=yO) (cT SE hv EO S R e1 fun vv h1 t1 k1 c1 r1=> ?_)
  have S1:=S.step k1 c1
  refine SE m c oe cx hx env A {s with heap:=h1,toks:=t1} ρ u.2 CA D (.cell cc) σ2 EO S1 R e2 _ _ fun ov h2 t2 k2 c2 r2=> ?_
  obtain ⟨a,ha,rfl⟩:=r2
  have S2:=S1.step k2 c2
  refine cT (s:={s with heap:=h2,toks:=t2}) SE hi EO S2 R e3 fun kv h3 t3 k3 c3 r3=> ?_
  have hm:a∈CA:=NF ha
  exact z4 (s:={s with heap:=h3,toks:=t3}) (c3.inD a hm) (c3.at_ cc a w ha e5) ((r1.mono (S1.toGd.old k2)).mono (S2.toGd.old k3)) r3 e6 fun h4 t4 hs ct'=>
   have c4:=c3.change ha hs ct'
   h .next h4 t4 CA D (.of S (((k1.trans k2).trans k3).trans (aw.sameBut hs hm)) c4 rfl)
theorem qk (EO:az env c):interactive env=false:=by
 unfold interactive
 rw [eR EO];rfl
theorem Fp (O:Wd.Ok Z p loose mg mb) (SE:bK Z n E) (SC:pR Z n E) {v:Expr} {ce:CE} {pos:Pos} (h2:eM v=true) (hv:au Z.fname m c v ce=true) (EO:az env c) (S:St Z env c.vars ρ CA σ D s.heap) (R:aN n A) (ev:dX P E (.expr ce) ρ σ=some r) (ho:r.1.ok=true):
  lG Z A env c.vars CA D r (exec (.Expr v pos) env) s:=by
 intro Q X h
 unfold dX at ev
 dsimp only at ev
 cases hf:ce.callF? with
 |none=>
  rw [hf] at ev
  refine af ev fun q e1 ev=> ?_
  cases Ng ev
  exact Rb (hi:=qk EO) (hs:=ez h2) (SE _ c v ce hv env A s ρ σ CA D q.1 q.2 EO S R e1 _ _ fun w h1 t1 k1 c1 _=>h .next h1 t1 CA D (.of S k1 c1 rfl))
 |some q=>
  rw [hf] at ev
  cases vT hf
  refine af ev fun us e1 ev=>af ev fun rr e2 ev=> ?_
  cases Ng ev
  cases m with
  |zero=>cases hv
  |succ m=>
   refine Nf fun nG=> ?_
   obtain ⟨⟨f,args⟩,h3,h4⟩:=bO hv
   obtain ⟨np,cpos,rfl⟩:=cW h3
   obtain ⟨o1,o2⟩:=O.fn _ _ (Nv (ac (ac h4).2).1)
   obtain ⟨rr1,rr2⟩:=rr
   refine nG ?_
   cases rr1 with
   |exc=>cases ho
   |ok U=>
    refine Rb (hi:=qk EO) (hs:=ez h2) (Pk (ki O EO S.base (ac h4).1 o1 (iy (.inr (.inr o2)) (eg (ac (ac h4).2).2 _ _).1 (jd SE EO R (ac (ac h4).2).2 S e1 fun vs h1 t1 k1 c1 r1=> ?_))))
    have G1:=S.toGd.step k1 c1
    exact ⟨O.X.keeps G1.base,PV (th (s:={s with heap:=h1,toks:=t1}) SC e2 rfl R G1 r1 fun v h2 t2 k2 c2 _=>h .next h2 t2 CA D (.of S (k1.trans k2) c2 rfl))⟩
theorem Ii (SE:bK Z n E) {v:Expr} {ce:CE} {pos:Pos} (hv:au Z.fname m c v ce=true) (EO:az env c) (S:St Z env c.vars ρ CA σ D s.heap) (R:aN n A) (ev:dX P E (.ret ce) ρ σ=some r):
  lG Z A env c.vars CA D r (exec (.Return (some v) pos) env) s:=fun Q X h=>
 af ev fun q e1 ev=>by
  refine Nf fun nG=> ?_
  cases Ng ev
  refine nG ?_
  exact Si (SE _ c v ce hv env A s ρ σ CA D q.1 q.2 EO S R e1 _ _ fun w h1 t1 k1 c1 r1=>h (.ret w) h1 t1 CA D (.of S k1 c1 ⟨w,rfl,r1⟩))
theorem G4 (SB:gX Z n E) (SS:ji Z n E) {k:Nat} {t:Expr} {ct:CE} {a b:List Stmt} {ca cb:List CS} {pos:Pos} (ht:au Z.fname m c t ct=true) (ha:bG (cA Z.fname m c k) a ca=true) (hb:bG (cA Z.fname m c k) b cb=true)
  (EO:az env c) (S:St Z env c.vars ρ CA σ D s.heap) (R:aN n A) (ev:dX P E (.ite ct ca cb) ρ σ=some r) (ho:r.1.ok=true):
  lG Z A env c.vars CA D r (exec (.If t a b pos) env) s:=fun Q X h=>
 af ev fun q e1 ev=>wpAny_If (SB m c t ct ht env A s ρ σ CA D q.1 q.2 EO S R (jj e1) _ _ fun h1 t1 k1 c1=>by
  have a1:cu Z (Ws env CA) env c.vars CA D s.heap (.next,ρ,q.2) .next h1 CA D:= .of S k1 c1 rfl
  have go:∀{sts css},bG (cA Z.fname m c k) sts css=true→aH E css ρ q.2=some r→Ny (model Z.prog Z.w) A (execs sts env) Q X {s with heap:=h1,toks:=t1}:=fun hc e2=>
   iT SS EO R hc (s:={s with heap:=h1,toks:=t1}) a1.st e2 ho Q X fun f h2 t2 CA2 D2 a2=>h f h2 t2 CA2 D2 (a1.seq a2)
  obtain ⟨b,σ1⟩:=q
  cases b with
  |true=>exact go ha ev
  |false=>exact go hb ev)
end
structure pj (W:Addr→Prop) (env:Env) (g h:Heap) (e:Addr):Prop where
 keep:aw W g h
 ns:∃m,h.Ns env.locals m
 new:g.get? e=none
 obj:∃dx t,h.get? e=some {cls:= .ref 59,dict:=dx,data:= .fields #[.ref t,.none,.none,.none,.bool false,.none]}
noncomputable def LD (Z:Wd) (A:N4) (env:Env) (CA:List Addr) (t:Sem Flow) (s:Nn):Prop:=
 ∀(Q:Flow→Nn→Prop) (X:Nk→Nn→Prop),PassesOwn (model Z.prog Z.w) A env X→(∀h' tk e,pj (Ws env CA) env s.heap h' e→X (.ref e) {s with heap:=h',toks:=tk})→Ny (model Z.prog Z.w) A t Q X s
section
variable {Z:Wd} {n:Nat} {E:Ev} {c:Ctx} {env:Env} {A:N4} {CA CA1:List Addr} {D D1:Addr→Prop} {vars:eF} {g h h1:Heap} {e:Addr} {r:fg×Loc×ag} {f:Flow}
theorem pj.seq (a:cu Z (Ws env CA) env vars CA D g r f h1 CA1 D1) (t:pj (Ws env CA1) env h1 h e):pj (Ws env CA) env g h e:=
 ⟨a.keep.fresh t.keep fun x w=>a.ext.freshAt (fun _ m=> .inl m) w fun _ w=> .inr w,t.ns,a.keep.alive (fun _ w=>a.st.wsLive a.ext.mem w) t.new,t.obj⟩
end
noncomputable def xV (e:Stmt):Nh (Nh Expr×Nh Expr):=if h:e.ctorIdx=16 then some (Tj (motive_2:=fun _=>Nh Expr×Nh Expr) e h fun a b _=>(a,b)) else none
theorem uz {e:Stmt} {q:Nh Expr×Nh Expr} (h:xV e=some q):∃p,e=VO q.1 q.2 p:=
 let ⟨k,h⟩:=aM h
 Tj (motive_2:=fun e=>∀k:e.ctorIdx=16,(Tj (motive_2:=fun _=>Nh Expr×Nh Expr) e k fun a b _=>(a,b))=q→∃p,e=VO q.1 q.2 p) e k (fun a b p _ h=>⟨p,Nt (fun q:Nh Expr×Nh Expr=>VO q.1 q.2 p) (h:(a,b)=q)⟩) k h
noncomputable def xN (sc:Po) (st:Stmt):Bool:=(xV st).any fun q=>q.2.isNone&&q.1.any fun e=>(fT e).any fun r=>r.1==tY&&(oG sc tY&&kJ r.2 fun a=>(mH a).any fun k=>(HZ k).isSome)
noncomputable def Ae (sc:Po):Nat→Stmt→CS→Bool
 |0,_,_=>false
 |d+1,st,cs=>match cs with
  | .for_ _ _ b=>(yE st).any fun q=>bG (Ae sc d) q.2.2.1 b
  | .ite _ a b=>(yC st).any fun q=>bG (Ae sc d) q.2.1 a&&bG (Ae sc d) q.2.2 b
  | .raise_=>xN sc st
  | .assign _ _=>true
  |_=>false
noncomputable def wY (Z:Wd) (n:Nat) (E:Ev):Prop:=∀(d k m:Nat) (c:Ctx) (st:Stmt) (cs:CS),cA Z.fname m c k st cs=true→Ae c.sc d st cs=true→∀(env:Env) (A:N4) (s:Nn) (ρ:Loc) (σ:ag) (CA:List Addr) (D:Addr→Prop) (r:fg×Loc×ag),
 az env c→St Z env c.vars ρ CA σ D s.heap→aN n A→E.s cs ρ σ=some r→r.1= .exc→LD Z A env CA (exec st env) s
section
variable {Z:Wd} {n:Nat} {E:Ev} {c:Ctx} {env:Env} {A:N4}
theorem tU (SS:ji Z n E) (SX:wY Z n E) {d k m:Nat} (EO:az env c) (R:aN n A):∀{sts:List Stmt} {css:List CS},bG (cA Z.fname m c k) sts css=true→bG (Ae c.sc d) sts css=true→∀{s:Nn} {ρ:Loc} {σ:ag} {CA:List Addr} {D:Addr→Prop} {r:fg×Loc×ag},St Z env c.vars ρ CA σ D s.heap→aH E css ρ σ=some r→r.1= .exc→
  LD Z A env CA (execs sts env) s:=by
 intro sts
 induction sts with
 |nil=>
  intro css hc hx s ρ σ CA D r S ev ho
  cases aE hc
  cases Ng ev
  cases ho
 |cons st sts ih=>
  intro css hc hx s ρ σ CA D r S ev ho Q X P h
  refine Nf fun nG=> ?_
  obtain ⟨cs,css,rfl,hc⟩:=cV hc
  refine nG ?_
  have hx':=ac (show (Ae c.sc d st cs&&bG (Ae c.sc d) sts css)=true from hx)
  refine af ev fun r1 e1 ev=> ?_
  refine Nf fun nG=> ?_
  obtain ⟨o1,ρ1,σ1⟩:=r1
  refine nG ?_
  cases o1 with
  |next=>
   refine Ol (SS k m c st cs (ac hc).1 env A s ρ σ CA D _ EO S R e1 rfl _ _ fun f h1 t1 CA1 D1 a1=> ?_)
   have hf:f= .next:=a1.flow
   subst hf
   exact ih (ac hc).2 hx'.2 (s:={s with heap:=h1,toks:=t1}) a1.st ev ho Q X P fun h2 t2 e z=>h h2 t2 e (z.seq a1)
  |cont=>cases Ng ev;cases ho
  |ret U=>cases Ng ev;cases ho
  |exc=>exact Ol (SX d k m c st cs (ac hc).1 hx'.1 env A s ρ σ CA D _ EO S R e1 rfl _ _ P h)
end
section
variable {Z:Wd} {n:Nat} {E:Ev} {c:Ctx} {env:Env} {A:N4} {s:Nn} {ρ ρ':Loc} {σ σ':ag} {CA:List Addr} {D:Addr→Prop} {o:fg} {m k:Nat} {X:Nk→Nn→Prop} {p:N2} {loose:List Str} {mg mb:Str→Nh Nk} {P:Af} {r r':fg×Loc×ag}
theorem iI.less {g h:Heap} {D1 D2:Addr→Prop} {CA1:List Addr} {v:Nk} {U:aA} (r:iI Z g CA1 σ D1 h v U) (sub:∀b,D2 b→D1 b) (ca:∀a∈CA1,D2 a):iI Z g CA1 σ D2 h v U:=by
 cases U with
 |v u=>exact b8.mono (fun b o d e=>⟨fun z=>d (sub b z),e⟩) r
 |cell k=>exact r
 |own u=>
  refine Nf fun nG=> ?_
  obtain ⟨a,e,n,b,ct,cl⟩:=r
  refine nG ?_
  exact ⟨a,e,n,b,ct.mono (fun o e=>e) fun b o d e=>⟨fun z=>d (z.imp (sub b) id),e⟩,cl.shift (fun b o e z=>z.imp (sub b) id) fun b mb=> .inl (ca b mb)⟩
noncomputable def Wl (env:Env) (CA:List Addr) (I J:Addr):Addr→Prop:=fun b=>Ws env CA b∨b=I∨b=J
structure m9 (Z:Wd) (env:Env) (CA:List Addr) (D:Addr→Prop) (g:Heap) (I J:Addr):Prop where
 nI:¬D I
 nJ:¬D J
 lI:∃o,g.get? I=some o
 lJ:∃o,g.get? J=some o
 dL:D env.locals
 dP:∀x c,env.cells.lookup x=some c→D c
 dC:∀a∈CA,D a
 low:D Z.base.objs.size
section
variable {g h1 h2:Heap} {I J:Addr} {CA1:List Addr} {D1:Addr→Prop} {f:Flow} {vars:eF}
noncomputable def rN (D:Addr→Prop) (I J:Addr):Addr→Prop:=fun b=>D b∧b≠I∧b≠J
theorem m9.ne (G:m9 Z env CA D g I J) {b:Addr} (d:D b):b≠I∧b≠J:=⟨fun z=>G.nI (z▸d),fun z=>G.nJ (z▸d)⟩
theorem m9.nWx (G:m9 Z env CA D g I J) {y:Addr} (q:¬D y):¬Wx env y:=fun w=>w.elim (fun z=>q (z▸G.dL)) fun ⟨x,_,l⟩=>q (G.dP x _ l)
theorem m9.caNe (G:m9 Z env CA D g I J) (x:lR Z g h1 CA CA1 (DI D I J) D1) {a:Addr} (m:a∈CA1):a≠I∧a≠J:=
 (x.new a m).elim (fun w=>G.ne (G.dC a w)) fun w=>⟨fun z=>let ⟨_,e⟩:=G.lI;ar w.none (z▸e),fun z=>let ⟨_,e⟩:=G.lJ;ar w.none (z▸e)⟩
theorem cu.cut (G:m9 Z env CA D g I J) (a:cu Z (Wl env CA I J) env vars CA (DI D I J) g r f h1 CA1 D1) (k2:aw (fun b=>b=I∨b=J) h1 h2) (F:lE Z g CA1 r.2.2 (rN D1 I J) h2 f r.1):cu Z (Wl env CA I J) env vars CA D g r f h2 CA1 (rN D1 I J):=
 have up:∀b,D b→rN D1 I J b:=fun b d=>⟨a.ext.sub b (.inl d),G.ne d⟩
 have dI:=a.ext.sub I (.inr (.inl rfl))
 have dJ:=a.ext.sub J (.inr (.inr rfl))
 have ca:∀b∈CA1,rN D1 I J b:=fun b m=>⟨a.st.cells.inD b m,G.caNe a.ext m⟩
 have S2:=a.st.move (D':=rN D1 I J) (fun b o e q=>k2 b o e fun z=>q.elim (fun w=>w (z.elim (fun z=>z▸dI) fun z=>z▸dJ)) fun w=>z.elim w.2.1 w.2.2) (fun b q=>q.1) (up _ G.dL) (fun x q l=>up _ (G.dP x q l)) ca (up _ G.low)
 ⟨a.keep.trans (k2.weaken fun b w=> .inr w),⟨a.ext.pre,up,fun b d=>(a.ext.sup b d.1).imp (fun z=>z.elim id fun z=>z.elim (fun z=>(d.2.1 z).elim) fun z=>(d.2.2 z).elim) fun z=>⟨z.1,z.2.to (S2.cells.live z.1)⟩,fun b m=>(a.ext.new b m).imp id fun n=>n.to (S2.cells.live m)⟩,S2,F⟩
theorem Dn (G:m9 Z env CA D g I J) (a:cu Z (Wl env CA I J) env vars CA (DI D I J) g r f h1 CA1 D1):cu Z (Wl env CA I J) env vars CA D g r f h1 CA1 (rN D1 I J):=a.cut G aw.refl (by
 have F:=a.flow
 cases hr:r.1<;>rw [hr] at F
 ·exact F
 ·exact F
 ·exact let ⟨v,e,q⟩:=F;⟨v,e,q.less (fun b q=>q.1) fun b m=>⟨a.st.cells.inD b m,G.caNe a.ext m⟩⟩
 ·exact F)
structure tn (Z:Wd) (env:Env) (c:Ctx) (CA:List Addr) (D:Addr→Prop) (I J:Addr) (two:Bool) (E:Ev) (t:kN) (body:List CS) (r:fg×Loc×ag) (g h:Heap) (xs:List V) (ρ:Loc) (σ:ag) (CA1:List Addr) (D1:Addr→Prop):Prop where
 aft:cu Z (Wl env CA I J) env c.vars CA (DI D I J) g (.next,ρ,σ) .next h CA1 D1
 it:dZ Z D1 h I J two xs
 ev:fy (fun x ρ σ=>(gS t x ρ).bind fun ρ=>aH E body ρ σ) xs ρ σ=some r
theorem tn.turn0 {ct:Expr} {t:kN} {cb:List Stmt} {body:List CS} {two:Bool} {x:V} {xs:List V} (EO:az env c) (R:aN n A) (ht:kd c ct t false=true) (G:m9 Z env CA D g I J)
  (L:tn Z env c CA D I J two E t body r g s.heap (x::xs) ρ σ CA1 D1) (hbt:gS t x ρ=some ρ') {v:Nk} {s₁:Nn} (hgo:tv Z A D1 I J two ct s x xs v s₁) {Q:Flow→Nn→Prop} {X:Nk→Nn→Prop}
  (h:∀h3 t3,cu Z (Wl env CA I J) env c.vars CA (DI D I J) g (.next,ρ',σ) .next h3 CA1 D1→dZ Z D1 h3 I J two xs→(∀b,Wl env CA I J b→∃o,h3.get? b=some o)→Ny (model Z.prog Z.w) A (execs cb env) Q X {s with heap:=h3,toks:=t3}):
  Ny (model Z.prog Z.w) A (PZ ct (.ref I) v) (fun _ s₁=>Ny (model Z.prog Z.w) A (assign ct env v) (fun _ s₂=>Ny (model Z.prog Z.w) A (execs cb env) Q X s₂) X s₁) X s₁:=
 have dI:=L.aft.ext.sub I (.inr (.inl rfl))
 have dJ:=L.aft.ext.sub J (.inr (.inr rfl))
 have nC:I∉CA1∧J∉CA1:=⟨fun m=>(G.caNe L.aft.ext m).1 rfl,fun m=>(G.caNe L.aft.ext m).2 rfl⟩
 hgo _ _ fun h2 t2 k2 IT2 lI lJ r2=>by
  have S2:=L.aft.st.other k2 fun b w=>by
   rcases w with rfl|rfl
   ·exact ⟨dI,nC.1,fun z=>G.nI (z▸G.dL),fun x z=>G.nI (G.dP x _ z),lI⟩
   ·exact ⟨dJ,nC.2,fun z=>G.nJ (z▸G.dL),fun x z=>G.nJ (G.dP x _ z),lJ⟩
  refine qD (s:={s with heap:=h2,toks:=t2}) ht EO S2 R.calm r2 hbt fun h3 t3 S3 k3 _=> ?_
  have a3:cu Z (Wl env CA I J) env c.vars CA (DI D I J) g (.next,ρ',σ) .next h3 CA1 D1:=⟨(L.aft.keep.trans (k2.weaken fun b w=> .inr w)).trans (k3.weaken fun b w=> .inl (.inr w)),L.aft.ext.at fun _ m=>S3.cells.live m,S3,rfl⟩
  exact h h3 t3 a3 (IT2.mono (fun o e=>k3 _ o e (G.nWx G.nI)) (fun o e=>k3 _ o e (G.nWx G.nJ)) fun b o q e=>⟨q,k3 b o e fun w=>q (Hu S2 w)⟩) fun b w=>w.elim (fun w=>S3.wsLive a3.ext.mem w) fun w=>by
   rcases w with rfl|rfl
   ·exact let ⟨o,e⟩:=lI;⟨o,k3 _ o e (G.nWx G.nI)⟩
   ·exact let ⟨o,e⟩:=lJ;⟨o,k3 _ o e (G.nWx G.nJ)⟩
theorem tn.done (G:m9 Z env CA D g I J) {two:Bool} {xs:List V} {h3 h4:Heap} {D4:Addr→Prop} {CA4:List Addr} {r1:fg×Loc×ag} (a3:cu Z (Wl env CA I J) env c.vars CA (DI D I J) g (.next,ρ',σ) .next h3 CA1 D1) (IT3:dZ Z D1 h3 I J two xs) (lv:∀b,Wl env CA I J b→∃o,h3.get? b=some o)
  (a4:cu Z (Ws env CA1) env c.vars CA1 D1 h3 r1 f h4 CA4 D4):cu Z (Wl env CA I J) env c.vars CA (DI D I J) g r1 f h4 CA4 D4∧dZ Z D4 h4 I J two xs:=
 have nWs:∀{y},¬D y→(y∈CA1→y≠y)→¬Ws env CA1 y:=fun q q' w=>w.elim (fun m=>q' m rfl) (G.nWx q)
 ⟨a3.trans lv (fun _ m=> .inl (.inl m)) (fun _ w=> .inl (.inr w)) a4,IT3.mono (fun o e=>a4.keep _ o e (nWs G.nI fun m=>(G.caNe a3.ext m).1)) (fun o e=>a4.keep _ o e (nWs G.nJ fun m=>(G.caNe a3.ext m).2)) fun b o q e=>⟨fun z=>(a4.ext.sup b z).elim q fun z=>ar z.2.none e,a4.keep b o e fun w=>q (w.elim (a3.st.cells.inD b) (Hu a3.st))⟩⟩
structure H7 (Z:Wd) (A:N4) (n:Nat) (E:Ev) (c:Ctx) (env:Env) (W:Addr→Prop) (CA:List Addr) (D:Addr→Prop) (cb:List Stmt) (body:List CS) (r:fg×Loc×ag) (s:Nn) (Q:Flow→Nn→Prop) (X:Nk→Nn→Prop):Prop where
 go:r.1.ok=true→∀f h' tk CA' D',cu Z W env c.vars CA D s.heap r f h' CA' D'→Q f {s with heap:=h',toks:=tk}
 exc:r.1= .exc→wY Z n E∧(∃d,bG (Ae c.sc d) cb body=true)∧PassesOwn (model Z.prog Z.w) A env X∧∀h' tk e,pj W env s.heap h' e→X (.ref e) {s with heap:=h',toks:=tk}
noncomputable def JU (Z:Wd) (env:Env) (c:Ctx) (CA:List Addr) (D:Addr→Prop) (I J:Addr) (two:Bool) (E:Ev) (t:kN) (body:List CS) (r:fg×Loc×ag) (s:Nn) (mm:Nat) (s':Nn):Prop:=
 ∃xs' ρx σx CAx D1 h1 tk,mm=xs'.length∧s'={s with heap:=h1,toks:=tk}∧tn Z env c CA D I J two E t body r s.heap h1 xs' ρx σx CAx D1
theorem Fc (SS:ji Z n E) {ct:Expr} {t:kN} {cb:List Stmt} {body:List CS} {two:Bool} {x:V} {xs:List V} (EO:az env c) (R:aN n A) (ht:kd c ct t false=true) (hb:bG (cA Z.fname m c k) cb body=true) (G:m9 Z env CA D s.heap I J) {tk:Tok}
  (L:tn Z env c CA D I J two E t body r s.heap h1 (x::xs) ρ σ CA1 D1) {v:Nk} {s₁:Nn} (hgo:∀ρ',gS t x ρ=some ρ'→tv Z A D1 I J two ct {s with heap:=h1,toks:=tk} x xs v s₁)
  {QT Q:Flow→Nn→Prop} {X:Nk→Nn→Prop} (H:H7 Z A n E c env (Wl env CA I J) CA D cb body r s Q X) (hR:∀v s3,Q (.ret v) s3→QT (.ret v) s3) (hN:∀f s3,f= .next∨f= .cont→JU Z env c CA D I J two E t body r s xs.length s3→QT f s3):
  Ny (model Z.prog Z.w) A (PZ ct (.ref I) v) (fun _ s₁=>Ny (model Z.prog Z.w) A (assign ct env v) (fun _ s₂=>Ny (model Z.prog Z.w) A (execs cb env) QT (S7 (model Z.prog Z.w) A env (S8 (model Z.prog Z.w) A env X)) s₂) (S7 (model Z.prog Z.w) A env (S8 (model Z.prog Z.w) A env X)) s₁) (S7 (model Z.prog Z.w) A env (S8 (model Z.prog Z.w) A env X)) s₁:=by
 refine af L.ev fun r1 e1 ev=>af e1 fun ρ1 hbt e1=>L.turn0 (s:={s with heap:=h1,toks:=tk}) EO R ht G hbt (hgo _ hbt) fun h3 t3 a3 IT3 lv=> ?_
 refine Nf fun nG=> ?_
 obtain ⟨o1,ρ2,σ2⟩:=r1
 refine nG ?_
 have go:=fun ho=>iT SS EO R hb (s:={s with heap:=h3,toks:=t3}) a3.st e1 ho QT (S7 (model Z.prog Z.w) A env (S8 (model Z.prog Z.w) A env X))
 cases o1 with
 |next=>exact go rfl fun f h4 t4 CA4 D4 a4=>let d:=tn.done G a3 IT3 lv a4;hN f _ (.inl a4.flow) ⟨xs,ρ2,σ2,CA4,D4,h4,t4,rfl,rfl,(show f= .next from a4.flow)▸d.1,d.2,ev⟩
 |cont=>exact go rfl fun f h4 t4 CA4 D4 a4=>let d:=tn.done G a3 IT3 lv a4;hN f _ (.inr a4.flow) ⟨xs,ρ2,σ2,CA4,D4,h4,t4,rfl,rfl,⟨d.1.keep,d.1.ext,d.1.st,rfl⟩,d.2,ev⟩
 |ret U=>
  refine go rfl fun f h4 t4 CA4 D4 a4=> ?_
  obtain ⟨w,e,_⟩:∃w,f= .ret w∧_:=a4.flow
  have ev:=Ng ev
  rw [←ev] at H
  rw [e] at a4 ⊢
  exact hR w _ (H.go rfl _ h4 t4 CA4 _ (Dn G (tn.done G a3 IT3 lv a4).1))
 |exc=>
  refine Nf fun nG=> ?_
  obtain ⟨SX,⟨d,hx⟩,P,hX⟩:=H.exc (Ng ev▸rfl)
  refine nG ?_
  exact N3 (tU SS SX EO R hb hx (s:={s with heap:=h3,toks:=t3}) a3.st e1 rfl QT X P fun h4 t4 e z=>hX h4 t4 e
   ⟨a3.keep.fresh z.keep fun x w=>a3.ext.freshAt (fun _ m=> .inl (.inl m)) w fun _ w=> .inl (.inr w),z.ns,a3.keep.alive lv z.new,z.obj⟩) (fun _ _ x=>x) P
theorem CV (SS:ji Z n E) {ct:Expr} {t:kN} {cb:List Stmt} {body:List CS} {two:Bool} {xs:List V} (EO:az env c) (R:aN n A) (ht:kd c ct t false=true) (htw:jX ct=some two) (hb:bG (cA Z.fname m c k) cb body=true) (G:m9 Z env CA D s.heap I J)
  (L0:tn Z env c CA D I J two E t body r s.heap s.heap xs ρ σ CA1 D1) {Q:Flow→Nn→Prop} {X:Nk→Nn→Prop} (H:H7 Z A n E c env (Wl env CA I J) CA D cb body r s Q X):
  Pr (model Z.prog Z.w) A (.forLoop ct (.ref I) cb [] env) (fun r s'=>match r with| .ok f=>Q f s'| .error e=>S8 (model Z.prog Z.w) A env X e s') s:=by
 refine codeAny_forLoop_any (JU Z env c CA D I J two E t body r s) (fun mm s' hI=> ?_) xs.length ⟨xs,ρ,σ,CA1,D1,s.heap,s.toks,rfl,rfl,L0⟩
 refine Nf fun nG=> ?_
 obtain ⟨xs',ρx,σx,CAx,D1,h1,tk,e1,e2,L⟩:=hI
 rw [e1,e2] at nG
 cases xs' with
 |nil=>exact nG (vq (s:={s with heap:=h1,toks:=tk}) R.calm L.it fun h2 t2 k2=>P1 (H.go (Ng L.ev▸rfl) .next h2 t2 CAx _ (Ng L.ev▸L.aft.cut G k2 rfl)))
 |cons x xs'=>exact af L.ev fun r1 e1 ev=>af e1 fun ρ1 hbt e1=>nG (rH (s:={s with heap:=h1,toks:=tk}) (target:=ct) htw L.aft.st.live L.it (L.aft.ext.sub I (.inr (.inl rfl))) (L.aft.ext.sub J (.inr (.inr rfl))) (xZ ht htw hbt) fun v s₁ hgo=>Fc SS EO R ht hb G L (fun _ _=>hgo) H (fun _ _ q=>q) fun f s3 hf I=>by
  rcases hf with rfl|rfl<;>exact ⟨xs'.length,OD _,I⟩)
end
theorem xR (O:Wd.Ok Z p loose mg mb) (SE:bK Z n E) (SS:ji Z n E) {ct ci:Expr} {t:kN} {it:It} {cb:List Stmt} {body:List CS} {pos:Pos} (hf:xJ c (au Z.fname m c) ct ci t it=true) (hb:bG (cA Z.fname m c k) cb body=true)
  (EO:az env c) (S:St Z env c.vars ρ CA σ D s.heap) (R:aN n A) (ev:dX P E (.for_ t it body) ρ σ=some r) {Q:Flow→Nn→Prop} {X:Nk→Nn→Prop} (H:H7 Z A n E c env (Ws env CA) CA D cb body r s Q X):
  Ny (model Z.prog Z.w) A (exec (.For ct ci cb [] pos) env) Q X s:=af ev fun q e1 ev=>by
 have f1:=ac hf
 have f2:=ac f1.2
 have f3:=ac f2.2
 refine wpAny_For (hs:=fun x=>i5 f3.1) (qq O SE f3.2 EO S R e1 _ _ fun I J h1 t1 k1 c1 nI nJ IT=> ?_)
 have S1:St Z env c.vars ρ CA q.2 (DI D I J) h1:=S.stepGrow k1 c1 (fun b q=>q.imp id fun z=>z.elim (fun z=>z▸nI) fun z=>z▸nJ) fun b q=> .inl q
 have G:m9 Z env CA D h1 I J:=⟨S.toGd.fresh_notD nI.none,S.toGd.fresh_notD nJ.none,nI.live,nJ.live,S.nsD,fun x q l=>(S.pc x q l).1,S.cells.inD,S.low⟩
 have al:∀a,h1.get? a=none→s.heap.get? a=none:=fun _=>k1.alive fun b w=>c1.live w
 have fr:∀b,Wl env CA I J b→Ws env CA b∨s.heap.get? b=none:=fun b w=>w.imp id fun w=>w.elim (fun w=>w▸nI.none) fun w=>w▸nJ.none
 exact CV (s:={s with heap:=h1,toks:=t1}) SS EO R f1.1 (pA f1.1 f2.1) hb G ⟨⟨aw.refl,lR.refl S1.cells.inD,S1,rfl⟩,IT,ev⟩
  ⟨fun ho f h2 t2 CA2 D2 a2=>H.go ho f h2 t2 CA2 D2 ⟨aw.fresh (k1.weaken fun b w=> .inl w) a2.keep fr,a2.ext.since al,a2.st,a2.flow.back al⟩,
   fun ho=>let q:=H.exc ho;⟨q.1,q.2.1,q.2.2.1,fun h2 t2 e z=>q.2.2.2 h2 t2 e ⟨aw.fresh (k1.weaken fun b w=> .inl w) z.keep fr,z.ns,al e z.new,z.obj⟩⟩⟩
theorem H4 (O:Wd.Ok Z p loose mg mb) (SE:bK Z n E) (SS:ji Z n E) {ct ci:Expr} {t:kN} {it:It} {cb:List Stmt} {body:List CS} {pos:Pos} (hf:xJ c (au Z.fname m c) ct ci t it=true) (hb:bG (cA Z.fname m c k) cb body=true)
  (EO:az env c) (S:St Z env c.vars ρ CA σ D s.heap) (R:aN n A) (ev:dX P E (.for_ t it body) ρ σ=some r) (ho:r.1.ok=true):lG Z A env c.vars CA D r (exec (.For ct ci cb [] pos) env) s:=fun Q X h=>
 xR O SE SS hf hb EO S R ev ⟨fun _=>h,fun z=>(by rw [z] at ho;cases ho)⟩
noncomputable def Lv (Z:Wd) (env:Env) (c:Ctx) (CA:List Addr) (D:Addr→Prop) (E:Ev) (t:CE) (body:List CS) (r:fg×Loc×ag) (s:Nn) (mm:Nat) (s':Nn):Prop:=
 ∃ρx σx CAx D1 h1 tk,s'={s with heap:=h1,toks:=tk}∧cu Z (Ws env CA) env c.vars CA D s.heap (.next,ρx,σx) .next h1 CAx D1∧fW (cv E t) (aH E body) mm ρx σx=some r
theorem Er (SB:gX Z n E) (SS:ji Z n E) {ct:Expr} {t:CE} {cb:List Stmt} {body:List CS} (ht:au Z.fname m c ct t=true) (hb:bG (cA Z.fname m c k) cb body=true) (EO:az env c) (R:aN n A) (ho:r.1.ok=true) {mm:Nat} {s':Nn} (hI:Lv Z env c CA D E t body r s mm s') {QT QE:Flow→Nn→Prop} {X:Nk→Nn→Prop}
  (hE:∀h' tk CA' D',cu Z (Ws env CA) env c.vars CA D s.heap r .next h' CA' D'→QE .next {s with heap:=h',toks:=tk}) (hN:∀f s3 m',f= .next∨f= .cont→m' <mm→Lv Z env c CA D E t body r s m' s3→QT f s3) (hR:∀v h' tk CA' D',cu Z (Ws env CA) env c.vars CA D s.heap r (.ret v) h' CA' D'→QT (.ret v) {s with heap:=h',toks:=tk}):
  Ny (model Z.prog Z.w) A (isTrue ct env (eval ct env)) (fun b s₂=>if b then Ny (model Z.prog Z.w) A (execs cb env) QT X s₂ else Ny (model Z.prog Z.w) A (execs [] env) QE X s₂) X s':=by
 refine Nf fun nG=> ?_
 obtain ⟨ρx,σx,CAx,D1,h1,tk,e0,a1,ev⟩:=hI
 cases mm with
 |zero=>cases ev
 |succ mm=>
  refine af ev fun b e1 ev=>nG (e0▸SB m c ct t ht env A {s with heap:=h1,toks:=tk} ρx σx CAx D1 b.1 b.2 EO a1.st R (jj e1) _ _ fun h2 t2 k2 c2=> ?_)
  have a2:cu Z (Ws env CA) env c.vars CA D s.heap (.next,ρx,b.2) .next h2 CAx D1:=a1.seq (.of (o:= .next) a1.st k2 c2 rfl)
  obtain ⟨b,σ1⟩:=b
  cases b with
  |false=>exact P1 (hE h2 t2 CAx D1 (Ng ev▸a2))
  |true=>
   refine af ev fun r1 e2 ev=> ?_
   refine Nf fun nG=> ?_
   obtain ⟨o1,ρ2,σ2⟩:=r1
   refine nG ?_
   have go:=fun ho=>iT SS EO R hb (s:={s with heap:=h2,toks:=t2}) a2.st e2 ho QT X
   cases o1 with
   |next=>exact go rfl fun f h3 t3 CA3 D3 a3=>hN f _ mm (.inl a3.flow) (OD _) ⟨ρ2,σ2,CA3,D3,h3,t3,rfl,(show f= .next from a3.flow)▸a2.seq a3,ev⟩
   |cont=>exact go rfl fun f h3 t3 CA3 D3 a3=>hN f _ mm (.inr a3.flow) (OD _) ⟨ρ2,σ2,CA3,D3,h3,t3,rfl,let a4:=a2.seq a3;⟨a4.keep,a4.ext,a4.st,rfl⟩,ev⟩
   |ret U=>exact go rfl fun f h3 t3 CA3 D3 a3=>let ⟨w,e,_⟩:=(a3.flow:∃w,f= .ret w∧_);e▸hR w h3 t3 CA3 D3 (e▸Ng ev▸a2.seq a3)
   |exc=>cases Ng ev;cases ho
theorem Db (SB:gX Z n E) (SS:ji Z n E) {ct:Expr} {t:CE} {cb:List Stmt} {body:List CS} {pos:Pos} (ht:au Z.fname m c ct t=true) (hb:bG (cA Z.fname m c k) cb body=true)
  (EO:az env c) (S:St Z env c.vars ρ CA σ D s.heap) (R:aN n A) (ev:dX P E (.while_ t body) ρ σ=some r) (ho:r.1.ok=true):
  lG Z A env c.vars CA D r (exec (.While ct cb [] pos) env) s:=fun Q X h=>
 wpAny_While (codeAny_whileLoop (Lv Z env c CA D E t body r s) (fun mm s' hI=>Er SB SS ht hb EO R ho hI (fun h' tk CA' D' a=>h .next h' tk CA' D' a) (fun f s3 m' hf lt I=>by rcases hf with rfl|rfl<;>exact ⟨m',lt,I⟩) fun v h' tk CA' D' a=>h (.ret v) h' tk CA' D' a) turns
  ⟨ρ,σ,CA,D,s.heap,s.toks,rfl,.of S aw.refl S.cells rfl,ev⟩)
end
section
variable {Z:Wd} {n:Nat} {E:Ev} {p:N2} {loose:List Str} {mg mb:Str→Nh Nk}
theorem E8 {α:Type} {l:List α} (h:l.length=2):∃a b,l=[a,b]:=by
 cases l with
 |nil=>cases h
 |cons a l=>cases l with
  |nil=>cases h
  |cons b l=>cases l with
   |nil=>exact ⟨a,b,rfl⟩
   |cons _ _=>cases h
theorem EU {st:Stmt} {q:List Expr×Expr×Pos} {t:Expr} (h:mr st=some q) (ht:q.1=[t]):st= .Assign [t] q.2.1 q.2.2:=by rw [rR h,ht]
section
variable {fn:Nat→Nh Str} {k m:Nat} {c:Ctx} {st:Stmt} {P:Prop}
theorem uV {i:Nat} {e:CE} (hc:((mr st).any fun q=>kJ q.1 fun t=>(cz t).any fun x=>cJ c x i&&((e.comp?.isSome||eM q.2.1)&&au fn m c q.2.1 e))=true) (K:∀x xp v p,st= .Assign [.Name x xp] v p→cJ c x i=true→(e.comp?.isSome||eM v)=true→au fn m c v e=true→P):P:=by
 refine ax hc fun q h1 h2=> ?_
 refine hO h2 fun t h3 h4=> ?_
 refine ax h4 fun x h5 h6=> ?_
 obtain ⟨xp,h7⟩:=aY h5
 have a:=ac h6
 exact K x xp q.2.1 q.2.2 (by rw [EU h1 h3,h7]) a.1 (ac a.2).1 (ac a.2).2
theorem Au {v:Expr} {q:CE×List CG} (h:au fn m c v (.comp q.1 q.2)=true) (K:∀k e gens scope p,v= .ListComp e gens scope p→m=k+1→au fn (k+1) c (.ListComp e gens scope p) (.comp q.1 q.2)=true→P):P:=by
 cases m with
 |zero=>cases h
 |succ m=>
  refine ax h fun r h1 _=> ?_
  obtain ⟨pos,h2⟩:=o8 h1
  exact K m r.1 r.2.1 r.2.2 pos h2 rfl (h2▸h)
theorem zR {ts:List (Nat×Bool)} {es:List CE} (hc:cA fn m c (k+1) st (.assignT ts es)=true) (K:∀i j x y p1 p2 kk w va vb k' w' p,ts=[i,j]→st= .Assign [.Tuple [.Name x p1,.Name y p2] kk w] (.Tuple [va,vb] k' w') p→([va,vb].all (constantsAlone 8))=false→
  cJ c x i.1=true→cJ c y j.1=true→(x !=y)=true→d8 (au fn m c) [va,vb] es=true→P):P:=by
 refine ax hc fun q h1 h2=> ?_
 refine hO h2 fun t h3 h4=> ?_
 refine ax h4 fun xy h5 h6=> ?_
 refine ax h6 fun vs h7 h8=> ?_
 obtain ⟨i,j,e1,h9⟩:=lZ h8
 have a:=ac h9
 have b:=ac a.2
 obtain ⟨va,vb,e2⟩:=E8 (Nv b.1)
 have d:=ac b.2
 have g:=ac d.2
 have l:=ac g.2
 obtain ⟨p1,p2,kk,w,e3⟩:=qh h5
 obtain ⟨k',w',h13⟩:=kz h7
 rw [e2] at h13 a l
 exact K i j xy.1 xy.2 p1 p2 kk w va vb k' w' q.2.2 e1 (by rw [EU h1 h3,h13,e3]) (cI a.1) d.1 g.1 l.1 l.2
theorem C9 {ts:List Nat} {e:CE} (hc:cA fn m c (k+1) st (.unpack ts e)=true) (K:∀i j x y p1 p2 kk w v p,ts=[i,j]→st= .Assign [.Tuple [.Name x p1,.Name y p2] kk w] v p→cJ c x i=true→cJ c y j=true→(x !=y)=true→eM v=true→wf v=true→au fn m c v e=true→P):P:=by
 refine ax hc fun q h1 h2=> ?_
 refine hO h2 fun t h3 h4=> ?_
 refine ax h4 fun xy h5 h6=> ?_
 obtain ⟨i,j,e1,h9⟩:=lZ h6
 have a:=ac h9
 have b:=ac a.2
 have d:=ac b.2
 have g:=ac d.2
 obtain ⟨p1,p2,kk,w,e3⟩:=qh h5
 exact K i j xy.1 xy.2 p1 p2 kk w q.2.1 q.2.2 e1 (by rw [EU h1 h3,e3]) a.1 b.1 d.1 g.1 (ac g.2).1 (ac g.2).2
theorem CM {x i e:CE} (hc:cA fn m c (k+1) st (.setIdx x i e)=true) (K:∀a b sp v p,st= .Assign [.Subscript a b sp] v p→au fn m c a x=true→au fn m c b i=true→au fn m c v e=true→P):P:=by
 refine ax hc fun q h1 h2=> ?_
 refine hO h2 fun t h3 h4=> ?_
 refine ax h4 fun ob h5 h6=> ?_
 obtain ⟨sp,e1⟩:=ku h5
 have a:=ac (ac h6).2
 exact K ob.1 ob.2 sp q.2.1 q.2.2 (by rw [EU h1 h3,e1]) a.1 (ac a.2).1 (ac a.2).2
theorem v5 {e:CE} (hc:cA fn m c (k+1) st (.expr e)=true) (K:∀v p,st= .Expr v p→eM v=true→au fn m c v e=true→P):P:=by
 refine ax hc fun v h1 h2=> ?_
 obtain ⟨p,e1⟩:=k9 h1
 exact K v p e1 (ac h2).1 (ac h2).2
theorem A6 {e:CE} (hc:cA fn m c (k+1) st (.ret e)=true) (K:∀v p,st= .Return (some v) p→au fn m c v e=true→P):P:=by
 refine ax hc fun v h1 h2=> ?_
 refine ax h2 fun w e1 h3=> ?_
 obtain ⟨p,e2⟩:=zy h1
 exact K w p (by rw [e2,e1]) h3
theorem FV {t:CE} {a b:List CS} (hc:cA fn m c (k+1) st (.ite t a b)=true) (K:∀x y z p,yC st=some (x,y,z)→st= .If x y z p→au fn m c x t=true→bG (cA fn m c k) y a=true→bG (cA fn m c k) z b=true→P):P:=by
 refine ax hc fun q h1 h2=> ?_
 obtain ⟨p,e1⟩:=zT h1
 have a:=ac h2
 exact K q.1 q.2.1 q.2.2 p h1 e1 a.1 (ac a.2).1 (ac a.2).2
theorem F9 {t:kN} {it:It} {b:List CS} (hc:cA fn m c (k+1) st (.for_ t it b)=true) (K:∀ct ci cb p,yE st=some (ct,ci,cb,[])→st= .For ct ci cb [] p→xJ c (au fn m c) ct ci t it=true→bG (cA fn m c k) cb b=true→P):P:=by
 refine ax hc fun q h1 h2=> ?_
 obtain ⟨p,e1⟩:=zA h1
 have a:=ac h2
 have z:q.2.2.2=[]:=aE a.1
 exact K q.1 q.2.1 q.2.2.1 p (by rw [h1,←z]) (by rw [e1,z]) (ac a.2).1 (ac a.2).2
theorem Fl {t:CE} {b:List CS} (hc:cA fn m c (k+1) st (.while_ t b)=true) (K:∀ct cb p,st= .While ct cb [] p→au fn m c ct t=true→bG (cA fn m c k) cb b=true→P):P:=by
 refine ax hc fun q h1 h2=> ?_
 obtain ⟨p,e1⟩:=ux h1
 have a:=ac h2
 exact K q.1 q.2.1 p (by rw [e1,aE a.1]) (ac a.2).1 (ac a.2).2
end
theorem GR {c:Ctx} {env:Env} {x y:Str} {i j:Nat} (EO:az env c) (h1:cJ c x i=true) (h2:cJ c y j=true) (h3:x≠y):CY env c x y i j:=
 have a:=eP h1 EO
 have b:=eP h2 EO
 ⟨a,b,fun z=>h3 ((EO.vars.inj x i y j a.mem b.mem).mpr z)⟩
theorem yT (O:Wd.Ok Z p loose mg mb) (SE:bK Z n E) (SB:gX Z n E) (SC:pR Z n E) (SS:ji Z n E) {k m:Nat} {c:Ctx} {st:Stmt} {cs:CS} (hc:cA Z.fname m c k st cs=true) {env:Env} {A:N4} {s:Nn} {ρ:Loc} {σ:ag} {CA:List Addr} {D:Addr→Prop} {r:fg×Loc×ag}
  (EO:az env c) (S:St Z env c.vars ρ CA σ D s.heap) (R:aN n A) (ev:dX Z.P E cs ρ σ=some r) (ho:r.1.ok=true):lG Z A env c.vars CA D r (exec st env) s:=by
 refine Nf fun nG=> ?_
 cases k with
 |zero=>cases hc
 |succ k=>
  cases cs with
  |assign i e=>
   refine uV hc fun x xp v pos he h1 h2 h3=> ?_
   unfold dX at ev
   dsimp only at ev
   cases hq:e.comp? with
   |none=>
    rw [hq] at ev h2
    exact af ev fun q e1 ev=>af e1 fun rr e2 e1=>af e1 fun u e3 e1=>nG (he▸Ng ev▸Ng e1▸ro h1 EO S (ez h2) (SE m c v e h3 env A s ρ σ CA D rr.1 rr.2 EO S R e2) e3)
   |some q=>
    rw [hq] at ev
    rw [sx hq] at h3
    refine Au h3 fun m' el gens scope cp e1 e2 h4=> ?_
    obtain ⟨vs,K⟩:=mS h4
    rw [e1] at he
    exact af ev fun rr e1 ev=>aL ev fun hz ev=>nG (he▸Ng ev▸pF O SE SB K h1 EO S R e1 (eC hz))
  |own i e=>
   refine uV hc fun x xp v pos he h1 h2 h3=> ?_
   unfold dX at ev
   dsimp only at ev
   cases hq:e.comp? with
   |none=>
    rw [hq] at ev h2
    refine af ev fun rr e2 ev=>am ev fun u e3 ev=>nG (he▸ev▸?_)
    obtain ⟨U,σ1⟩:=rr
    cases U<;>first|(cases e3;done)|skip
    cases Ng e3
    exact BA h1 EO S (ez h2) (SE m c v e h3 env A s ρ σ CA D _ σ1 EO S R e2)
   |some q=>
    rw [hq] at ev
    rw [sx hq] at h3
    refine Au h3 fun m' el gens scope cp e1 e2 h4=> ?_
    obtain ⟨vs,K⟩:=mS h4
    rw [e1] at he
    exact af ev fun rr e1 ev=>aL ev fun hz ev=>nG (he▸Ng ev▸uU O SE SB K h1 EO S R e1 (eC hz))
  |assignT ts es=>exact zR hc fun i j x y p1 p2 kk w va vb k' w' p e1 he h1 h2 h3 h4 h5=>by rw [e1] at ev;exact af ev fun r e1 ev=>nG (he▸Ng ev▸wL SE (GR EO h2 h3 (ju h4)) h1 h5 EO S R e1)
  |unpack ts e=>exact C9 hc fun i j x y p1 p2 kk w v p e1 he h2 h3 h4 h5 h6 h7=>by rw [e1] at ev;exact af ev fun q e1 ev=>af ev fun us e2 ev=>aL ev fun hl ev=>nG (he▸Ng ev▸zX SE (GR EO h2 h3 (ju h4)) h5 h6 h7 EO S R e1 (j6 e2) hl)
  |setIdx x i e=>exact CM hc fun a b sp v p he h1 h2 h3=>nG (he▸z6 SE h1 h2 h3 EO S R ev)
  |expr e=>exact v5 hc fun v p he h1 h2=>nG (he▸Fp O SE SC h1 h2 EO S R ev ho)
  |ret e=>exact A6 hc fun v p he h1=>nG (he▸Ii SE h1 EO S R ev)
  |ite t a b=>exact FV hc fun x y z p _ he h1 h2 h3=>nG (he▸G4 SB SS h1 h2 h3 EO S R ev ho)
  |for_ t it body=>exact F9 hc fun ct ci cb p _ he h1 h2=>nG (he▸H4 O SE SS h1 h2 EO S R ev ho)
  |while_ t body=>exact Fl hc fun ct cb p he h1 h2=>nG (he▸Db SB SS h1 h2 EO S R ev ho)
  |cont=>
   obtain ⟨u,h1⟩:=Og.mp hc
   obtain ⟨pos,he⟩:=vS h1
   exact nG (he▸Ng ev▸fun Q X h=>wpAny_Continue (h .cont s.heap s.toks CA D (.of S aw.refl S.cells rfl)))
  |raise_=>cases Ng ev;cases ho
  |try_ a b=>cases ev
theorem y3 (O:Wd.Ok Z p loose mg mb) (SE:bK Z n E) (SB:gX Z n E) (SC:pR Z n E) (SS:ji Z n E):ji Z (n+1) (step Z.P E):=
 fun _ _ _ _ _ hc _ _ _ _ _ _ _ _ EO S R ev ho=>yT O SE SB SC SS hc EO S (R.less (NQ _)) ev ho
end
structure F5 (Z:Wd) (a:Addr) (fn:Fn) (fo:Obj) (fd:OC) (body:List Stmt) (ps:List Str) (c:Ctx) (k m:Nat):Prop where
 at_:Z.K.lookup a=some fo
 data:fo.data= .func fd
 code:codeIn Z.K fd.code fd.qualname=true
 bod:fd.body= .stmts body
 clo:fd.closure=[]
 glb:fd.globals=N7
 blt:fd.builtins=RY
 kind:fd.scope.kind= .function
 co:fd.scope.isCoroutine=false
 gen:fd.scope.isGenerator=false
 sc:c.sc=fd.scope
 vars:j3 c.vars
 chk:bG (cA Z.fname m c k) body fn.body=true
 np:ps.length=fn.np
 pv:∀j x,ps[j]? =some x→(x,j)∈c.vars
 pk:∀x∈ps,fd.scope.names.lookup x=some .local∨fd.scope.names.lookup x=some .cell
 binds:∀(s:Nn) (vs:List Nk),Z.K.In s.heap→vs.length≤fn.np→fn.np≤vs.length+fn.dflts.length→∃dvs:List Nk,dvs.length=fn.np -vs.length∧
   (∀D:Addr→Prop,(∀b o,Z.K.lookup b=some o→¬D b)→ak Z D s.heap dvs (fn.dflts.drop (fn.dflts.length -(fn.np -vs.length))))∧BindsTo s fd ⟨vs,[]⟩ (ps.zip (vs++dvs))
noncomputable def Es (Z:Wd) (a:Addr) (fn:Fn):Prop:=∃fo fd body ps c k m,F5 Z a fn fo fd body ps c k m
section
variable {prog:N2} {w:PK} {A:N4} {s:Nn}
theorem nv {R:Qo→Nn→Prop} {a:Addr} {o:Obj} {fd:OC} {body:List Stmt} {args:Args} {binds:List (Str×Nk)}
  (hroom:A.depth <recursionLimit) (ho:s.heap.get? a=some o) (hdata:o.data= .func fd) (hlim:s.heap.NoLimit) (hcd:s.heap.CodeRec fd.code fd.qualname)
  (hbody:fd.body= .stmts body) (hbind:BindsTo s fd args binds) (hclo:fd.closure=[])
  (hkind:∀x∈binds,fd.scope.names.lookup x.1=some .local∨(fd.scope.names.lookup x.1=some .cell∧((cellsFrom (s.heap.objs.size+1) fd.scope.names []).lookup x.1).isSome=true))
  (h:∀s₁,InCallC s (Oc fd s.heap.objs.size a).locals (bindL (Oc fd s.heap.objs.size a).kindOf binds fun _=>none) (Oc fd s.heap.objs.size a).cells
    (bindC (Oc fd s.heap.objs.size a).kindOf binds fun _=>none) s₁→
   Ny (model prog w) (A.deeper (Oc fd s.heap.objs.size a)) (execs body (Oc fd s.heap.objs.size a)) (fun f s'=>R (.ok (.ret (match f with| .ret v=>v|_=> .none))) s')
    (fun e s'=>Ny (model prog w) (A.deeper (Oc fd s.heap.objs.size a)) (leaving (Oc fd s.heap.objs.size a) e) (fun _ s''=>R (.error e) s'') (fun e' s''=>R (.error e') s'') s') s₁)
  (hco:fd.scope.isCoroutine=false) (hgen:fd.scope.isGenerator=false) (hk:fd.scope.kind= .function):
  Pr (model prog w) A (.call (.ref a) args) R s:=by
 refine codeAny_call_function hroom ho hdata hco hgen hbody hcd (hbind _ _ _ _ ?_)
 rw [hclo]
 refine wpAny_newFunctionEnv_cells hk hkind fun env he s' x=> ?_
 subst he
 exact ⟨hlim.keeps x.toInCall.keep,codeAny_func (h s' x)⟩
end
theorem uv {kindOf:Str→Nh UJ}:∀{binds:List (Str×Nk)} {m:Str→Nh Nk} {x:Str},x∉binds.map (·.1)→bindL kindOf binds m x=m x:=by
 intro binds
 induction binds with
 |nil=>intro m x _;rfl
 |cons p r ih=>
  intro m x hx
  rw [NA,NN,not_or] at hx
  obtain ⟨n,v⟩:=p
  rw [bindL,ih hx.2]
  by_cases h:kindOf n=some .local
  ·rw [NG h];exact NV hx.1
  ·rw [NV h]
theorem uS {kindOf:Str→Nh UJ}:∀{binds:List (Str×Nk)} {m:Str→Nh Nk} {x:Str},x∉binds.map (·.1)→bindC kindOf binds m x=m x:=by
 intro binds
 induction binds with
 |nil=>intro m x _;rfl
 |cons p r ih=>
  intro m x hx
  rw [NA,NN,not_or] at hx
  obtain ⟨n,v⟩:=p
  rw [bindC,ih hx.2]
  by_cases h:kindOf n=some .local
  ·rw [NG h]
  ·rw [NV h];exact NV hx.1
theorem lV {kindOf:Str→Nh UJ}:∀{binds:List (Str×Nk)} {m:Str→Nh Nk} {x:Str} {v:Nk},(binds.map (·.1)).Nodup→(x,v)∈binds→(kindOf x=some .local→bindL kindOf binds m x=some v)∧(kindOf x=some .cell→bindC kindOf binds m x=some v):=by
 intro binds
 induction binds with
 |nil=>intro m x v _ h;cases h
 |cons p r ih=>
  intro m x v hn hm
  rw [NA,Pc] at hn
  rcases NN.mp hm with e|hm'
  ·subst e
   exact ⟨fun hk=>by rw [bindL,uv hn.1,NG hk];exact NG rfl,fun hk=>by rw [bindC,uS hn.1,NV (by rw [hk];decide)];exact NG rfl⟩
  ·obtain ⟨n,w⟩:=p
   exact ⟨fun hk=>by rw [bindL];exact (ih hn.2 hm').1 hk,fun hk=>by rw [bindC];exact (ih hn.2 hm').2 hk⟩
theorem uY {α:Type} {l:List (Str×α)} (hp:l.Pairwise fun x y=>x.2≠y.2) {x y:Str} {c:α} (a:l.lookup x=some c) (b:l.lookup y=some c):x=y:=by
 obtain ⟨i,hi,ei⟩:=O5 (gI a)
 obtain ⟨j,hj,ej⟩:=O5 (gI b)
 have no:∀{i j:Nat} {hi:i <l.length} {hj:j <l.length} {x y:Str},i <j→l[i]=(x,c)→l[j]=(y,c)→Rr:=fun {i j hi hj x y} h ei ej=>Ph.mp hp i j hi hj h (by rw [ei,ej])
 rcases Sf i j with h|h|h
 ·exact (no h ei ej).elim
 ·subst h;rw [ei] at ej;exact Nt Prod.fst ej
 ·exact (no h ej ei).elim
section
variable {Z:Wd} {n:Nat} {E:Ev} {A:N4} {p:N2} {loose:List Str} {mg mb:Str→Nh Nk}
theorem oU {vs:List Nk} {ps:List Str} {j:Nat} {x:Str} {v:Nk} (a:ps[j]? =some x) (b:vs[j]? =some v):(x,v)∈ps.zip vs:=
 NF (i:=j) (List.getElem?_zip_eq_some.mpr ⟨a,b⟩)
theorem ng:∀{ps:List Str} {vs:List Nk},ps.length≤vs.length→(ps.zip vs).map (·.1)=ps
 |[],_,_=>rfl
 |_::_,[],h=>absurd h (Nat.not_succ_le_zero _)
 |x::ps,v::vs,h=>Nt (x:: ·) (ng (PP h))
theorem bS.get {CA:List Addr} {D:Addr→Prop} {h:Heap} {vs:List Nk} {Us:List aA} (r:bS Z CA D h vs Us):∀{i:Nat} {U:aA},Us[i]? =some U→∃v,vs[i]? =some v∧eE Z CA D h v U:=by
 induction r with
 |nil=>exact fun h=>nomatch h
 |cons a r ih=>
  intro i U h
  cases i with
  |zero=>cases Ng h;exact ⟨_,rfl,a⟩
  |succ i=>exact ih h
theorem Ed {Us:List aA} {sz i:Nat} {U:aA} (e:(Us.map some++Tq sz none)[i]? =some (some U)):Us[i]? =some U:=by
 rcases Qk i Us.length with l|l
 ·rw [Ov (by rw [Nl];exact l),OF] at e
  refine am e fun a h1 h2=> ?_
  cases h2;exact h1
 ·rw [Ox (by rw [Nl];exact l)] at e
  cases List.eq_of_mem_replicate (NF e)
structure Gg (Z:Wd) (CA:List Addr) (σ:ag) (D:Addr→Prop) (h:Heap):Prop where
 base:∀b o,Z.base.get? b=some o→h.get? b=some o
 dabove:∀a,D a→Z.base.objs.size≤a
 low:D Z.base.objs.size∨Z.base.objs.size=h.objs.size
 live:∀a,D a→∃o,h.get? a=some o
 cells:aF Z CA σ D h
theorem Gd.gg {CA:List Addr} {σ:ag} {D:Addr→Prop} {h:Heap} (G:Gd Z CA σ D h):Gg Z CA σ D h:=⟨G.base,G.dabove,.inl G.low,G.live,G.cells⟩
theorem Gg.le {CA:List Addr} {σ:ag} {D:Addr→Prop} {h:Heap} (G:Gg Z CA σ D h):Z.base.objs.size≤h.objs.size:=G.low.elim (fun d=>let ⟨_,e⟩:=G.live _ d;NP (NY e)) NZ
theorem Gg.dbase {CA:List Addr} {σ:ag} {D:Addr→Prop} {h:Heap} (G:Gg Z CA σ D h) (a:Addr) (d:D a):Z.base.get? a=none:=gi (G.dabove a d)
noncomputable def Wy (env:Env) (b:Addr):Prop:=b=env.locals∨∃x,env.cells.lookup x=some b
theorem B6 {env:Env} {b:Addr} (w:Wx env b):Wy env b:=w.imp id fun ⟨x,_,l⟩=>⟨x,l⟩
theorem oz {c:Ctx} {ps:List Str} (hvo:j3 c.vars) (hpv:∀j x,ps[j]? =some x→(x,j)∈c.vars):ps.Nodup:=
 Ph.mpr fun i j hi hj hij z=>absurd ((hvo.inj _ _ _ _ (hpv i ps[i] (Nr hi)) (hpv j ps[j] (Nr hj))).mp z) (Q4 hij)
section
variable {c:Ctx} {fd:OC} {a:Addr} {s s₁:Nn} {CA:List Addr} {σ:ag} {D:Addr→Prop} {ps:List Str} {vals:List Nk} {Us:List aA} {sz:Nat}
theorem JD (x:InCallC s (Oc fd s.heap.objs.size a).locals (bindL (Oc fd s.heap.objs.size a).kindOf (ps.zip vals) fun _=>none) (Oc fd s.heap.objs.size a).cells (bindC (Oc fd s.heap.objs.size a).kindOf (ps.zip vals) fun _=>none) s₁):
  ∀b,Wy (Oc fd s.heap.objs.size a) b→s.heap.objs.size≤b∧∃o,s₁.heap.get? b=some o:=fun b w=>by
 rcases w with rfl|⟨y,l⟩
 ·exact let ⟨o,_,_,e,_⟩:=x.toInCall.ns;⟨Nz _,o,e⟩
 ·exact let ⟨o,e,_⟩:=x.cell y b l;⟨NP (x.above y b (gI l)),o,e⟩
theorem St.init (G:Gg Z CA σ D s.heap) (rs:bS Z CA D s.heap vals Us)
  (x:InCallC s (Oc fd s.heap.objs.size a).locals (bindL (Oc fd s.heap.objs.size a).kindOf (ps.zip vals) fun _=>none) (Oc fd s.heap.objs.size a).cells (bindC (Oc fd s.heap.objs.size a).kindOf (ps.zip vals) fun _=>none) s₁)
  (hps:ps.length=Us.length) (hvo:j3 c.vars) (hpv:∀j x,ps[j]? =some x→(x,j)∈c.vars) (hpk:∀x∈ps,fd.scope.names.lookup x=some .local∨fd.scope.names.lookup x=some .cell):
  St Z (Oc fd s.heap.objs.size a) c.vars (Us.map some++Tq sz none) CA σ (fun b=>D b∨Wy (Oc fd s.heap.objs.size a) b) s₁.heap:=by
 have keep:=x.toInCall.keep
 have nw:=JD x
 have cellK:∀y,(Oc fd s.heap.objs.size a).kindOf y=some .cell→∃q,(Oc fd s.heap.objs.size a).cells.lookup y=some q:=fun y hy=>Og.mp (VP (x:=y) fd.scope.names (s.heap.objs.size+1) [] (.inl hy))
 have len:=rs.length
 have G':Gd Z CA σ (fun b=>D b∨Wy (Oc fd s.heap.objs.size a) b) s₁.heap:=
  {base:=fun b o e=>keep b o (G.base b o e)
   dabove:=fun b d=>d.elim (G.dabove b) fun w=>Ni G.le (nw b w).1
   low:=G.low.imp id .inl
   live:=fun b d=>d.elim (fun x=>let ⟨o,e⟩:=G.live b x;⟨o,keep b o e⟩) fun w=>(nw b w).2
   cells:=G.cells.grow keep (fun b o e d=>d.elim id fun w=>absurd (NY e) (Pt.mpr (nw b w).1)) fun b d=> .inl d}
 refine ⟨G',⟨_,x.toInCall.ns⟩,.inr (.inl rfl),fun m=>let ⟨o,e⟩:=G.cells.live m;Ou _ (NY e),fun y q l=>⟨.inr (.inr ⟨y,l⟩),_,x.cell y q l⟩,fun y z q l l'=>uY x.apart l l',cellK,fun y i m U e=> ?_⟩
 have e':=Ed e
 have hpi:i <ps.length:=hps.symm▸(Nq.mp e').1
 have ep:=Nr hpi
 have ey:ps[i]=y:=(hvo.inj _ _ _ _ (hpv i ps[i] ep) m).mpr rfl
 refine Nf fun nG=> ?_
 obtain ⟨v,hv,rv⟩:=rs.get e'
 refine nG ?_
 have mz:(y,v)∈ps.zip vals:=oU (by rw [←ey];exact ep) hv
 have nd:((ps.zip vals).map (·.1)).Nodup:=by rw [ng (NZ (hps.trans len.symm))];exact oz hvo hpv
 refine ⟨v,?_,rv.mono fun b o d e=>⟨fun z=>z.elim d fun w=>Ou _ (Od (NY e) (nw b w).1),keep b o e⟩⟩
 rcases hpk y (ey▸U7 hpi) with kl|kc
 ·exact .inl ⟨kl,_,x.toInCall.ns,(lV nd mz).1 kl⟩
 ·obtain ⟨q,hq⟩:=cellK y kc
  have:=x.cell y q hq
  rw [(lV nd mz).2 kc] at this
  exact .inr ⟨.inl kc,q,hq,this⟩
end
theorem aF.take {CA CA2:List Addr} {σ σ2:ag} {D D2:Addr→Prop} {h:Heap} (c:aF Z CA2 σ2 D2 h) (pre:CA<+:CA2) (hl:CA.length=σ.length) (sub:∀b,D b→D2 b) (ca:∀a∈CA,D a):aF Z CA (σ2.take σ.length) D h:=by
 refine Nf fun nG=> ?_
 obtain ⟨t,rfl⟩:=pre
 refine nG ?_
 have cl:=c.len
 rw [Nj] at cl
 refine ⟨by rw [Sx,←cl,←hl,P3 (Oa _ _)],(OL.mp c.nodup).1,fun i b u e e'=> ?_,ca⟩
 have hi:i <CA.length:=(Nq.mp e).1
 rw [List.getElem?_take,NG (hl▸hi)] at e'
 exact (c.at_ i b u (by rw [Ov hi];exact e) e').mono (fun o x=>x) fun b o d x=>⟨fun z=>d (sub b z),x⟩
structure K5 (Z:Wd) (h h':Heap) (CA CA':List Addr) (D D':Addr→Prop):Prop where
 pre:CA<+:CA'
 sub:∀b,D b→D' b
 new:∀b∈CA',b∈CA∨dM Z h h' b
theorem FR {g h2:Heap} {CA CA2:List Addr} {σ σ2 σ':ag} {D D2:Addr→Prop} {W U:aA} {v:Nk} (e:back σ.length W σ2=some (.ok U,σ')) (c:aF Z CA σ D g) (x:K5 Z g h2 CA CA2 D D2) (c2:aF Z CA2 σ2 D2 h2) (r:iI Z g CA2 σ2 D2 h2 v W):
  aF Z CA σ' D h2∧iI Z g CA σ' D h2 v U:=by
 have cl:aF Z CA (σ2.take σ.length) D h2:=c2.take x.pre c.len x.sub c.inD
 cases W with
 |v u=>cases Ng e;exact ⟨cl,b8.mono (fun b o d e=>⟨fun z=>d (x.sub b z),e⟩) r⟩
 |own u=>
  refine Nf fun nG=> ?_
  cases Ng e
  obtain ⟨b,e,nn,bb,ct,c3⟩:=r
  refine nG ?_
  exact ⟨cl,b,e,nn,bb,ct.mono (fun o e=>e) fun b o d e=>⟨fun z=>d (z.imp (x.sub b) id),e⟩,c3.take x.pre c.len (fun b z=>z.imp (x.sub b) id) fun a m=> .inl (c.inD a m)⟩
 |cell q=>
  by_cases hq:q <σ.length
  ·rw [back,NG hq] at e;cases e
  rw [back,NV hq] at e
  refine am e fun u e1 e2=> ?_
  cases e2
  obtain ⟨b,hb,rfl⟩:=r
  have mb:b∈CA2:=NF hb
  have nb:b∉CA:=fun m=>by
   obtain ⟨i,hi⟩:=Oo.mp m
   have li:=(Nq.mp hi).1
   obtain ⟨t,rfl⟩:=x.pre
   exact hq (jY c2.nodup hb (by rw [Ov li];exact hi)▸c.len▸li)
  have nw:=(x.new b mb).resolve_left nb
  have inD:=c2.inD b mb
  exact ⟨cl,b,rfl,nw.none,nw.base,(c2.at_ q b u hb e1).mono (fun o e=>e) fun y o d e=>⟨fun z=>d (z.elim (x.sub y) fun z=>z▸inD),e⟩,c2.take x.pre c.len (fun y z=>z.elim (x.sub y) fun z=>z▸inD) fun a m=> .inl (c.inD a m)⟩
theorem ak.toVs' {CA:List Addr} {D:Addr→Prop} {h:Heap} {vs:List Nk} {us:List V} (r:ak Z D h vs us):bS Z CA D h vs (us.map aA.v):=by
 induction us generalizing vs with
 |nil=>cases r;exact .nil
 |cons u us ih=>cases r with|cons x r=>exact .cons (U:= .v u) x (ih r)
theorem uo {a np d:Nat} (h1:a≤np) (h2:np≤a+d):a+(d -(d -(np -a)))=np:=by rw [U8 (S9.mpr h2),P9 h1]
theorem tR {d n u:Nat} (h1:d+(n+1)+40 <recursionLimit) (h2:u+10*(n+1)+200 <Sv):d+1+n+40 <recursionLimit∧u+3+10*n+200 <Sv∧d <recursionLimit:=
 ⟨by rw [Oq d 1 n,OT 1 n];exact h1,ND (OB (by rw [Oq,OT 3];exact NT (NT (by decide:3≤10) _) _) _) h2,ND (Ni (Oa d (n+1)) (Oa _ 40)) h1⟩
structure MS (Z:Wd) (env:Env) (c:Ctx) (ρ:Loc) (CA:List Addr) (σ:ag) (D:Addr→Prop) (g h:Heap):Prop where
 keep:∀b o,g.get? b=some o→h.get? b=some o
 st:St Z env c.vars ρ CA σ (fun b=>D b∨Wy env b) h
 eo:az env c
 new:∀b,Wy env b→g.objs.size≤b
theorem aN.into {env:Env} (R:aN (n+1) A):aN n (A.deeper env):=⟨(tR R.depth R.units).1,(tR R.depth R.units).2.1,R.calm⟩
theorem jf (O:Wd.Ok Z p loose mg mb) {a:Addr} {fn:Fn} {fo:Obj} {fd:OC} {body:List Stmt} {ps:List Str} {c:Ctx} {k m:Nat} (F:F5 Z a fn fo fd body ps c k m) {args:List aA} {σ:ag} (hn:args.length≤fn.np) (hn2:fn.np≤args.length+fn.dflts.length)
  {s:Nn} {vs:List Nk} {CA:List Addr} {D:Addr→Prop} (R:aN (n+1) A) (G:Gg Z CA σ D s.heap) (rs:bS Z CA D s.heap vs args) {RR:Qo→Nn→Prop}
  (h:∀h₁ tk,MS Z (Oc fd s.heap.objs.size a) c (gz fn args) CA σ D s.heap h₁→Ny (model Z.prog Z.w) (A.deeper (Oc fd s.heap.objs.size a)) (execs body (Oc fd s.heap.objs.size a)) (fun f s'=>RR (.ok (.ret (match f with| .ret v=>v|_=> .none))) s')
   (fun e s'=>Ny (model Z.prog Z.w) (A.deeper (Oc fd s.heap.objs.size a)) (leaving (Oc fd s.heap.objs.size a) e) (fun _ s''=>RR (.error e) s'') (fun e' s''=>RR (.error e') s'') s') {s with heap:=h₁,toks:=tk}):Pr (model Z.prog Z.w) A (.call (.ref a) ⟨vs,[]⟩) RR s:=by
 have KH:Z.K.In s.heap:=O.X.keeps G.base
 have lenA:=rs.length
 rw [←lenA] at hn hn2
 refine Nf fun nG=> ?_
 obtain ⟨dvs,d1,d2,d3⟩:=F.binds s vs KH hn hn2
 refine nG ?_
 have notD:∀b o,Z.K.lookup b=some o→¬D b:=fun b o e d=>by
  have:=O.X b o e
  rw [G.dbase b d] at this;cases this
 have rAll:=rs.append (d2 D notD).toVs'
 rw [lenA] at rAll hn hn2
 have lenAll:(args++(fn.dflts.drop (fn.dflts.length -(fn.np -args.length))).map aA.v).length=fn.np:=by
  rw [Nj,Nl,O2]
  exact uo hn hn2
 have hkind:∀x∈ps.zip (vs++dvs),fd.scope.names.lookup x.1=some .local∨(fd.scope.names.lookup x.1=some .cell∧((cellsFrom (s.heap.objs.size+1) fd.scope.names []).lookup x.1).isSome=true):=fun x hx=>
  (F.pk x.1 (RH hx).1).imp id fun q=>⟨q,VP _ _ _ (.inl q)⟩
 refine nv (tR R.depth R.units).2.2 (KH _ _ F.at_) F.data (O.T.nolimit.keeps G.base) (VQ KH F.code) F.bod d3 F.clo hkind (fun s₁ x=> ?_) F.co F.gen F.kind
 refine Nf fun nG=> ?_
 obtain ⟨h₁,tk,rfl,keep⟩:=x.done
 refine nG ?_
 exact h h₁ tk ⟨keep,St.init (c:=c) (sz:=fn.size -fn.np) G rAll x (F.np.trans lenAll.symm) F.vars F.pv F.pk,⟨F.sc.symm,F.sc▸F.kind,F.glb,F.blt,F.vars⟩,fun b w=>(JD x b w).1⟩
theorem FI (O:Wd.Ok Z p loose mg mb) (SS:ji Z n E) {a:Addr} {fn:Fn} {fo:Obj} {fd:OC} {body:List Stmt} {ps:List Str} {c:Ctx} {k m:Nat} (F:F5 Z a fn fo fd body ps c k m) {args:List aA} {σ:ag} {r:fg×Loc×ag} (hn:args.length≤fn.np) (hn2:fn.np≤args.length+fn.dflts.length)
  (e1:aH E fn.body (gz fn args) σ=some r) (ho:r.1.ok=true)
  {s:Nn} {vs:List Nk} {CA:List Addr} {D:Addr→Prop} (R:aN (n+1) A) (G:Gg Z CA σ D s.heap) (rs:bS Z CA D s.heap vs args) {RR:Qo→Nn→Prop}
  (hR:∀f h2 tk CA2 D2,aw (We CA) s.heap h2→K5 Z s.heap h2 CA CA2 D D2→aF Z CA2 r.2.2 D2 h2→lE Z s.heap CA2 r.2.2 D2 h2 f r.1→RR (.ok (.ret (match f with| .ret v=>v|_=> .none))) {s with heap:=h2,toks:=tk}):Pr (model Z.prog Z.w) A (.call (.ref a) ⟨vs,[]⟩) RR s:=
 jf O F hn hn2 R G rs fun h₁ tk x=>iT SS x.eo R.into F.chk (s:={s with heap:=h₁,toks:=tk}) x.st e1 ho _ _ fun f h2 t2 CA2 D2 a2=>
  have al:∀b,h₁.get? b=none→s.heap.get? b=none:=fun _=>(aw.of_all (W:=fun _=>Rr) x.keep).alive fun _ w=>w.elim
  hR f h2 t2 CA2 D2 ((aw.of_all x.keep).fresh a2.keep fun b w=>w.imp id fun w=>gi (x.new b (B6 w)))
   ⟨a2.ext.pre,fun b d=>a2.ext.sub b (.inl d),fun b m=>(a2.ext.new b m).imp id fun n=>n.from (al b)⟩ a2.st.cells (a2.flow.back al)
theorem yX (O:Wd.Ok Z p loose mg mb) (SS:ji Z n E) (FO:∀i fn,Z.P.tab i=some fn→Es Z (Z.fa i) fn):pR Z (n+1) (step Z.P E):=fun i args σ U σ' ev A s vs CA D R G rs RR hR=>by
 refine af ev fun fn e1 ev=> ?_
 refine Nf fun nG=> ?_
 refine aL ev fun hn ev=> ?_
 obtain ⟨fo,fd,body,ps,c,kk,m,F⟩:=FO i fn e1
 refine nG ?_
 refine af ev fun r e2 ev=> ?_
 obtain ⟨o,ρ,σ2⟩:=r
 have go:=fun ho RR=>FI (RR:=RR) O SS F (Nu (ac hn).1) (Nu (ac hn).2) e2 ho R G.gg rs
 cases o with
 |next=>
  refine Nf fun nG=> ?_
  cases Ng ev
  refine nG ?_
  refine go rfl RR fun f h2 t2 CA2 D2 k2 x2 c2 F2=> ?_
  have hf:f= .next:=F2
  subst hf
  exact hR .none h2 t2 k2 (c2.take x2.pre G.cells.len x2.sub G.cells.inD) .none
 |cont=>cases ev
 |exc=>cases ev
 |ret W=>
  refine go rfl RR fun f h2 t2 CA2 D2 k2 x2 c2 F2=> ?_
  refine Nf fun nG=> ?_
  obtain ⟨v,rfl,r2⟩:∃v,f= .ret v∧_:=F2
  refine nG ?_
  have b:=FR ev G.cells x2 c2 r2
  exact hR v h2 t2 k2 b.1 b.2
end
structure Mr (Z:Wd) (n:Nat) (E:Ev):Prop where
 e:bK Z n E
 b:gX Z n E
 s:ji Z n E
 c:pR Z n E
theorem yR {Z:Wd} {p:N2} {loose:List Str} {mg mb:Str→Nh Nk} (O:Wd.Ok Z p loose mg mb) (M:xg Z) (FO:∀i fn,Z.P.tab i=some fn→Es Z (Z.fa i) fn):∀n,Mr Z n (run Z.P n):=by
 intro n
 induction n with
 |zero=>
  refine ⟨?_,?_,?_,?_⟩
  ·intro _ _ _ _ _ _ _ _ _ _ _ _ _ _ _ _ _ ev;cases ev
  ·intro _ _ _ _ _ _ _ _ _ _ _ _ _ _ _ _ _ ev;cases ev
  ·intro _ _ _ _ _ _ _ _ _ _ _ _ _ _ _ _ _ ev;cases ev
  ·intro i args σ U σ' ev;cases ev
 |succ n ih=>exact ⟨zg O M ih.e ih.b ih.c,y8 O M ih.e ih.b ih.c,y3 O ih.e ih.b ih.c ih.s,yX O ih.s FO⟩
noncomputable def o6:iG→Addr
 | .line=>351| .ins=>323| .reg=>195| .imm=>229| .rel=>270| .register=>600
noncomputable def HH:List Addr:=[94,101,108,115,122,367,374,381,388,395,402,409,416,421,428,435,442,447,454,461,466,471,476,483,490,497,504,511,518,525,532,539,548,360,611,618,625,632,639,646,653,660,665,672,677,348,292,185,219,253,150,226,260]
noncomputable def un (i:Nat):Addr:=HH.getD i 0
noncomputable def nM:List Str:=(["condition_names","condition_number","opposite","condition_of","where_next","target_name","jump_condition","is_jump","led","falls","label_places","check_lines","atoms_of","implies","way_known","jump_end","followed","with_label","retargeted","named_elsewhere","kept_labels","reached","without_dead","dropped","without_idle_jumps","turned_about","without_settled","with_ends","block_end","strains","put_in_line","one_round","threaded","told_lines","early_names","late_ending","gpr","_law_base","_law_pen","_law_take","_law_row","_law_goal","_law_between","_law_refused","law"]:List Q3).map NB
noncomputable def yf (i:Nat):Nh Str:=nM[i]?
noncomputable def qW:Af:=aj
noncomputable def KY:List eF:=([[],
 [("condition",0)],
 [("condition",0)],
 [("name",0),("stem",1)],
 [("name",0)],
 [("instruction",0),("operand",1)],
 [("instruction",0)],
 [("instruction",0)],
 [("instruction",0),("name",1)],
 [("instruction",0)],
 [("lines",0),("found",1),("at",2),("line",3),("label",4)],
 [("lines",0),("line",1),("operand",2),("places",3)],
 [("condition",0),("name",1)],
 [("one",0),("other",1),("wide",2),("narrow",3)],
 [("known",0),("asked",1)],
 [("lines",0),("places",1),("at",2),("seen",3)],
 [("lines",0),("places",1),("at",2),("known",3),("seen",4),("row",5),("way",6)],
 [("lines",0),("at",1),("entries",2),("taken",3),("number",4),("name",5)],
 [("lines",0),("entries",1),("at",2),("row",3),("places",4),("condition",5),("begin",6),("end",7),("name",8)],
 [("lines",0),("found",1),("line",2),("operand",3)],
 [("lines",0),("entries",1),("used",2)],
 [("lines",0),("entries",1),("places",2),("found",3),("todo",4),("name",5),("at",6),("row",7)],
 [("lines",0),("entries",1),("found",2)],
 [("lines",0),("at",1),("behind",2)],
 [("lines",0),("at",1),("row",2)],
 [("lines",0),("at",1),("row",2),("behind",3),("condition",4),("turned",5)],
 [("lines",0),("at",1),("known",2),("behind",3),("way",4),("row",5)],
 [("lines",0),("places",1),("found",2),("line",3),("row",4),("goal",5)],
 [("lines",0),("begin",1),("at",2)],
 [("lines",0),("places",1),("at",2),("begin",3),("end",4),("spot",5),("line",6),("row",7),("goal",8),("is_within",9)],
 [("lines",0),("places",1),("at",2),("row",3),("begin",4),("end",5),("block",6)],
 [("lines",0),("entries",1)],
 [("lines",0),("entries",1),("found",2),("before",3)],
 [("lines",0)],
 [("size",0)],
 [("size",0)],
 [("number",0),("size",1),("names",2)],
 [],
 [("script",0),("store",1),("cell",2)],
 [("pen",0),("many",1),("found",2)],
 [("pen",0),("at",1),("count",2),("loops",3),("way",4),("goal",5)],
 [("told",0)],
 [("rows",0),("places",1),("found",2),("at",3),("row",4),("goal",5),("span",6)],
 [("lines",0)],
 [("script",0),("pen",1),("count",2),("loops",3),("rows",4),("lines",5),("given",6),("found",7),("told",8),("was",9),("now",10),("name",11),("labels",12),("called",13),("more",14),("odd",15)],
 [("self",0)],
 [("self",0)],
 [("self",0)],
 [("self",0)],
 [("self",0)],
 [("self",0)],
 [("self",0)],
 [("self",0)]]:List (List (Q3×Nat))).map fun l=>l.map fun p=>(NB p.1,p.2)
noncomputable def BJ (i:Nat):eF:=KY.getD i []
noncomputable def gZ (prog:N2) (w:PK) (K:Frag) (h:Heap):Wd:=⟨prog,w,K,o6,un,yf,qW,h⟩
noncomputable def B5 (e:Data):Nh OC:=if h:e.ctorIdx=7 then some (TE (motive:=fun _=>OC) e h fun a=>a) else none
theorem wP {e:Data} {q:OC} (h:B5 e=some q):e= .func q:=
 let ⟨k,h⟩:=aM h
 TE (motive:=fun e=>∀k:e.ctorIdx=7,TE (motive:=fun _=>OC) e k (fun a=>a)=q→e= .func q) e k (fun _ _ h=>Nt Data.func h) k h
noncomputable def mK:FuncBody→Nh (List Stmt)
 | .stmts b=>some b
 |_=>none
theorem iJ {d:FuncBody} {b:List Stmt} (h:mK d=some b):d= .stmts b:=by cases d<;>first|(cases h;done)|(cases Ng h;rfl)
noncomputable def Dl (e:Nk):Nh Addr:=if h:e.ctorIdx=10 then some (TF (motive:=fun _=>Addr) e h fun a=>a) else none
theorem rZ {e:Nk} {q:Addr} (h:Dl e=some q):e= .ref q:=
 let ⟨k,h⟩:=aM h
 TF (motive:=fun e=>∀k:e.ctorIdx=10,TF (motive:=fun _=>Addr) e k (fun a=>a)=q→e= .ref q) e k (fun _ _ h=>Nt QQ h) k h
noncomputable def Ge (e:Data):Nh (P5 Nk):=if h:e.ctorIdx=2 then some (Uc (motive:=fun _=>P5 Nk) e h fun a _=>a) else none
theorem y0 {e:Data} {q:P5 Nk} (h:Ge e=some q):∃n,e= .seq q n:=
 let ⟨k,h⟩:=aM h
 Uc (motive:=fun e=>∀k:e.ctorIdx=2,Uc (motive:=fun _=>P5 Nk) e k (fun a _=>a)=q→∃n,e= .seq q n) e k (fun _ n _ h=>⟨n,Nt (Data.seq · n) h⟩) k h
noncomputable def x7 (e:Data):Nh PT:=if h:e.ctorIdx=8 then some (Ud (motive:=fun _=>PT) e h fun a=>a) else none
theorem sk {e:Data} {q:PT} (h:x7 e=some q):e= .cls q:=
 let ⟨k,h⟩:=aM h
 Ud (motive:=fun e=>∀k:e.ctorIdx=8,Ud (motive:=fun _=>PT) e k (fun a=>a)=q→e= .cls q) e k (fun _ _ h=>Nt Data.cls h) k h
noncomputable def Aq (K:Frag) (a:Addr):Nh OC:=(K.lookup a).bind fun o=>B5 o.data
theorem mD {K:Frag} {a:Addr} {fd:OC} (h:Aq K a=some fd):∃o,K.lookup a=some o∧o.data= .func fd:=af h fun o h1 h2=>⟨o,h1,wP h2⟩
noncomputable def A8 (K:Frag) (a:Addr):Nh (List Nk):=(K.lookup a).bind fun o=>if o.cls== .type "tuple" then (Ge o.data).map (·.toList) else none
structure K9 (K:Frag) (a:Addr) (vs:List Nk) (o:Obj) (n:Nat):Prop where
 at_:K.lookup a=some o
 cls:o.cls= .type "tuple"
 data:o.data= .seq vs.toArray n
theorem rO {K:Frag} {a:Addr} {vs:List Nk} (h:A8 K a=some vs):∃o n,K9 K a vs o n:=
 af h fun o h1 h2=>let ⟨h3,h4⟩:=bU h2;am h4 fun xs h5 h6=>let ⟨n,h7⟩:=y0 h5;⟨o,n,h1,Nv h3,by rw [h7,←h6,Array.toArray_toList]⟩
noncomputable def oS (p:Arguments):Bool:=p.posonlyargs.isEmpty&&(p.kwonlyargs.isEmpty&&(p.vararg.isNone&&p.kwarg.isNone))
noncomputable def Ap (fd:OC):Bool:=fd.defaults== .none
noncomputable def sE (K:Frag) (fd:OC):Nh Nk:=(Dl fd.defaults).bind fun T=>(A8 K T).bind one
noncomputable def jA (fd:OC):List Str:=fd.params.args.map (·.arg)
noncomputable def sP (K:Frag) (fd:OC):Bool:=codeIn K fd.code fd.qualname&&(fd.closure.isEmpty&&(fd.globals==N7&&(fd.builtins==RY&&(fd.scope.kind== .function&&(!fd.scope.isCoroutine&&(!fd.scope.isGenerator&&oS fd.params))))))
structure BZ (K:Frag) (fd:OC):Prop where
 code:codeIn K fd.code fd.qualname=true
 clo:fd.closure=[]
 glb:fd.globals=N7
 blt:fd.builtins=RY
 kind:fd.scope.kind= .function
 co:fd.scope.isCoroutine=false
 gen:fd.scope.isGenerator=false
 ns:oS fd.params=true
theorem lH {K:Frag} {fd:OC} (h:sP K fd=true):BZ K fd:=
 let a:=ac h;let b:=ac a.2;let c:=ac b.2;let d:=ac c.2;let e:=ac d.2;let f:=ac e.2;let g:=ac f.2
 ⟨a.1,aE b.1,Nv c.1,Nv d.1,Nv e.1,cI f.1,cI g.1,g.2⟩
noncomputable def wh (K:Frag) (fd:OC) (fn:Fn):Bool:=match fn.dflts with
 |[]=>Ap fd
 |_::_=>(fn.dflts==[.tup []])&&(fn.np==2&&(sE K fd).any fun d=>(Dl d).any fun e=>(A8 K e).any (·.isEmpty))
noncomputable def GV (K:Frag) (fnm:Nat→Nh Str) (a:Addr) (fn:Fn) (vars:eF):Bool:=(Aq K a).any fun fd=>sP K fd&&(ti vars&&((mK fd.body).any fun body=>bG (cA fnm 40 ⟨fd.scope,vars⟩ 40) body fn.body&&
 ((jA fd).length==fn.np&&((jA fd).zipIdx.all (fun x=>vars.contains x)&&((jA fd).all (fun x=>fd.scope.names.lookup x==some .local||fd.scope.names.lookup x==some .cell)&&wh K fd fn)))))
theorem zF {x y:Str} {v:Nk} {l:List (Str×Nk)} (h:y≠x):((x,v)::l).lookup y=l.lookup y:=by rw [O3,PL.mpr h]
theorem za {x:Str} {v:Nk} {l:List (Str×Nk)}:((x,v)::l).lookup x=some v:=by rw [O3,Rl]
theorem jN:∀{ps:List Str} {vs:List Nk},ps.Nodup→∀p∈ps.zip vs,(ps.zip vs).lookup p.1=some p.2
 |[],_,_,_,hp=>nomatch hp
 |_::_,[],_,_,hp=>nomatch hp
 |x::ps,v::vs,hn,p,hp=>by
  rw [R4] at hp ⊢
  rcases NN.mp hp with rfl|hp
  ·exact za
  ·rw [zF fun z=>(Pc.mp hn).1 (by rw [←z];exact (RH (show (p.1,p.2)∈_ from hp)).1)]
   exact jN (Pc.mp hn).2 p hp
theorem kX:∀{ps:List Str} {vs:List Nk} {zs:List (Str×Nk)},ps.length=vs.length→(∀p∈ps.zip vs,zs.lookup p.1=some p.2)→ps.filterMap (fun n=>(zs.lookup n).map (n,·))=ps.zip vs
 |[],_,_,_,_=>rfl
 |_::_,[],_,h,_=>nomatch h
 |x::ps,v::vs,zs,h,hz=>by
  have e:zs.lookup x=some v:=hz (x,v) OP
  rw [QB,e,R4]
  exact Nt ((x,v):: ·) (kX (PO h) fun p hp=>hz p (OJ _ hp))
theorem ie {α β:Type} {m:Sem α} {x:α} {k:α→Sem β} {r:Sem β} (h:m=pure x) (h2:k x=r):m>>=k=r:=by rw [h];exact h2
theorem wG {α β σ:Type} {l:List α} {g:α→β} {f:β→σ→Sem (ForInStep σ)} {st:σ} (h:l=[]):forIn (l.map g) st f=pure st:=by rw [h];rfl
theorem CI {ps:List Str} {vs:List Nk} {m:Nat} (hm:m≤vs.length):¬(!((ps.take m).filter fun n=>((ps.zip vs).lookup n).isNone).isEmpty)=true:=by
 have:(ps.take m).filter (fun n=>((ps.zip vs).lookup n).isNone)=[]:=by
  refine List.filter_eq_nil_iff.mpr fun x hx z=> ?_
  obtain ⟨i,hi,rfl⟩:=O5 hx
  have h1:=hi
  rw [Sx,Nat.lt_min] at h1
  rw [UO] at z
  exact lm (oU (Nr h1.2) (Nr (Od h1.1 hm))) (Oz.mp z)
 rw [this];nofun
theorem E6 {ps:List Str} {vs:List Nk} {y:Str} (h:y∉ps):(ps.zip vs).lookup y=none:=by
 induction ps generalizing vs with
 |nil=>rfl
 |cons x ps ih=>
  cases vs with
  |nil=>rfl
  |cons v vs=>
   rw [R4,O3,show (y==x)=false from PL.mpr fun z=>h (by rw [z];exact .head _)]
   exact ih fun m=>h (.tail _ m)
theorem zZ {f:Str×Nk→List (Str×Nk)→Sem (ForInStep (List (Str×Nk)))} (hf:∀p r,f p r=pure (.yield (if (r.lookup p.1).isNone=true then r++[p] else r))) {ps:List Str} {vs ds:List Nk} (nd:ps.Nodup) (l1:vs.length≤ps.length) (l2:ps.length≤vs.length+ds.length) (l3:ds.length≤1):
  forIn ((ps.drop (ps.length -ds.length)).zip ds) (ps.zip vs) f=pure (ps.zip (vs++ds.drop (ds.length -(ps.length -vs.length)))):=by
 refine Nf fun nG=> ?_
 cases ds with
 |nil=>rw [Ut,Sm,NH] at nG;exact nG rfl
 |cons d ds=>
  cases Ru (Nat.le_zero.mp (PP l3))
  rcases Qq ps with rfl|⟨i,y,rfl⟩
  ·exact nG rfl
  ·rw [PY] at nd l1 l2 nG
   have e1:(i++[y]).length=i.length+1:=Nj
   rw [e1] at l1 l2
   have e2:(i++[y]).drop (i.length+1 -1)=[y]:=List.drop_left
   have hc:∀r,forIn [(y,d)] r f=pure (if (r.lookup y).isNone=true then r++[(y,d)] else r):=fun r=>(RF ..).trans (ie (hf _ _) rfl)
   rw [e1,show [d].length=1 from rfl,e2,show [y].zip [d]=[(y,d)] from rfl,hc] at nG
   have ny:y∉i:=fun m=>(OL.mp nd).2.2 y m y (.head _) rfl
   rcases ON l1 with l|l
   ·have l4:vs.length=i.length:=Td (OE l) (PP l2)
    have e3:(i++[y]).zip vs=i.zip vs:=by
     have:=Vt (r₁:=[y]) (r₂:=[]) l4.symm
     rw [NH,Ut,NH] at this
     exact this
    rw [e3,E6 ny,Uo,NG rfl,l4,QV,Vt l4.symm] at nG
    exact nG rfl
   ·have hy:((i++[y]).zip vs).lookup y≠none:=fun z=>lm (oU (ps:=i++[y]) (x:=y) (j:=i.length) (by rw [Ox (Nz _),PQ];rfl) (Nr (by rw [l];exact OD _))) z
    rw [NV fun z=>hy (Oz.mp z),l,PQ] at nG
    exact nG (by rw [show [d].drop (1 -0)=[] from rfl,NH])
noncomputable def dd (n:Nat) (d:Nh (P5 Nk)):List Nk:=(d.getD #[]).toList.drop ((d.getD #[]).toList.length -n)
noncomputable def pz (fd:OC):List Str:=fd.params.posonlyargs.map (·.arg)++fd.params.args.map (·.arg)
theorem HT {fd:OC} {vs:List Nk} (ns:oS fd.params=true):∃k,bindArgs fd ⟨vs,[]⟩=seqItems? fd.defaults>>=k∧((pz fd).Nodup→vs.length≤(pz fd).length→∀d,(pz fd).length≤vs.length+(dd (pz fd).length d).length→(dd (pz fd).length d).length≤1→
  k d=pure ((pz fd).zip (vs++(dd (pz fd).length d).drop ((dd (pz fd).length d).length -((pz fd).length -vs.length))))):=by
 have n1:=ac ns
 have n2:=ac n1.2
 have n3:=ac n2.2
 refine ⟨_,rfl,fun nd l1 d l2 l3=>(NV ?h1).trans ((NV ?h2).trans (ie (x:=(pz fd).zip (vs++(dd (pz fd).length d).drop ((dd (pz fd).length d).length -((pz fd).length -vs.length)))) ?h3 (ie (wG (aE n2.1)) ((NV ?h4).trans ?h5))))⟩
 case h1=>exact fun z=>Pt.mpr l1 (Nu (ac z).1)
 case h2=>exact CI (ps:=pz fd) (vs:=vs) (Nat.sub_le_of_le_add l2)
 case h3=>
  refine zZ (fun p r=> ?_) nd l1 l2 l3
  obtain ⟨x,y⟩:=p
  exact (apply_ite (fun r=>pure (Pd r)) _ _ _).symm
 case h4=>exact fun z=>nomatch z
 case h5=>
  dsimp only
  rw [Oz.mp n3.1,Oz.mp n3.2,aE n2.1,Oh,NH]
  refine Nt pure (kX (Eq.symm (?_ :(vs++(dd (pz fd).length d).drop ((dd (pz fd).length d).length -((pz fd).length -vs.length))).length=(pz fd).length)) (jN nd))
  rw [Nj,O2];exact uo l1 l2
noncomputable def wg (s:Nn) (fd:OC) (ds:List Nk):Prop:=(fd.defaults= .none∧ds=[])∨∃T o n,fd.defaults= .ref T∧s.heap.get? T=some o∧o.data= .seq ds.toArray n
theorem nF {s:Nn} {fd:OC} {vs ds:List Nk} (ns:oS fd.params=true) (nd:(jA fd).Nodup) (l1:vs.length≤(jA fd).length) (l2:(jA fd).length≤vs.length+ds.length) (l3:ds.length≤1) (l4:ds.length≤(jA fd).length) (D:wg s fd ds):
  BindsTo s fd ⟨vs,[]⟩ ((jA fd).zip (vs++ds.drop (ds.length -((jA fd).length -vs.length)))):=by
 refine Nf fun nG=> ?_
 obtain ⟨k,h1,h2⟩:=HT (vs:=vs) ns
 rw [show pz fd=jA fd by unfold pz;rw [aE (ac ns).1];rfl] at h2
 have go:∀d,dd (jA fd).length d=ds→k d=pure ((jA fd).zip (vs++ds.drop (ds.length -((jA fd).length -vs.length)))):=fun d e=>by
  have:=h2 nd l1 d
  rw [e] at this
  exact this l2 l3
 rcases D with ⟨h5,rfl⟩|⟨T,o,n,h5,h6,h7⟩
 ·exact nG (.of_eq (h1.trans (ie (x:=none) (by rw [h5];rfl) (go none Sm))))
 ·exact nG (.of_defaults h5 h6 h7 h1 (go (some ds.toArray) (by show ds.drop (ds.length -_)=ds;rw [Nat.sub_eq_zero_of_le l4];rfl)))
theorem lh {K:Frag} {fd:OC} {v:Nk} (h:sE K fd=some v):∃T o n,fd.defaults= .ref T∧K.lookup T=some o∧o.data= .seq #[v] n:=by
 refine af h fun T h1 h2=> ?_
 refine af h2 fun vs h3 h4=> ?_
 refine Nf fun nG=> ?_
 obtain ⟨o,n,E⟩:=rO h3
 have:=gO h4
 subst this
 refine nG ?_
 exact ⟨T,o,n,rZ h1,E.at_,E.data⟩
theorem EA {K:Frag} {fd:OC} {fn:Fn} (h:wh K fd fn=true):∃ds:List Nk,ds.length≤1∧ds.length≤fn.np∧(∀s:Nn,K.In s.heap→wg s fd ds)∧∀(Z:Wd) (D:Addr→Prop) (g:Heap),K.In g→(∀b o,K.lookup b=some o→¬D b)→ak Z D g ds fn.dflts:=by
 refine Nf fun nG=> ?_
 unfold wh at h
 cases hf:fn.dflts with
 |nil=>
  rw [hf] at h nG
  exact nG ⟨[],N5 _,N5 _,fun s _=> .inl ⟨Nv h,rfl⟩,fun Z D g _ _=> .nil⟩
 |cons d0 ds=>
  rw [hf] at h nG
  have q1:=ac h
  have q2:=ac q1.2
  have e1:d0::ds=[.tup []]:=Nv q1.1
  refine ax q2.2 fun d q3 q4=> ?_
  refine ax q4 fun e q5 q6=> ?_
  refine ax q6 fun ys q7 q8=> ?_
  cases aE q8
  cases rZ q5
  obtain ⟨oe,ne,te⟩:=rO q7
  obtain ⟨T,o,n,g1,g2,g3⟩:=lh q3
  rw [e1] at nG
  exact nG ⟨[.ref e],Nz 1,by rw [Nv q2.1];exact NQ 1,fun s KH=> .inr ⟨T,o,n,g1,KH _ _ g2,g3⟩,fun Z D g KH hD=> .cons (.tup (N5 _) (hD _ _ te.at_) (KH _ _ te.at_) te.cls te.data .nil) .nil⟩
theorem E0 {Z:Wd} {a:Addr} {fn:Fn} {vars:eF} (h:GV Z.K Z.fname a fn vars=true):Es Z a fn:=by
 refine Nf fun nG=> ?_
 refine ax h fun fd h1 h2=> ?_
 obtain ⟨o,h3,h4⟩:=mD h1
 have R:=lH (ac h2).1
 have vo:=oc (ac (ac h2).2).1
 refine ax (ac (ac h2).2).2 fun body h5 h6=> ?_
 have h7:=ac h6
 have h8:=ac h7.2
 have h9:=ac h8.2
 have h10:=ac h9.2
 have pv:∀j x,(jA fd)[j]? =some x→(x,j)∈vars:=fun j x e=>ig (NC.mp h9.1 (x,j) (Oo.mpr ⟨j,by rw [TG,e];simp⟩))
 have nd:=oz (c:=⟨fd.scope,vars⟩) vo pv
 obtain ⟨ds,d1,d2,d3,d4⟩:=EA h10.2
 have hnp:(jA fd).length=fn.np:=Nv h8.1
 refine nG ⟨o,fd,body,jA fd,⟨fd.scope,vars⟩,40,40,h3,h4,R.code,iJ h5,R.clo,R.glb,R.blt,R.kind,R.co,R.gen,rfl,vo,h7.1,hnp,pv,fun x hx=>(O6.mp (NC.mp h10.1 x hx)).imp Nv Nv,fun s vs KH l1 l2=> ?_⟩
 have hl:=(d4 Z (fun _=>Rr) s.heap KH fun b o e d=>d).length
 rw [←hl] at l2 ⊢
 refine ⟨ds.drop (ds.length -(fn.np -vs.length)),?_,fun D hD=>(d4 Z D s.heap KH hD).drop _,?_⟩
 ·rw [O2,U8 (S9.mpr l2)]
 ·have b:=nF (s:=s) (vs:=vs) R.ns nd (hnp▸l1) (hnp▸l2) d1 (hnp▸d2) (d3 s KH)
  rw [hnp] at b;exact b
theorem ow {α β:Type} [BEq α] [LawfulBEq α] {l:List (α×β)} {x:α} {k:β} (h:l.lookup x=some k):(x,k)∈l:=by
 induction l with
 |nil=>cases h
 |cons p l ih=>
  obtain ⟨y,b⟩:=p
  rw [O3] at h
  cases hq:x==y with
  |true=>rw [hq] at h;cases Ng h;cases Nv hq;exact .head _
  |false=>rw [hq] at h;exact .tail _ (ih h)
noncomputable def Dj (x:Sg):List (Nat×Nat):=Q6 (bF x) ((bF x).length+1)
noncomputable def JT (x y:Sg):=QR (bF x) (bF y) 0 (bF x).length ((bF x).length+1)
noncomputable def AJ (x:Sg) (sep:Nh Sg) (r:List Sg):Bool:=(r.all eV&&decide (r.length≤16777216))&&match sep with
 |none=> !(Dj x==[(0,(bF x).length)])&&(decide (PySem.wordsOf (bF x)=r.map bF)&&(decide ((bF x).length≤PM)&&decide ((Dj x).length≤PM)))
 |some y=> !(decide ((bF x).length <(bF y).length)||decide (Qz (bF x) <Qz (bF y)))&&(!((bF y).length==0)&&
   (!(JT x y).isEmpty&&(decide (So (bF x) (JT x y) (bF y).length=r.map bF)&&(decide ((bF x).length≤PM)&&decide (r.length≤PM)))))
theorem uZ {x:Sg} {sep:Nh Sg} {r:List Sg} (h:AJ x sep r=true):mu x sep r:=by
 have h1:=ac h
 have h2:=ac h1.1
 refine ⟨⟨h2.1,Nu h2.2⟩,?_⟩
 cases sep with
 |none=>
  have a:=ac h1.2
  have b:=ac a.2
  have c:=ac b.2
  exact ⟨cI a.1,Nu b.1,Nu c.1,Nu c.2⟩
 |some y=>
  have a:=ac h1.2
  have b:=ac a.2
  have c:=ac b.2
  have d:=ac c.2
  have e:=ac d.2
  exact ⟨cI a.1,cI b.1,cI c.1,Nu d.1,Nu e.1,Nu e.2⟩
theorem xf:pV.all (fun p=>AJ p.1.1 p.1.2 p.2)=true:=by kernel_rfl
theorem yL (x:Sg) (sep:Nh Sg) (r:List Sg) (e:qW.splits x sep=some r):mu x sep r:=
 uZ (NC.mp xf _ (ow (show pV.lookup (x,sep)=some r from e)))
noncomputable def fZ (x:Nh (Nh Nk)):Bool:=x==some none
noncomputable def jv (x:Nh (Nh Nk)) (a:Addr):Bool:=x==some (some (.ref a))
noncomputable def Bv (e:Nk):Nh Str:=if h:e.ctorIdx=6 then some (TH (motive:=fun _=>Str) e h fun a _=>a) else none
theorem sy {e:Nk} {q:Str} (h:Bv e=some q):∃t,e= .str q t:=
 let ⟨k,h⟩:=aM h
 TH (motive:=fun e=>∀k:e.ctorIdx=6,TH (motive:=fun _=>Str) e k (fun a _=>a)=q→∃t,e= .str q t) e k (fun _ t _ h=>⟨t,Nt (V7 · t) h⟩) k h
noncomputable def Av (x:Nh (Nh Nk)) (s:Str):Bool:=x.any fun y=>y.any fun v=>Bv v==some s
theorem tZ {x:Nh (Nh Nk)} {s:Str} (h:Av x s=true):∃t,x=some (some (.str s t)):=
 let ⟨y,h1,h2⟩:=bO h;let ⟨v,h3,h4⟩:=bO h2;let ⟨t,h5⟩:=sy (Nv h4);⟨t,by rw [h1,h3,h5]⟩
noncomputable def nc:List iG:=[.line,.ins,.reg,.imm,.rel,.register]
noncomputable def Ba:List Bf:=[.len,.list_,.tuple_,.dict_,.str_,.int_,.all_,.min_,.max_]
noncomputable def xz:List EE:=[.told,.symbol]
theorem iv (c:iG):c∈nc:=by cases c<;>decide
theorem sr (b:Bf):b∈Ba:=by cases b<;>decide
theorem qi (m:EE):m∈xz:=by cases m<;>decide
noncomputable def Ig (K:Frag) (i:Nat):Bool:=isFn K (.ref (un i))&&keepIn K (.ref (un i))
noncomputable def LH (K:Frag):Bool:=nc.all fun c=>c.fields.all fun f=>plainGet K (o6 c) (fs f)&&(hasDictIn K (o6 c)&&(fZ (findIn K (.ref (o6 c)) (fs f))&&noGet K none))
noncomputable def JB (K:Frag):Bool:=nc.all fun c=>xz.all fun m=>(qW.meth c m).all fun i=>plainGet K (o6 c) (mn m)&&(jv (findIn K (.ref (o6 c)) (mn m)) (un i)&&Ig K i)
noncomputable def Ie (K:Frag):Bool:=Dd.all (fun p=>eV p.2&&Av (nsIn K N7 (bF p.1)) (bF p.2))&&(nM.zipIdx.all (fun p=>jv (nsIn K N7 p.1) (un p.2)&&keepIn K (.ref (un p.2)))&&
 (nc.all (fun c=>jv (nsIn K N7 (cn c)) (o6 c)&&keepIn K (.ref (o6 c)))&&(Ba.all (fun b=>fZ (nsIn K N7 (bn b)))&&(fZ (nsIn K N7 "range")&&fZ (nsIn K N7 "enumerate")))))
theorem EV:(nc.all fun c=>c.fields.all fun f=>xz.all fun m=>fs f !=mn m)=true:=by kernel_rfl
theorem KQ:(Ba.all fun b=>bn b !=("__name__":Str))=true:=by kernel_rfl
theorem Jw (b:Bf):bootBuiltins (bn b)=some (Lk b):=by cases b<;>first|rfl|kernel_rfl
theorem HV:bootBuiltins "range"=some (.type "range"):=by first|rfl|kernel_rfl
theorem IQ:bootBuiltins "enumerate"=some (.type "enumerate"):=by first|rfl|kernel_rfl
noncomputable def Mn (K:Frag):Bool:=(OV 53).all fun i=>(qW.tab i).all fun fn=>GV K yf (un i) fn (BJ i)
noncomputable def Ll (K:Frag):Bool:=(K.lookup 677).isSome&&(LH K&&(JB K&&(Ie K&&Mn K)))
theorem KW {prog:N2} {w:PK} {K:Frag} {h:Heap} {p:N2} {loose:List Str} {mg mb:Str→Nh Nk} (g:Ll K=true) (X:K.In h) (T:TopRead p loose mg mb h):(gZ prog w K h).Ok p loose mg mb:=
 have g1:=ac g
 have g2:=ac g1.2
 have g3:=ac g2.2
 have g4:=ac (ac g3.2).1
 have g5:=ac g4.2
 have g6:=ac g5.2
 have g7:=ac g6.2
 {X:=X
  T:=T
  splits:=yL
  sysM:=let ⟨o,e⟩:=Og.mp g1.1;Pu (by decide) (NY (X _ _ e))
  fld:=fun c f hf=>by
   have a:=ac (NC.mp (NC.mp g2.1 c (iv c)) f hf)
   have b:=ac a.2
   have d:=ac b.2
   exact ⟨a.1,b.1,none,Nv d.1,d.2⟩
  meth:=fun c m i e=>by
   have a:=NC.mp (NC.mp g3.1 c (iv c)) m (qi m)
   rw [show qW.meth c m=some i from e] at a
   have a:=ac a
   have b:=ac a.2
   have d:=ac b.2
   exact ⟨a.1,Nv b.1,d.1,d.2⟩
  noFld:=fun c m f hf=>ju (NC.mp (NC.mp (NC.mp EV c (iv c)) f hf) m (qi m))
  glob:=fun x s e=>have a:=ac (NC.mp g4.1 _ (ow (show Dd.lookup x=some s from e)));let ⟨t,q⟩:=tZ a.2;⟨t,a.1,q⟩
  fn:=fun i x e=>have a:=ac (NC.mp g5.1 (x,i) (Oo.mpr ⟨i,by rw [TG,show nM[i]? =some x from e];simp⟩));⟨Nv a.1,a.2⟩
  cls:=fun c=>have a:=ac (NC.mp g6.1 c (iv c));⟨Nv a.1,a.2⟩
  bf:=fun b=>⟨Nv (NC.mp g7.1 b (sr b)),Jw b,ju (NC.mp KQ b (sr b))⟩
  rng:=⟨Nv (ac g7.2).1,HV⟩
  enm:=⟨Nv (ac g7.2).2,IQ⟩}
theorem Ea {i:Nat} {fn:Fn} (e:qW.tab i=some fn):i <53:=(Nq.mp (show Jy[i]? =some fn from e)).1
theorem j8 {prog:N2} {w:PK} {K:Frag} {h:Heap} (g:Ll K=true):∀i fn,(gZ prog w K h).P.tab i=some fn→Es (gZ prog w K h) ((gZ prog w K h).fa i) fn:=fun i fn e=>
 have g5:=ac (ac (ac (ac g).2).2).2
 E0 (vars:=BJ i) (by
  have:=NC.mp g5.2 i (Qg.mpr (Ea e))
  rw [show qW.tab i=some fn from e] at this
  exact this)
noncomputable def xd (x:Nh (Nh Nk)) (n:Q3):Bool:=x==some (some (.builtin n))
noncomputable def lr (K:Frag) (C:Addr) (name:Str):Bool:=xd (findIn K (.ref C) "__setattr__") "object.__setattr__"&&(plainOver K C&&(fZ (takerIn K C name)&&(clsIn K C).any (·.hasDict)))
section
variable {prog:N2} {w:PK} {A:N4} {X:Nk→Nn→Prop} {s:Nn} {K:Frag} {C x dx:Addr} {es:List PD} {n:Nat} {name:Str} {v:Nk}
theorem sZ (h:es.any (·.key.isStr name)=false):es.findIdx? (fun x=>x.key.isStr name)=none:=by
 have:=any_of_findIdx name es
 rw [h] at this
 cases hq:es.findIdx? (fun x=>x.key.isStr name) with
 |none=>rfl
 |some i=>rw [hq] at this;cases this
theorem vm {Q:Unit→Nn→Prop} (KX:K.In s.heap) (hx:s.heap.get? x=some (Q2 C dx)) (hdx:s.heap.get? dx=some (dictOf es n)) (ht:lr K C name=true) (hne:es.any (·.key.isStr name)=false) (hrk:es.any (·.refKey)=false) (hz:es.length≤900)
  (h:∀h' t,Pe dx s.heap h'→h'.get? dx=some (dictOf (es++[⟨Rc w.params name,.str name t,v⟩]) (n+1))→Q () {s with heap:=h',toks:=s.toks+2}):
  Ny (model prog w) A (setAttr (.ref x) name v) Q X s:=by
 have u1:=ac ht
 have u2:=ac u1.2
 have u3:=ac u2.2
 have I:InstAt s.heap x (Q2 C dx) C (some (dictOf es n)):=⟨hx,rfl,rfl,hdx⟩
 refine set_plain KX I (Nv u1.1) (osa_open (s:={s with toks:=s.toks+1}) KX I u2.1 (Nv u3.1) fun b=> ?_)
 refine Nf fun nG=> ?_
 obtain ⟨cd,hc,hd'⟩:=any_some u3.2
 refine nG ?_
 have hput:putL name (Rc w.params name) (.str name (s.toks+1)) v es=es++[⟨Rc w.params name,.str name (s.toks+1),v⟩]:=by rw [←putL_find,sZ hne]
 have hupd:(s.heap.update dx (Obj.putName name (Rc w.params name) (.str name (s.toks+1)) v)).get? dx=some (dictOf (es++[⟨Rc w.params name,.str name (s.toks+1),v⟩]) (n+1)):=by
  rw [Qp _ hdx (by rw [putName_dict];rfl),putName_dict,hput]
  have:putN name es n=n+1:=by unfold putN;rw [hne];rfl
  rw [this]
 refine No (NE (No (No (TI hx (No (Looks.here (s:={s with toks:=s.toks+1}) (Vl KX hc) ?_))))))
 rw [hd']
 refine NE (a:=some dx) (No (NE (No ?_)))
 unfold nsSet
 refine No (No (U6 (NE (No (wpAny_mkText (No (TI hdx ?_)))))))
 dsimp only
 rw [aRefKeyMayBeTheName_at]
 have c:(!es.toArray.any (·.key.isStr name)&&es.toArray.any (·.refKey))=false:=by
  rw [←U9,←U9,hrk,VR]
 rw [c]
 refine wpAny_updatePart hdx ?_
 refine No (Va hupd (Vb (by rw [UE,TJ,Nj,Tn];omega)) ?_)
 exact NE (h _ _ (TU ..) hupd)
end
structure CT (fsl:List gU) (es:List PD):Prop where
 ref:es.any (·.refKey)=false
 key:∀f,f∉fsl→es.any (·.key.isStr (fs f))=false
theorem yV {fsl:List gU} {es:List PD} (K:jJ fsl es):CT fsl es:=by
 induction K with
 |nil=>exact ⟨rfl,fun _ _=>rfl⟩
 | @cons f fl e es t hk K ih=>
  refine ⟨?_,fun g hg=> ?_⟩
  ·rw [Rq,ih.ref,Bool.or_false];unfold U4;rw [hk]
  ·rw [Rq,ih.key g fun m=>hg (OJ _ m),Bool.or_false,hk]
   exact PL.mpr fun z=>hg (by rw [Ca f g z];exact OP)
theorem xm {fsl:List gU} {es:List PD} (K:jJ fsl es) {f:gU} {e:PD} {t:Tok} (h:e.key= .str (fs f) t):jJ (fsl++[f]) (es++[e]):=by
 induction K with
 |nil=>exact .cons h .nil
 |cons a _ ih=>exact .cons a ih
set_option genCtorIdx true in
inductive IA|set (f:gU) (i:Nat)|tup (f:gU) (i:Nat)|base (s:Sg)
noncomputable def Gj (us:List V) (a:IA):Nh (gU×V):=match a with
 | .set f i=>us[i]?.map fun u=>(f,u)
 | .tup f i=>us[i]?.bind fun u=>(ft u).map fun ws=>(f,.tup ws)
 | .base s=>some (.kind,.str s)
noncomputable def px (us:List V) (as:List IA):Nh (List (gU×V)):=List.rec (motive:=fun _=>Nh (List (gU×V))) (some []) (fun a _ ih=>(Gj us a).bind fun p=>ih.map fun ps=>p::ps) as
noncomputable def gR (sc:Po) (x:Str):Bool:=sc.names.lookup x==some .local&& !(x==("__debug__":Str))
noncomputable def pg (sc:Po) (slf:Str) (st:Stmt):Nh (Str×Expr):=(mr st).bind fun q=>(one q.1).bind fun t=>(sS t).bind fun a=>(cz a.1).bind fun z=>if z==slf&&gR sc z then some (a.2.1,q.2.1) else none
theorem qA {sc:Po} {slf:Str} {st:Stmt} {q:Str×Expr} (h:pg sc slf st=some q):gR sc slf=true∧∃zp ap pos,st= .Assign [.Attribute (.Name slf zp) q.1 ap] q.2 pos:=
 af h fun r h1 h=>af h fun t h2 h=>af h fun a h3 h=>af h fun z h4 h=>by
  refine Nf fun nG=> ?_
  refine aL h fun h5 h6=> ?_
  have hz:z=slf:=Nv (ac h5).1
  obtain ⟨zp,h7⟩:=aY h4
  refine nG ?_
  refine ⟨hz▸(ac h5).2,zp,a.2.2,r.2.2,?_⟩
  rw [rR h1,gO h2,lL h3,h7,hz,←Ng h6]
noncomputable def Bc (st:Stmt):Nh (Expr×Str×List Expr):=(wm st).bind o4
noncomputable def Bs (es:List Expr):Nh (Str×Str):=two es fun a b=>(cz a).bind fun z=>(mH b).bind fun k=>(HZ k).map fun c=>(z,c)
noncomputable def AV (sc:Po) (slf:Str) (ps:List Str) (st:Stmt) (a:IA):Bool:=match a with
 | .set f i=>(pg sc slf st).any fun q=>q.1==fs f&&(cz q.2).any fun y=>ps[i]? ==some y&&gR sc y
 | .tup f i=>(pg sc slf st).any fun q=>q.1==fs f&&(fT q.2).any fun r=>r.1==bn .tuple_&&(oG sc r.1&&kJ r.2 fun e=>(cz e).any fun y=>ps[i]? ==some y&&gR sc y)
 | .base s=>(Bc st).any fun r=>(cz r.1).any fun o=>o==("Operand":Str)&&(oG sc o&&(r.2.1==("__init__":Str)&&(Bs r.2.2).any fun z=>z.1==slf&&(gR sc slf&&z.2==bF s)))
noncomputable def B7 (sc:Po) (slf:Str) (ps:List Str) (sts:List Stmt) (as:List IA):Bool:=List.rec (motive:=fun _=>List IA→Bool) List.isEmpty (fun st _ ih as=>jP as fun a as=>AV sc slf ps st a&&ih as) sts as
structure JQ (Z:Wd) (D:Addr→Prop) (h:Heap) (dx:Addr) (fsl:List gU) (us:List V) (es:List PD) (n:Nat):Prop where
 at_:h.get? dx=some (dictOf es n)
 key:jJ fsl es
 val:ak Z D h (es.map (·.val)) us
 len:es.length=fsl.length
structure vd (Z:Wd) (D:Addr→Prop) (h:Heap) (x dx:Addr) (c:iG) (fsl:List gU) (us:List V):Prop where
 obj:h.get? x=some (Q2 (Z.ca c) dx)
 dict:∃es n,JQ Z D h dx fsl us es n
structure Dx (Z:Wd) (D:Addr→Prop) (x dx:Addr) (c:iG) (env:Env) (m:Str→Nh Nk) (h0 h:Heap) (fsl:List gU) (us:List V):Prop where
 keep:aw (fun b=>b=dx) h0 h
 base:∀b o,Z.base.get? b=some o→h.get? b=some o
 ns:h.Ns env.locals m
 inst:vd Z D h x dx c fsl us
 live:iE D h
noncomputable def vH (Z:Wd) (c:iG):Prop:=∀f,lr Z.K (Z.ca c) (fs f)=true
structure Ix (k:Nat) (A:N4):Prop where
 depth:A.depth+k <recursionLimit
 calm:A.handled=none
structure uH (Z:Wd) (D:Addr→Prop) (x dx:Addr) (c:iG):Prop where
 cp:vH Z c
 xD:D x
 dxD:D dx
 bdx:Z.base.get? dx=none
 bx:Z.base.objs.size≤x
noncomputable def EN (Z:Wd) (fI:Addr):Prop:=∀(A:N4) (s:Nn) (x dx:Addr) (c:iG) (fsl:List gU) (us:List V) (D:Addr→Prop) (k:Sg) (t:Tok),eV k=true→Ix 5 A→uH Z D x dx c→(∀b o,Z.base.get? b=some o→s.heap.get? b=some o)→iE D s.heap→vd Z D s.heap x dx c fsl us→ .kind∉fsl→fsl.Nodup→fsl.length <800→
  ∀R:Qo→Nn→Prop,(∀h' tk,aw (fun b=>b=dx) s.heap h'→vd Z D h' x dx c (fsl++[.kind]) (us++[.str k])→R (.ok (.ret .none)) {s with heap:=h',toks:=tk})→Pr (model Z.prog Z.w) A (.call (.ref fI) ⟨[.ref x,.str (bF k) t],[]⟩) R s
structure HE (Z:Wd) (b fI:Addr) (mc:Nk):Prop where
 nm:nsIn Z.K N7 "Operand"=some (some (.ref b))
 ga:specialIn Z.K (.ref b) "__getattribute__"=some (some (.builtin "type.__getattribute__"))
 rd:readsIn Z.K b mc=true
 fd:findCls Z.K (.ref b) mc "__init__"=some (.val (.ref fI))
 kp:keepIn Z.K (.ref fI)=true
 run:EN Z fI
noncomputable def nL (Z:Wd):Prop:=∃b fI mc,HE Z b fI mc
section
variable {Z:Wd} {A:N4} {X:Nk→Nn→Prop} {s:Nn} {D:Addr→Prop} {x dx:Addr} {c:iG} {env:Env} {m:Str→Nh Nk} {h0:Heap} {fsl:List gU} {us0 us:List V} {p:N2} {loose:List Str} {mg mb:Str→Nh Nk}
theorem KF {n m:Nat} (a:n=m) (h:m <800):n≤900:=by omega
theorem oi {f:gU} {v:Nk} {u:V} {Q:Unit→Nn→Prop} (O:Wd.Ok Z p loose mg mb) (P:uH Z D x dx c) (dL:env.locals≠dx) (I:Dx Z D x dx c env m h0 s.heap fsl us0) (nf:f∉fsl) (hz:fsl.length <800) (r:b8 Z D s.heap v u)
  (h:∀h' tk,Dx Z D x dx c env m h0 h' (fsl++[f]) (us0++[u])→Q () {s with heap:=h',toks:=tk}):Ny (model Z.prog Z.w) A (setAttr (.ref x) (fs f) v) Q X s:=by
 refine Nf fun nG=> ?_
 obtain ⟨es,n,E⟩:=I.inst.dict
 refine nG ?_
 have k:=yV E.key
 refine vm (O.X.keeps I.base) I.inst.obj E.at_ (P.cp f) (k.key f nf) k.ref (KF E.len hz) fun h' t sb hd'=> ?_
 have old:∀b o,¬D b→s.heap.get? b=some o→¬D b∧h'.get? b=some o:=fun b o d e=>⟨d,sb.extBut b o (fun z=>d (z▸P.dxD)) e⟩
 have nx:x≠dx:=fun z=>by have:=I.inst.obj;rw [z,E.at_] at this;cases this
 refine h h' _ ⟨I.keep.trans (aw.sameBut sb rfl),fun b o e=>sb.extBut b o (fun z=>by rw [z,P.bdx] at e;cases e) (I.base b o e),I.ns.sameBut sb dL,⟨sb.extBut _ _ nx I.inst.obj,_,_,hd',xm E.key rfl,?_,by rw [Nj,Nj,E.len];rfl⟩,fun d dd=> ?_⟩
 ·rw [NS]
  exact (E.val.mono old).append (.cons (r.mono old) .nil)
 ·by_cases z:d=dx
  ·subst z;exact ⟨_,hd'⟩
  ·exact let ⟨o,e⟩:=I.live d dd;⟨o,sb.extBut d o z e⟩
end
section
variable {Z:Wd} {A:N4} {X:Nk→Nn→Prop} {s:Nn} {D:Addr→Prop} {x dx:Addr} {c:iG} {env:Env} {m:Str→Nh Nk} {h0:Heap} {fsl:List gU} {us0 us:List V} {p:N2} {loose:List Str} {mg mb:Str→Nh Nk}
theorem gb {M:Model} {y:Str} {yp:Pos} {v:Nk} {Q:Nk→Nn→Prop} (hk:env.scope.kind= .function) (hn:s.heap.Ns env.locals m) (hl:gR env.scope y=true) (hm:m y=some v) (hq:Q v s):Ny M A (eval (.Name y yp) env) Q X s:=
 wpAny_Name (Tt hk (by unfold PJ;exact Nv (ac hl).1) hn hm hq) (cI (ac hl).2)
structure HY (env:Env) (m:Str→Nh Nk) (Z:Wd) (D:Addr→Prop) (x dx:Addr) (h0:Heap) (slf:Str) (ps:List Str) (us:List V):Prop where
 kind:env.scope.kind= .function
 glb:env.globals=N7
 blt:env.builtins=RY
 dL:env.locals≠dx
 slf:m slf=some (.ref x)
 args:∀(i:Nat) (y:Str),ps[i]? =some y→∀u,us[i]? =some u→∃v,m y=some v∧b8 Z D h0 v u
theorem By {sc:Po} {slf f:Str} {st:Stmt} {B:Expr→Bool} {P:Prop} (hc:(pg sc slf st).any (fun q=>q.1==f&&B q.2)=true) (K:∀zp ap e pos,st= .Assign [.Attribute (.Name slf zp) f ap] e pos→gR sc slf=true→B e=true→P):P:=by
 refine ax hc fun q h1 h2=> ?_
 obtain ⟨h3,zp,ap,pos,e1⟩:=qA h1
 have a:=ac h2
 exact K zp ap q.2 pos (by rw [e1,Nv a.1]) h3 a.2
theorem FT {sc:Po} {ps:List Str} {i:Nat} {e:Expr} {P:Prop} (h:(cz e).any (fun y=>ps[i]? ==some y&&gR sc y)=true) (K:∀y yp,e= .Name y yp→ps[i]? =some y→gR sc y=true→P):P:=by
 refine ax h fun y h1 h2=> ?_
 obtain ⟨yp,e1⟩:=aY h1
 exact K y yp e1 (Nv (ac h2).1) (ac h2).2
theorem KJ {sc:Po} {B:Expr→Bool} {e:Expr} {P:Prop} (h:(fT e).any (fun r=>r.1==bn .tuple_&&(oG sc r.1&&kJ r.2 B))=true) (K:∀np a cpos,e= .Call (.Name (bn .tuple_) np) [a] [] cpos→oG sc (bn .tuple_)=true→B a=true→P):P:=by
 refine ax h fun r h1 h2=> ?_
 obtain ⟨np,cpos,e1⟩:=cW h1
 have a:=ac h2
 have b:=ac a.2
 refine hO b.2 fun x e2 h3=> ?_
 exact K np x cpos (by rw [e1,e2,Nv a.1]) (Nv a.1▸b.1) h3
theorem HU {es:List Expr} {z:Str×Str} {P:Prop} (h:Bs es=some z) (K:∀zp kn kp,es=[.Name z.1 zp,.Constant (.str z.2) kn kp]→P):P:=by
 refine qo h fun a b e1 h=> ?_
 refine af h fun zn h2 h=>af h fun kc h3 h=>am h fun c h4 h=> ?_
 obtain ⟨zp,e2⟩:=aY h2
 obtain ⟨kn,kp,e3⟩:=gT h3
 rw [←h] at K
 exact K zp kn kp (by rw [e1,e2,e3,uJ h4])
theorem II {sc:Po} {slf:Str} {ps:List Str} {st:Stmt} {k:Sg} {P:Prop} (h:AV sc slf ps st (.base k)=true) (K:∀np ap cpos pos zp kn kp,st= .Expr (.Call (.Attribute (.Name "Operand" np) "__init__" ap) [.Name slf zp,.Constant (.str (bF k)) kn kp] [] cpos) pos→(ap.endLine==cpos.line)=true→
  oG sc "Operand"=true→gR sc slf=true→P):P:=by
 refine ax h fun r h1 h2=> ?_
 refine ax h2 fun o h3 h4=> ?_
 have a:=ac h4
 have b:=ac a.2
 have d:=ac b.2
 refine ax d.2 fun z h5 h6=> ?_
 have g:=ac h6
 have l:=ac g.2
 refine af h1 fun e h7 h8=>HU h5 fun zp kn kp e3=> ?_
 obtain ⟨pos,e1⟩:=k9 h7
 obtain ⟨ap,cpos,e2,hl⟩:=iQ h8
 obtain ⟨np,e4⟩:=aY h3
 exact K np ap cpos pos zp kn kp (by rw [e1,e2,e3,e4,Nv a.1,Nv d.1,Nv g.1,Nv l.2]) hl (Nv a.1▸b.1) l.1
theorem Dx.grows {h h1:Heap} {fsl:List gU} {us0:List V} (I:Dx Z D x dx c env m h0 h fsl us0) (g:bM h h1):Dx Z D x dx c env m h0 h1 fsl us0:=
 let ⟨es,n,ed⟩:=I.inst.dict
 ⟨I.keep.trans (aw.of_all g),fun b o e=>g b o (I.base b o e),I.ns.keeps g,⟨g _ _ I.inst.obj,es,n,g _ _ ed.at_,ed.key,ed.val.grows g,ed.len⟩,fun d dd=>let ⟨o,e⟩:=I.live d dd;⟨o,g _ _ e⟩⟩
theorem Ao {ia:IA} {slf:Str} {ps:List Str} {st:Stmt} (O:Wd.Ok Z p loose mg mb) (HB:(nL Z∧Ix 5 A)∨∀k,ia≠IA.base k) (P:uH Z D x dx c) (E:HY env m Z D x dx h0 slf ps us) (hc:AV env.scope slf ps st ia=true)
  (I:Dx Z D x dx c env m h0 s.heap fsl us0) (R:A.handled=none) {q:gU×V} (ev:Gj us ia=some q) (hok:∀k,ia= .base k→eV k=true) (nf:q.1∉fsl) (ndf:fsl.Nodup) (hz:fsl.length <800) {Q:Flow→Nn→Prop}
  (h:∀h' tk,Dx Z D x dx c env m h0 h' (fsl++[q.1]) (us0++[q.2])→Q .next {s with heap:=h',toks:=tk}):Ny (model Z.prog Z.w) A (exec st env) Q X s:=by
 have gh:∀b o,¬D b→h0.get? b=some o→¬D b∧s.heap.get? b=some o:=fun b o d e=>⟨d,I.keep b o e fun z=>d (z▸P.dxD)⟩
 refine Nf fun nG=> ?_
 cases ia with
 |set f i=>
  refine By (f:=fs f) (B:=fun e:Expr=>(cz e).any fun y=>ps[i]? ==some y&&gR env.scope y) hc fun zp ap e pos he h3 h4=>FT h4 fun y yp e4 h5 h6=>am ev fun u e1 e2=> ?_
  obtain ⟨v,hm,rv⟩:=E.args _ _ h5 _ e1
  rw [he,e4] at nG
  rw [←e2] at h nf
  exact nG (P8 (hs:=by rfl) (gb E.kind I.ns h6 hm (gb E.kind I.ns h3 E.slf (oi O P E.dL I nf hz (rv.mono gh) fun h' tk I'=>h h' tk I'))))
 |tup f i=>
  refine By (f:=fs f) (B:=fun e:Expr=>(fT e).any fun r:Str×List Expr=>r.1==bn .tuple_&&(oG env.scope r.1&&kJ r.2 fun e=>(cz e).any fun y=>ps[i]? ==some y&&gR env.scope y)) hc fun zp ap e pos he h3 h4=>KJ h4 fun np a cpos e4 g h4=>FT h4 fun y yp e5 h5 h6=>af ev fun u e1 ev=>am ev fun ws e2 ev=> ?_
  obtain ⟨v,hm,rv⟩:=E.args _ _ h5 _ e1
  obtain ⟨o1,o2,o3⟩:=O.bf .tuple_
  rw [he,e4,e5] at nG
  rw [←ev] at h nf
  refine nG (P8 (hs:=by rfl) (Pk (OY E.kind (by unfold PJ;exact Nv (ac g).1) (QH (mg:=mg) (mb:=mb) (by rw [E.glb];exact O.T.g.keeps I.base) (VL O.X O.T.g o1) (by rw [E.blt];exact O.T.b.keeps I.base) ((O.T.builtins _ o3).trans o2) ?_) (cI (ac g).2))))
  refine iy (Z:=Z) (qp .tuple_) rfl ?_
  rw [bz rfl]
  refine O1 (gb E.kind I.ns h6 hm (Pj ⟨O.X.keeps I.base,?_⟩))
  have hbf:vN .tuple_ [u]=some (.tup ws):=by show (ft u).map V.tup=_;rw [e2];rfl
  refine u8 (Z:=Z) (D:=D) (b:= .tuple_) I.live (fun d nd=>PL.mpr fun z=> ?_) R (.cons (.inl (rv.mono gh)) .nil) hbf fun v' h1 t1 g1 r1=> ?_
  ·exact absurd (z▸Od O.sysM (NP (ND P.bx (NY I.inst.obj)))) (Pt.mpr nd)
  ·exact gb (s:={s with heap:=h1,toks:=t1}) E.kind (I.ns.keeps g1) h3 E.slf (oi (s:={s with heap:=h1,toks:=t1}) O P E.dL (I.grows g1) nf hz r1 fun h' tk I'=>h h' tk I')
 |base k=>
  refine II hc fun np ap cpos pos zp kn kp he hl g h3=> ?_
  have ev:=Ng ev
  obtain ⟨⟨b',fI,mc,B⟩,R5⟩:=HB.resolve_right fun z=>z _ rfl
  rw [he] at nG
  rw [←ev] at h nf
  refine nG (Rb (hi:=by unfold interactive;rw [E.kind];rfl) (hs:=by rfl) ?_)
  refine ik (Z:=Z) (k:=1) (c:=⟨env.scope,[]⟩) (cs:=[.stuck,.stuck]) rfl hl (by show 2 <20;decide) rfl ?_
  refine OY E.kind (by unfold PJ;exact Nv (ac g).1) (Qe (mg:=mg) (by rw [E.glb];exact O.T.g.keeps I.base) (mg_of O.X O.T.g B.nm) fun pl=> ?_) (cI (ac g).2)
  refine method_cls (O.X.keeps I.base) B.ga (cls_value (O.X.keeps I.base) B.rd B.fd rfl ?_)
  refine iy (Z:=Z) (.inr (.inr B.kp)) rfl ?_
  rw [bz rfl]
  refine O1 (gb E.kind I.ns h3 E.slf ?_)
  rw [bz rfl]
  refine O1 (R0 (pos:=kp) (k:=kn) (Pj ⟨O.X.keeps I.base,PV ?_⟩))
  refine B.run A {s with toks:=s.toks+1+1} x dx c fsl us0 D k _ (hok k rfl) R5 P I.base I.live I.inst nf ndf hz _ fun h' tk k' i'=> ?_
  refine h h' tk ⟨I.keep.trans k',fun b o e=>k' b o (I.base b o e) fun z=>(by rw [z,P.bdx] at e;cases e),I.ns.at' fun o e=>k' _ o e E.dL,i',fun d dd=> ?_⟩
  by_cases z:d=dx
  ·exact z▸let ⟨_,_,e⟩:=i'.dict;⟨_,e.at_⟩
  ·exact let ⟨o,e⟩:=I.live d dd;⟨o,k' d o e z⟩
noncomputable def yw (ias:List IA):Bool:=ias.all fun a=>match a with| .base k=>eV k|_=>true
theorem zj {ias:List IA} (h:yw ias=true) {a:IA} (m:a∈ias):∀k,a= .base k→eV k=true:=fun k e=>by have:=NC.mp h a m;rw [e] at this;exact this
theorem yZ {slf:Str} {ps:List Str} (O:Wd.Ok Z p loose mg mb) (P:uH Z D x dx c) (E:HY env m Z D x dx h0 slf ps us) (R:A.handled=none):
  ∀{sts:List Stmt} {ias:List IA} {s:Nn} {fsl:List gU} {us0:List V} {fvs:List (gU×V)},B7 env.scope slf ps sts ias=true→((nL Z∧Ix 5 A)∨∀k,IA.base k∉ias)→yw ias=true→Dx Z D x dx c env m h0 s.heap fsl us0→px us ias=some fvs→(fsl++fvs.map (·.1)).Nodup→fsl.length+fvs.length≤800→∀{Q:Flow→Nn→Prop},
   (∀h' tk,Dx Z D x dx c env m h0 h' (fsl++fvs.map (·.1)) (us0++fvs.map (·.2))→Q .next {s with heap:=h',toks:=tk})→Ny (model Z.prog Z.w) A (execs sts env) Q X s:=by
 intro sts
 induction sts with
 |nil=>
  intro ias s fsl us0 fvs hc HB ho I ev nd hz Q h
  refine Nf fun nG=> ?_
  cases aE hc
  cases Ng ev
  refine nG ?_
  exact P1 (h s.heap s.toks (by rw [Oh,Oh,NH,NH];exact I))
 |cons st sts ih=>
  intro ias s fsl us0 fvs hc HB ho I ev nd hz Q h
  refine Nf fun nG=> ?_
  obtain ⟨a,as,rfl,hc⟩:=cV hc
  refine nG ?_
  refine af ev fun q e1 ev=>am ev fun fvs' e2 ev=> ?_
  subst ev
  rw [NA] at nd
  have n2:=OL.mp nd
  rw [OX] at hz
  refine Ol (Ao O (HB.imp id fun z k hq=>z k (by rw [hq];exact .head _)) P E (ac hc).1 I R e1 (zj ho (.head _)) (fun mf=>n2.2.2 q.1 mf q.1 (.head _) rfl) n2.1 (by omega) fun h1 t1 I1=> ?_)
  refine ih (s:={s with heap:=h1,toks:=t1}) (ac hc).2 (HB.imp id fun z k hq=>z k (.tail _ hq)) (ac ho).2 I1 e2 (by rw [NI];exact nd) (by rw [Nj,Tn];omega) fun h2 t2 I2=>h h2 t2 ?_
  rw [NI,NI] at I2
  exact I2
structure Ju (Z:Wd) (a:Addr) (np:Nat) (dfl:Bool) (ias:List IA) (fo:Obj) (fd:OC) (body:List Stmt) (slf:Str) (ps:List Str):Prop where
 at_:Z.K.lookup a=some fo
 data:fo.data= .func fd
 rest:BZ Z.K fd
 bod:fd.body= .stmts body
 chk:B7 fd.scope slf ps body ias=true
 oks:yw ias=true
 len:ps.length=np
 nd:(slf::ps).Nodup
 loc:∀x∈slf::ps,fd.scope.names.lookup x=some .local
 binds:∀(s:Nn) (x:Nk) (vs:List Nk),Z.K.In s.heap→vs.length=np∨(dfl=true∧vs.length+1=np)→∃dvs:List Nk,(vs.length=np→dvs=[])∧(vs.length+1=np→∃t,dvs=[.str (bF []) t])∧
   BindsTo s fd ⟨x::vs,[]⟩ ((slf::ps).zip (x::(vs++dvs)))
noncomputable def xi (Z:Wd) (a:Addr) (np:Nat) (dfl:Bool) (ias:List IA):Prop:=∃fo fd body slf ps,Ju Z a np dfl ias fo fd body slf ps
noncomputable def om (np:Nat) (us:List V):List V:=us++(if us.length=np then [] else [.str []])
theorem A1 {d k:Nat} (h:d+k <recursionLimit):d <recursionLimit:=ND (Oa ..) h
theorem Js {d:Nat} (h:d+10 <recursionLimit):d+1+5 <recursionLimit:=ND (NT (by decide:6≤10) d) h
theorem se (O:Wd.Ok Z p loose mg mb) {a:Addr} {np:Nat} {dfl:Bool} {ias:List IA} (IO:xi Z a np dfl ias) (HB:(nL Z∧Ix 10 A)∨∀k,IA.base k∉ias) {s:Nn} (bs:∀b o,Z.base.get? b=some o→s.heap.get? b=some o) (P:uH Z D x dx c)
  (L:iE D s.heap) {fsl:List gU} {us0:List V} (I:vd Z D s.heap x dx c fsl us0) {vs:List Nk} {us:List V} (ra:ak Z D s.heap vs us) (hn:us.length=np∨(dfl=true∧us.length+1=np)) {fvs:List (gU×V)}
  (ev:px (om np us) ias=some fvs) (nd:(fsl++fvs.map (·.1)).Nodup) (hz:fsl.length+fvs.length≤800) (R:Ix 0 A) {RR:Qo→Nn→Prop}
  (h:∀h' tk,aw (fun b=>b=dx) s.heap h'→vd Z D h' x dx c (fsl++fvs.map (·.1)) (us0++fvs.map (·.2))→RR (.ok (.ret .none)) {s with heap:=h',toks:=tk}):Pr (model Z.prog Z.w) A (.call (.ref a) ⟨.ref x::vs,[]⟩) RR s:=by
 refine Nf fun nG=> ?_
 obtain ⟨fo,fd,body,slf,ps,F⟩:=IO
 have KH:Z.K.In s.heap:=O.X.keeps bs
 have lenA:=ra.length
 obtain ⟨dvs,d1,d2,d3⟩:=F.binds s (.ref x) vs KH (by rw [lenA];exact hn)
 refine nG ?_
 have rl:ak Z D s.heap (vs++dvs) (om np us)∧(om np us).length=np:=by
  unfold om
  rcases hn with hn|⟨_,hn⟩
  ·rw [d1 (lenA.trans hn),NG hn,NH,NH];exact ⟨ra,hn⟩
  ·obtain ⟨t,rfl⟩:=d2 (by rw [lenA];exact hn)
   rw [NV (by omega),Nj]
   exact ⟨ra.append (.cons (.str _ _ rfl) .nil),hn⟩
 have rd:=rl.1
 have lenD:(slf::ps).length=(QQ x::(vs++dvs)).length:=Nt Ts (F.len.trans (rl.2.symm.trans rd.length.symm))
 have hkind:∀y∈(slf::ps).zip (.ref x::(vs++dvs)),fd.scope.names.lookup y.1=some .local∨(fd.scope.names.lookup y.1=some .cell∧((cellsFrom (s.heap.objs.size+1) fd.scope.names []).lookup y.1).isSome=true):=fun y hy=>
  .inl (F.loc y.1 (RH (show (y.1,y.2)∈_ from hy)).1)
 refine nv (A1 R.depth) (KH _ _ F.at_) F.data (O.T.nolimit.keeps bs) (VQ KH F.rest.code) F.bod d3 F.rest.clo hkind (fun s₁ xx=> ?_) F.rest.co F.rest.gen F.rest.kind
 refine Nf fun nG=> ?_
 obtain ⟨h₁,tk,rfl,keep⟩:=xx.done
 have ndz:(((slf::ps).zip (.ref x::(vs++dvs))).map (·.1)).Nodup:=by rw [ng (NZ lenD)];exact F.nd
 have km:∀y v,(y,v)∈(slf::ps).zip (.ref x::(vs++dvs))→bindL (Oc fd s.heap.objs.size a).kindOf ((slf::ps).zip (.ref x::(vs++dvs))) (fun _=>none) y=some v:=fun y v hm=>
  (lV ndz hm).1 (F.loc y (RH hm).1)
 have HB':(nL Z∧Ix 5 (A.deeper (Oc fd s.heap.objs.size a)))∨∀k,IA.base k∉ias:=HB.imp (fun z=>⟨z.1,Js z.2.depth,R.calm⟩) id
 have old:∀b o,¬D b→s.heap.get? b=some o→¬D b∧h₁.get? b=some o:=fun b o d e=>⟨d,keep b o e⟩
 obtain ⟨es,n,ed⟩:=I.dict
 refine nG ?_
 have dL:(Oc fd s.heap.objs.size a).locals≠dx:=fun z=>by
  have:=ed.at_
  rw [←z] at this
  exact Ou _ (NY this)
 have I0:Dx Z D x dx c (Oc fd s.heap.objs.size a) (bindL (Oc fd s.heap.objs.size a).kindOf ((slf::ps).zip (.ref x::(vs++dvs))) fun _=>none) h₁ h₁ fsl us0:=
  ⟨aw.refl,fun b o e=>keep b o (bs b o e),xx.toInCall.ns,⟨keep _ _ I.obj,es,n,keep _ _ ed.at_,ed.key,ed.val.mono old,ed.len⟩,fun d dd=>let ⟨o,e⟩:=L d dd;⟨o,keep _ _ e⟩⟩
 have E:HY (Oc fd s.heap.objs.size a) (bindL (Oc fd s.heap.objs.size a).kindOf ((slf::ps).zip (.ref x::(vs++dvs))) fun _=>none) Z D x dx h₁ slf ps (om np us):=
  ⟨F.rest.kind,F.rest.glb,F.rest.blt,dL,km slf _ (.head _),fun i y hy u hu=>let ⟨v,hv,rv⟩:=rd.get hu;⟨v,km y v (.tail _ (oU hy hv)),rv.mono old⟩⟩
 exact yZ (A:=A.deeper (Oc fd s.heap.objs.size a)) O P E R.calm (s:={s with heap:=h₁,toks:=tk}) F.chk HB' F.oks I0 ev nd hz fun h2 t2 I2=>h h2 t2 ((aw.of_all keep).trans I2.keep) I2.inst
end
structure GF (Z:Wd) (c:iG) (a:Addr) (np:Nat) (dfl:Bool) (ias:List IA):Prop where
 plain:vH Z c
 makes:makesIn Z.K (Z.ca c)=true
 init:findIn Z.K (.ref (Z.ca c)) "__init__"=some (some (.ref a))
 fn:typeIn Z.K (.ref a)=some (.type "function")
 ok:xi Z a np dfl ias
 vals:∀us w,iB c us=some w→(us.length=np∨(dfl=true∧us.length+1=np))∧∃fvs:List (gU×V),px (om np us) ias=some fvs∧fvs.map (·.1)=c.fields∧w= .inst c (fvs.map (·.2))
theorem td (c:iG):c.fields.Nodup:=by cases c<;>decide
theorem xq (c:iG):c.fields.length≤4:=by cases c<;>decide
theorem pS {A:N4} {C:Addr} {vs:List Nk} {n:Nat} (h:aN n A):Ix 10 (A.under (.builtin "type.__call__" ⟨.ref C::vs,[]⟩)):=by
 have wt:(UF "type.__call__" ⟨.ref C::vs,[]⟩).weight≤5:=by
  show _+_+_+_≤5
  have:(UF "type.__call__" ⟨.ref C::vs,[]⟩).isGuard=false:=by show guardIds.contains "type.__call__"=false;decide
  rw [this]
  show 0+1+0+0≤5
  decide
 refine ⟨?_,h.calm⟩
 have:=h.depth
 show A.depth+_+10 <_
 omega
theorem Ah {Z:Wd} {p:N2} {loose:List Str} {mg mb:Str→Nh Nk} (O:Wd.Ok Z p loose mg mb) (HB:nL Z) (CO:∀c,∃a np dfl ias,GF Z c a np dfl ias):xg Z:=by
 intro c us w hw A s vs CA σ D Rm G ra R hR
 refine Nf fun nG=> ?_
 obtain ⟨a,np,dfl,ias,P⟩:=CO c
 obtain ⟨hn,fvs,e1,e2,rfl⟩:=P.vals us w hw
 have KH:Z.K.In s.heap:=O.X.keeps G.base
 obtain ⟨hp,g,d,t,os⟩:=s
 refine nG ?_
 dsimp only at KH ra G hR ⊢
 refine make_core (makes_of KH P.makes) (Ta KH P.init) (fun self=>bind_fn KH self P.fn) (.inl rfl) ?_
 generalize hH1:hp.push emptyDict=H1
 have hz1:H1.objs.size=hp.objs.size+1:=by rw [←hH1,Ra]
 generalize hdx:hp.objs.size=dx at hz1
 have gdx:H1.get? dx=some emptyDict:=by rw [←hH1,←hdx];exact N1 _ rfl
 have ndx:hp.get? dx=none:=by rw [←hdx];exact ee _
 have nx:hp.get? (dx+1)=none:=by rw [←hdx];exact gi (NQ _)
 have gx:(H1.push (Q2 (Z.ca c) dx)).get? (dx+1)=some (Q2 (Z.ca c) dx):=by rw [←hz1];exact N1 _ rfl
 have up:∀b o,hp.get? b=some o→(H1.push (Q2 (Z.ca c) dx)).get? b=some o:=fun b o e=>NM _ (hH1▸NM _ e)
 have gdx2:(H1.push (Q2 (Z.ca c) dx)).get? dx=some emptyDict:=NM _ gdx
 have old:∀b o,¬D b→hp.get? b=some o→¬DI D (dx+1) dx b∧(H1.push (Q2 (Z.ca c) dx)).get? b=some o:=fun b o q e=>
  ⟨fun z=>z.elim q fun z=>z.elim (fun z=>ar nx (z▸e)) fun z=>ar ndx (z▸e),up b o e⟩
 have bs:Z.base.objs.size≤dx:=by rw [←hdx];exact NP G.size
 have deep:=pS (C:=Z.ca c) (vs:=vs) Rm
 refine se (s:=⟨H1.push (Q2 (Z.ca c) dx),g,d,t,os⟩) (x:=dx+1) (dx:=dx) (c:=c) (D:=DI D (dx+1) dx) (fsl:=[]) (us0:=[]) (us:=us) O P.ok (.inl ⟨HB,deep⟩) (fun b o e=>up b o (G.base b o e)) ⟨P.plain,.inr (.inl rfl),.inr (.inr rfl),gi bs,PE bs⟩
  (fun b q=> ?_) ⟨gx,[],0,gdx2,.nil,.nil,rfl⟩ (ra.mono old) hn e1 (by rw [Qm,e2];exact td c) ?_ ⟨ND (NT (N5 _) _) deep.depth,Rm.calm⟩ fun h' tk kp I=> ?_
 ·rcases q with q|q|q
  ·exact let ⟨o,e⟩:=G.live b q;⟨o,up b o e⟩
  ·rw [q];exact ⟨_,gx⟩
  ·rw [q];exact ⟨_,gdx2⟩
 ·have:=Nt PR e2
  rw [Nl] at this
  rw [this]
  exact Ni (NT (xq c) 0) (by decide)
 ·refine ⟨rfl,?_⟩
  rw [Qm,Qm,e2] at I
  refine Nf fun nG=> ?_
  obtain ⟨es,n,ed⟩:=I.dict
  refine nG ?_
  exact hR (.ref (dx+1)) h' tk (fun b o e=>kp b o (up b o e) fun z=>ar ndx (z▸e)) (.inst (G.fresh_notD nx) (G.fresh_notD ndx) I.obj ed.at_ ed.key (ed.val.mono fun b o q e=>⟨fun z=>q (.inl z),e⟩))
noncomputable def Cg (l:List Str):Bool:=List.rec (motive:=fun _=>Bool) true (fun x r ih=>r.all (fun y=> !(y==x))&&ih) l
theorem pX:∀{l:List Str},Cg l=true→l.Nodup
 |[],_=> .nil
 |_::_,h=>Pc.mpr ⟨fun m=>(by have:=cI (NC.mp (ac h).1 _ m);rw [Rl] at this;cases this),pX (ac h).2⟩
noncomputable def F8 (K:Frag) (fd:OC) (np:Nat) (dfl:Bool):Bool:=match dfl with
 |false=>Ap fd
 |true=>(sE K fd).any fun v=>Bv v==some (bF [])&&(np==2||np==3)
noncomputable def IX (K:Frag) (a:Addr) (ias:List IA) (np:Nat) (dfl:Bool):Bool:=(Aq K a).any fun fd=>sP K fd&&((mK fd.body).any fun body=>jP (jA fd) fun slf ps=>B7 fd.scope slf ps body ias&&(yw ias&&(ps.length==np&&(Cg (slf::ps)&&((slf::ps).all (fun x=>fd.scope.names.lookup x==some .local)&&F8 K fd np dfl)))))
theorem zE {K:Frag} {fd:OC} {np:Nat} {dfl:Bool} (h:F8 K fd np dfl=true):∃ds:List Nk,ds.length≤1∧ds.length≤np∧(dfl=false→ds=[])∧(dfl=true→∃t,ds=[.str (bF []) t])∧∀s:Nn,K.In s.heap→wg s fd ds:=by
 cases dfl with
 |false=>exact ⟨[],N5 _,N5 _,fun _=>rfl,(fun z=>nomatch z),fun s _=> .inl ⟨Nv h,rfl⟩⟩
 |true=>
  refine Nf fun nG=> ?_
  refine ax h fun v h1 h2=> ?_
  obtain ⟨t,h7⟩:=sy (Nv (ac h2).1)
  obtain ⟨T,o,n,g1,g2,g3⟩:=lh h1
  exact nG ⟨[v],Nz 1,(O6.mp (ac h2).2).elim (fun z=>by rw [Nv z];exact NQ 1) fun z=>(by rw [Nv z];exact P4 1 2),(fun z=>nomatch z),fun _=>⟨t,by rw [h7]⟩,fun s KH=> .inr ⟨T,o,n,g1,KH _ _ g2,g3⟩⟩
theorem rW {Z:Wd} {a:Addr} {np:Nat} {dfl:Bool} {ias:List IA} (h:IX Z.K a ias np dfl=true):xi Z a np dfl ias:=by
 refine Nf fun nG=> ?_
 refine ax h fun fd h1 h2=> ?_
 obtain ⟨o,h3,h4⟩:=mD h1
 have R:=lH (ac h2).1
 refine ax (ac h2).2 fun body h5 h6=> ?_
 refine ib h6 fun slf ps h7 h8=> ?_
 have a1:=ac h8
 have a2:=ac a1.2
 have a3:=ac a2.2
 have a4:=ac a3.2
 have a5:=ac a4.2
 have nd:=pX a4.1
 have hnp:ps.length=np:=Nv a3.1
 obtain ⟨ds,d1,d2,d3,d4,d5⟩:=zE a5.2
 have hp:(jA fd).length=np+1:=(Nt PR h7).trans (Nt Ts hnp)
 refine nG ⟨o,fd,body,slf,ps,h3,h4,R,iJ h5,a1.1,a2.1,hnp,nd,fun x hx=>Nv (NC.mp a5.1 x hx),fun s x vs KH hl=> ?_⟩
 have go:=fun l1 l2=>nF (s:=s) (vs:=x::vs) R.ns (h7▸nd) l1 l2 d1 (hp▸PE d2) (d5 s KH)
 rw [hp] at go
 refine ⟨ds.drop (ds.length -(np+1 -(vs.length+1))),fun z=> ?_,fun z=> ?_,?_⟩
 ·rw [z,PQ];exact List.drop_length
 ·have ht:dfl=true:=hl.elim (fun w=>absurd (z.trans w.symm) (SL _)) And.left
  obtain ⟨t,e⟩:=d4 ht
  exact ⟨t,by rw [e,←z,QV];rfl⟩
 ·rw [←h7]
  refine go ?_ ?_
  ·exact NO (hl.elim NZ fun z=>z.2▸NQ _)
  ·refine hl.elim (fun z=>z▸Oa _ _) fun z=> ?_
   obtain ⟨t,e⟩:=d4 z.1
   rw [←z.2,e];exact Nz _
noncomputable def xW:iG→List IA
 | .line=>[.tup .labels 0,.set .instruction 1]
 | .ins=>[.set .name 0,.tup .operands 1,.set .prefix_ 2]
 | .reg=>[.base [114,101,103],.set .register 0]
 | .imm=>[.base [105,109,109],.set .worth 0,.set .name 1]
 | .rel=>[.base [114,101,108],.set .worth 0,.set .name 1]
 | .register=>[.set .name 0,.set .kind 1,.set .number 2,.set .size 3]
noncomputable def DS:iG→Addr
 | .line=>341| .ins=>287| .reg=>178| .imm=>212| .rel=>246| .register=>562
noncomputable def vJ:iG→Nat
 | .line=>2| .ins=>3| .reg=>1| .imm=>2| .rel=>2| .register=>4
noncomputable def DX:iG→Bool
 | .line=>false| .ins=>true| .reg=>false| .imm=>true| .rel=>true| .register=>false
noncomputable def A3:List gU:=[.labels,.instruction,.name,.operands,.prefix_,.kind,.register,.worth,.number,.size]
theorem v4 (f:gU):f∈A3:=by cases f<;>decide
noncomputable def IU (K:Frag):Bool:=nc.all fun c=>A3.all (fun f=>lr K (o6 c) (fs f))&&(makesIn K (o6 c)&&(jv (findIn K (.ref (o6 c)) "__init__") (DS c)&&(isFn K (.ref (DS c))&&IX K (DS c) (xW c) (vJ c) (DX c))))
noncomputable def Ce:CFound→Nh Nk
 | .val v=>some v
 |_=>none
theorem xw {d:CFound} {v:Nk} (h:Ce d=some v):d= .val v:=by cases d<;>first|(cases h;done)|(cases Ng h;rfl)
noncomputable def CX (K:Frag):Bool:=IX K 136 [.set .kind 0] 1 false&&(jv (nsIn K N7 "Operand") 160&&(readsIn K 160 (.type "type")&&(keepIn K (.ref 136)&&(xd (specialIn K (.ref 160) "__getattribute__") "type.__getattribute__"&&((findCls K (.ref 160) (.type "type") "__init__").any fun v=>(Ce v).any fun x=>x== .ref 136)))))
theorem EP {prog:N2} {w:PK} {K:Frag} {h:Heap} {p:N2} {loose:List Str} {mg mb:Str→Nh Nk} (g:CX K=true) (O:(gZ prog w K h).Ok p loose mg mb):nL (gZ prog w K h):=by
 have a1:=ac g
 have a2:=ac a1.2
 have a3:=ac a2.2
 have a4:=ac a3.2
 have a5:=ac a4.2
 refine Nf fun nG=> ?_
 refine ax a5.2 fun v h1 h2=> ?_
 refine ax h2 fun y h3 h4=> ?_
 refine nG ?_
 rw [xw h3,Nv h4] at h1
 refine ⟨160,136,.type "type",Nv a2.1,Nv a5.1,a3.1,h1,a4.1,fun A s x dx c fsl us D k t ok R P bs L I nf ndf hz RR hR=> ?_⟩
 refine se (Z:=gZ prog w K h) (us:=[.str k]) (fvs:=[(.kind,.str k)]) O (rW (Z:=gZ prog w K h) a1.1) (.inr fun k hk=>by cases hk with|tail _ hk=>cases hk) bs P L I (.cons (.str _ _ ok) .nil) (.inl rfl) rfl (OL.mpr ⟨ndf,SO _ _,fun a ma b mb z=> ?_⟩) hz ⟨A1 R.depth,R.calm⟩ fun h' tk kp i=>hR h' tk kp i
 cases NU.mp mb
 have z:a=gU.kind:=z
 rw [z] at ma
 exact nf ma
noncomputable def MI (c:iG) (us:List V) (w:V):Prop:=(us.length=vJ c∨(DX c=true∧us.length+1=vJ c))∧∃fvs:List (gU×V),px (om (vJ c) us) (xW c)=some fvs∧fvs.map (·.1)=c.fields∧w= .inst c (fvs.map (·.2))
theorem F6 {c:iG} {us:List V} {w:V} (h:us.length=vJ c∨(DX c=true∧us.length+1=vJ c)) (fvs:List (gU×V)) (e1:px (om (vJ c) us) (xW c)=some fvs) (e2:fvs.map (·.1)=c.fields) (e3:w= .inst c (fvs.map (·.2))):MI c us w:=⟨h,fvs,e1,e2,e3⟩
theorem FS (c:iG) (us:List V) (w:V) (hw:iB c us=some w):MI c us w:=by
 cases c with
 |line=>
  obtain ⟨l,i,rfl,e⟩:=gm hw
  obtain ⟨ws,e1,rfl⟩:=map_some e
  exact F6 (.inl rfl) [(.labels,.tup ws),(.instruction,i)] (by show ((ft l).map _).bind _=_;rw [e1];rfl) rfl rfl
 |ins=>
  cases us with
  |nil=>cases hw
  |cons n us=>cases us with
   |nil=>cases hw
   |cons o us=>
    refine af (show (Co (.str []) us).bind _=some w from hw) fun p e1 e=> ?_
    obtain ⟨ws,e2,rfl⟩:=map_some e
    cases us with
    |nil=>cases Ng e1;exact F6 (.inr ⟨rfl,rfl⟩) [(.name,n),(.operands,.tup ws),(.prefix_,.str [])] (by show (((ft o).map _).bind _).map _=_;rw [e2];rfl) rfl rfl
    |cons q us=>
     have:=gO (show one (q::us)=some p from e1)
     cases this
     exact F6 (.inl rfl) [(.name,n),(.operands,.tup ws),(.prefix_,p)] (by show (((ft o).map _).bind _).map _=_;rw [e2];rfl) rfl rfl
 |reg=>
  obtain ⟨r,e1,rfl⟩:=map_some (show (one us).map _=some w from hw)
  cases gO e1
  exact F6 (.inl rfl) [(.kind,.str [114,101,103]),(.register,r)] (rfl) rfl rfl
 |imm=>
  cases us with
  |nil=>cases hw
  |cons x us=>
   obtain ⟨n,e1,rfl⟩:=map_some (show (Co (.str []) us).map _=some w from hw)
   cases us with
   |nil=>cases Ng e1;exact F6 (.inr ⟨rfl,rfl⟩) [(.kind,.str [105,109,109]),(.worth,x),(.name,.str [])] (rfl) rfl rfl
   |cons q us=>
    cases gO (show one (q::us)=some n from e1)
    exact F6 (.inl rfl) [(.kind,.str [105,109,109]),(.worth,x),(.name,n)] (rfl) rfl rfl
 |rel=>
  obtain ⟨x,n,rfl,e⟩:=gm hw
  cases Ng e
  exact F6 (.inl rfl) [(.kind,.str [114,101,108]),(.worth,x),(.name,n)] (rfl) rfl rfl
 |register=>
  cases us with
  |nil=>cases hw
  |cons a us=>cases us with
   |nil=>cases hw
   |cons b us=>
    obtain ⟨u,z,rfl,e⟩:=gm (show two us _=some w from hw)
    cases Ng e
    exact F6 (.inl rfl) [(.name,a),(.kind,b),(.number,u),(.size,z)] (rfl) rfl rfl
theorem HF {prog:N2} {w:PK} {K:Frag} {h:Heap} (g:IU K=true) (c:iG):∃a np dfl ias,GF (gZ prog w K h) c a np dfl ias:=
 have a1:=ac (NC.mp g c (iv c))
 have a2:=ac a1.2
 have a3:=ac a2.2
 have a4:=ac a3.2
 ⟨DS c,vJ c,DX c,xW c,fun f=>NC.mp a1.1 f (v4 f),a2.1,Nv a3.1,Nv a4.1,rW (Z:=gZ prog w K h) a4.2,FS c⟩
theorem KP {prog:N2} {w:PK} {K:Frag} {h:Heap} {p:N2} {loose:List Str} {mg mb:Str→Nh Nk} (g:(IU K&&CX K)=true) (O:(gZ prog w K h).Ok p loose mg mb):xg (gZ prog w K h):=Ah O (EP (ac g).2 O) (HF (ac g).1)
end
section
open PySem PySem.W
section
variable {prog:N2} {w:PK} {A:N4} {h:Heap} {g:P5 GenState} {d:Drawn} {t:Nat} {os:TQ}
variable {nm q:Str} {C N:Addr} {bs bm bmB:List Nk} {hdct:Bool} {sn:List Str} {sub:List Nk} {ab:Bool} {col:Nh Bool} {dd:Nh Addr} {k0 k1 k2 k3 k5:Nh Nk} {B newId initId:Q3}
noncomputable def qG (bmB bm:List Nk):Prop:=∀X b,bmB.contains (.type X)=b→bm.contains (.type X)=b
theorem qG.own (a:Addr):qG bmB (.ref a::bmB):=fun X b e=>by rw [Uu,e];rfl
theorem qG.all (T:qG bmB bm) (X:Q3) {b:Bool} (e:bmB.contains (.type X)=b):(QQ C::bm).contains (.type X)=b:=qG.own C X b (T X b e)
theorem H3 {M:Model} {A:N4} {E:Nk→Nn→Prop} {α:Type} {c:Prop} [Su c] {X Y:Sem α} {Q:α→Nn→Prop} {s:Nn} (hc:c) (h:Ny M A X Q E s):Ny M A (if c then X else Y) Q E s:=by rw [NG hc];exact h
theorem sG {M:Model} {A:N4} {E:Nk→Nn→Prop} {α:Type} {c:Prop} [Su c] {X Y:Sem α} {Q:α→Nn→Prop} {s:Nn} (hc:¬c) (h:Ny M A Y Q E s):Ny M A (if c then X else Y) Q E s:=by rw [NV hc];exact h
theorem yJ {M:Model} {E:Nk→Nn→Prop} (F:Tb B newId initId bmB) (T:qG bmB bm) {rest:List Nk} {Q:Unit→Nn→Prop} (hC:h.get? C=some (excClassObj nm q C N bs bm hdct sn sub ab col dd k0 k1 k2 k3 k5 newId))
  (hq:Q () ⟨h,g,d,t,os⟩):Ny M A (checkBuiltinCall newId ⟨.ref C::rest,[]⟩) Q E ⟨h,g,d,t,os⟩:=by
 have hB:=T.all (C:=C) B F.hasB
 have star:=F.noStar
 unfold checkBuiltinCall
 extract_lets sig jp
 rw [F.newKind,F.newSplit]
 refine H3 rfl ?_
 show Ny M A (isType (.ref C)>>=_) _ _ _
 refine No ?_
 repeat (first|refine Pl hC ?_ |wp_step)
 extract_lets
 refine QC hC ?_
 rw [hB]
 show Ny M A (if (!true)=true then _ else _) _ _ _
 apply sG
 ·exact Bool.false_ne_true
 show Ny M A (Bind.staticBase (.ref C)>>=_) _ _ _
 refine No (wpAny_staticBase_exc hC ?_)
 show Ny M A (Bind.madeBy _>>=_) _ _ _
 refine No (Vc hC ?_)
 show Ny M A (if (Manifest.canonical newId !=Manifest.canonical newId)=true then _ else _) _ _ _
 apply sG
 ·rw [UK];exact Bool.false_ne_true
 show Ny M A (match Manifest.signature? newId with|some sig=>Bind.checkArgs newId sig {pos:=QQ C::rest}|x=>pure ()) _ _ _
 rw [F.newRow]
 repeat wp_step
 exact hq
noncomputable def A2 (C:Addr) (h:Heap):Obj:={cls:= .ref C,data:= .fields #[.ref h.objs.size,.none,.none,.none,.bool false,.none]}
noncomputable def xF (h:Heap) (C:Addr) (rest:List Nk):Heap:=(h.push {cls:= .type "tuple",data:= .seq rest.toArray}).push (A2 C h)
theorem Eh (F:Tb B newId initId bmB) (T:qG bmB bm) {R:Qo→Nn→Prop} {rest:List Nk} (hC:h.get? C=some (excClassObj nm q C N bs bm hdct sn sub ab col dd k0 k1 k2 k3 k5 newId))
  (hq:R (.ok (.ret (.ref (h.objs.size+1)))) ⟨xF h C rest,g,d,t,os⟩) (hz:rest.length≤PM):Pr (model prog w) A (.builtin newId ⟨.ref C::rest,[]⟩) R ⟨h,g,d,t,os⟩:=by
 have ends:=F.ends
 have hB:=T.all (C:=C) B F.hasB
 have hA:=T.all (C:=C) "AttributeError" F.noAttr
 have hN:=T.all (C:=C) "NameError" F.noName
 refine codeAny_builtinAt F.entry ?_
 unfold Builtin.«BaseException.__new__»
 refine wpAt_bind ?_
 show wpAt _ _ _ (stack>>=_) _ _ _
 refine wpAt_bind (wpAt_stack fun p below=>wpAt_of_wpAny ?_)
 wp_walk
 refine wpAt_of_wpAny ?_
 rw [F.owner]
 repeat (first|with_reducible refine wpAny_madeHere_exc F.canon hC ?_ |with_reducible refine Pl hC ?_ |(with_reducible refine QC hC ?_;first|rw [hB]|rw [hA]|rw [hN])|wp_step)
 show R _ _
 rw [Ra]
 exact hq
end
end
section
open PySem PySem.W
set_option tactic.hygienic false
section
variable {prog:N2} {w:PK} {A:N4} {E:Nk→Nn→Prop} {h:Heap} {g:P5 GenState} {d:Drawn} {t:Nat} {os:TQ} {K:Frag}
variable {nm q:Str} {C N:Addr} {bs bm bmB:List Nk} {hdct:Bool} {sn:List Str} {sub:List Nk} {ab:Bool} {col:Nh Bool} {dd:Nh Addr} {k0 k1 k2 k3 k5:Nh Nk} {B newId initId:Q3} {fI:Addr} {rest:List Nk}
theorem mT {b:Addr} {o:Obj} (e:h.get? b=some o):(xF h C rest).get? b=some o:=NM _ (NM _ e)
theorem yi:(xF h C rest).get? (h.objs.size+1)=some (A2 C h):=UP (by rw [Ra]) rfl
theorem BD (F:Tb B newId initId bmB) (T:qG bmB bm) {Q:PySem.Fin→Nn→Prop} (hC:h.get? C=some (excClassObj nm q C N bs bm hdct sn sub ab col dd k0 k1 k2 k3 k5 newId)) (X:K.In h)
  (hi:findIn K (.ref C) "__init__"=some (some (.ref fI))) (hf:typeIn K (.ref fI)=some (.type "function")) (hz:rest.length≤PM)
  (hq:Ny (model prog w) A (call (.ref fI) (.ref (h.objs.size+1)::rest)) (fun r s'=>r= .none∧Q (.done (.ret (.ref (h.objs.size+1)))) s') E ⟨xF h C rest,g,d,t,os⟩):
  Ny (model prog w) A (Builtin.«type.__call__» ⟨.ref C::rest,[]⟩) Q E ⟨h,g,d,t,os⟩:=by
 repeat (first|with_reducible refine Pl hC ?_ |with_reducible refine Vc hC ?_ |wp_step)
 refine codeAny_call_builtin_code (RS _ F.quiet) (yJ F T hC ?_)
 refine Eh F T hC ?_ hz
 show Ny _ _ _ _ _ _
 have hC₁:=mT (C:=C) (rest:=rest) hC
 have hat:(xF h C rest).get? (h.objs.size+1)=some {cls:= .ref C,data:= .fields #[.ref h.objs.size,.none,.none,.none,.bool false,.none]}:=yi
 have X₁:K.In (xF h C rest):=X.keeps fun b o e=>mT e
 have hcC:(QQ C::bm).contains (.ref C)=true:=by simp
 unfold isInstance
 repeat (first|with_reducible refine Pl hat ?_ |(with_reducible refine QC hC₁ ?_;rw [hcC])|wp_step)
 show Ny _ _ (RQ (.ref C) _) _ _ _
 refine (Ta X₁ hi).here ?_
 refine Oj (No ?_)
 refine (bind_fn X₁ _ hf).here ?_
 refine No (N3 hq (fun r s' hr=> ?_) fun _ _ x=>x)
 obtain ⟨rfl,hQ⟩:=hr
 wp_walk
 exact hQ
theorem zq (F:Tb B newId initId bmB) (T:qG bmB bm) {Q:Nk→Nn→Prop} (hC:h.get? C=some (excClassObj nm q C N bs bm hdct sn sub ab col dd k0 k1 k2 k3 k5 newId)) (X:K.In h)
  (hi:findIn K (.ref C) "__init__"=some (some (.ref fI))) (hf:typeIn K (.ref fI)=some (.type "function")) (hz:rest.length≤PM)
  (hq:Ny (model prog w) (A.under (.builtin "type.__call__" ⟨.ref C::rest,[]⟩)) (call (.ref fI) (.ref (h.objs.size+1)::rest)) (fun r s'=>r= .none∧Q (.ref (h.objs.size+1)) s') E ⟨xF h C rest,g,d,t,os⟩):
  Ny (model prog w) A (call (.ref C) rest) Q E ⟨h,g,d,t,os⟩:=by
 have f1:=tc_lookup
 have f2:=tc_bind (.ref C)
 have hT:(⟨h,g,d,t,os⟩:Nn).TypeIs (.ref C) "type":=⟨_,hC,rfl⟩
 refine PV (Vs ?_)
 show Ny _ _ (callAny (.ref C) _) _ _ _
 repeat (any_goals (first|assumption|with_reducible refine Pl hC ?_ |wp_step))
 refine ⟨rfl,?_⟩
 exact codeAny_call_builtin_at (RS _ (by decide+kernel)) entry_typeCall (wpAny_check_type_call_sub hC (BD F T hC X hi hf hz hq))
end
end
section
open PySem PySem.W PySem.Builtin.ObjectAttr PySem.Builtin
set_option tactic.hygienic false
noncomputable def pD (C A':Addr):List Nk:=[.ref C,.ref A',.type "Exception",.type "BaseException",.type "object"]
structure rQ (g h:Heap) (x C t0:Addr) (ns:List Str):Prop where
 keep:∀b o,g.get? b=some o→h.get? b=some o
 nx:g.get? x=none
 obj:∃dd,h.get? x=some {cls:= .ref C,dict:=dd,data:= .fields #[.ref t0,.none,.none,.none,.bool false,.none]}∧(dd=none∨∃dx m,dd=some dx∧dx≠x∧g.get? dx=none∧h.Ns1 dx m∧Within m ns)
structure pq (K:Frag) (C A':Addr) (cd:PT):Prop where
 obj:∃c0 d0 sl,K.lookup C=some {cls:=c0,dict:=d0,data:= .cls cd,slots:=sl}
 mro:cd.mro=pD C A'
 dict:cd.hasDict=true
 set:findIn K (.ref C) "__setattr__"=some (some (.builtin "object.__setattr__"))
section
variable {prog:N2} {w:PK} {A:N4} {E:Nk→Nn→Prop} {s:Nn} {K:Frag} {C A' x t0:Addr} {cd:PT} {g:Heap} {ns:List Str} {name:Str} {v:Nk}
theorem pq.at_ (Y:pq K C A' cd):clsIn K C=some cd:=let ⟨_,_,_,e⟩:=Y.obj;by unfold clsIn;rw [e]
theorem ER {ox:Obj} {od:Nh Obj} {tk:Tok} {R:Qo→Nn→Prop} (X:K.In s.heap) (I:InstAt s.heap x ox C od) (Y:pq K C A' cd) (ht:takerIn K C name=some none)
  (h:∀b,Ny (model prog w) A.in1 (storeInOwnDict (.ref x) (.ref C) (.str name tk) name v b)
   (fun fin s'=>match fin with| .done f=>R (.ok f) s'| .again c'=>c'.quiet=true∧Pr (model prog w) A c' R s') (fun e s'=>R (.error e) s') s):
  Pr (model prog w) A (.call (.builtin "object.__setattr__") ⟨[.ref x,.str name tk,v],[]⟩) R s:=by
 have SF:=PySem.F.store_Exception
 have sub:Looks (model prog w) s.heap (isInstance (.ref x) (.type "object")) true:=I.type.andThen (looks_mroIn X (by unfold mroIn;rw [Y.at_,SP,Y.mro];rfl))
 refine TK SF.slot.plain SF.entry (@check_slot (model prog w) _ _ s "object.__setattr__" "object" "__setattr__" (.ref x) [.str name tk,v] [] _ SF.kind SF.split sub (SF.args (.ref x) (.str name tk) v) ?_)
 refine Nf fun nG=> ?_
 obtain ⟨attr,ha,hr⟩:=Pp.mp ht
 refine nG ?_
 have hm:Looks (model prog w) s.heap (mroOf (.ref C)) cd.mro:=(Vl X Y.at_).andThen .now
 have L3:Looks (model prog w) s.heap (storeTaker? attr) none:=by
  cases attr with
  |none=>cases hr;exact .now
  |some a=>
   obtain ⟨b,hb,e⟩:=Q1.mp hr
   refine (looks_takesIn X hb).andThen ?_
   cases b
   ·exact .now
   ·cases e
 rw [osa_eq,refuse_eq]
 refine No (No (I.type.here (No (hm.here ?_))))
 rw [Y.mro,pD,VS,VS,SF.passes]
 refine NE (No (I.type.here (No ((Ta X ha).here (No (L3.here ?_))))))
 exact h _
end
section
variable {prog:N2} {w:PK} {A:N4} {E:Nk→Nn→Prop} {s:Nn} {K:Frag} {C A' x t0:Addr} {cd:PT} {g:Heap} {ns:List Str} {name:Str} {v:Nk} {b:Bool} {tk:Tok}
theorem pB {dx:Addr} {m:Str→Nh Nk} {Q:PySem.Fin→Nn→Prop} (hn:s.heap.Ns1 dx m) (W:Within m ns) (hz:ns.length+1≤100)
  (hq:∀h' tk',h'.Ns1 dx (fun y=>if y=name then some v else m y)→Pe dx s.heap h'→Q (.done (.ret .none)) {s with heap:=h',toks:=tk'}):Ny (model prog w) A (storeInDict dx (.str name tk) name v) Q E s:=by
 unfold storeInDict newKeyGuard
 refine No (NE (No (wpAny_nsSet1 hn fun h' hn' hs=> ?_)))
 refine Nf fun nG=> ?_
 obtain ⟨oD,esD,epD,hoD,hdD,hcD⟩:=hn'.count (Vm name v W)
 refine nG ?_
 refine No (Va hoD (by rw [hdD];exact Vb (Ni hcD (by rw [OX,TJ];omega))) ?_)
 exact NE (hq h' _ hn' hs)
theorem zc {Q:PySem.Fin→Nn→Prop} (X:K.In s.heap) (S:rQ g s.heap x C t0 ns) (Y:pq K C A' cd) (hz:ns.length+1≤100)
  (hq:∀h' tk',rQ g h' x C t0 (name::ns)→Q (.done (.ret .none)) {s with heap:=h',toks:=tk'}):Ny (model prog w) A (storeInOwnDict (.ref x) (.ref C) (.str name tk) name v b) Q E s:=by
 obtain ⟨dd,hx,hd⟩:=S.obj
 refine No (NE (No (No (TI hx (No (Looks.here (Vl X Y.at_) ?_))))))
 rw [Y.dict]
 rcases hd with rfl|⟨dx,m,rfl,ne,gd,hn,W⟩
 ·have hx₁:=NM {cls:= .type "dict",data:= .dict #[]} hx
  have hxs:x≠s.heap.objs.size:=Q4 (NY hx)
  refine No (wpAny_alloc' ?_)
  refine No (wpAny_update' hx₁ ?_)
  refine NE ?_
  have hgd:((s.heap.push {cls:= .type "dict",data:= .dict #[]}).update x fun o=>{cls:=o.cls,dict:=some s.heap.objs.size,data:=o.data,slots:=o.slots}).get? s.heap.objs.size=some {cls:= .type "dict",data:= .dict #[]}:=(QD _ _ _ _ hxs.symm).trans (UP rfl rfl)
  refine pB (m:=fun _=>none) (ns:=[]) (Heap.Ns1.of_empty ⟨_,#[],_,hgd,rfl,fun e he=>absurd he (by simp),fun _=>rfl⟩) Within.nil (by decide) fun h' tk' hn' hs=>hq h' tk' ⟨fun b o e=> ?_,S.nx,_,(hs.2 x hxs).trans (Qp _ hx₁ rfl),.inr ⟨s.heap.objs.size,_,rfl,hxs.symm,?_,hn',?_⟩⟩
  ·have l:=S.keep b o e
   exact (hs.2 b (Q4 (NY l))).trans ((QD _ _ _ _ fun z=>by subst z;rw [S.nx] at e;cases e).trans (NM _ l))
  ·cases q:g.get? s.heap.objs.size with
   |none=>rfl
   |some o=>exact absurd (NY (S.keep _ _ q)) (Ou _)
  ·exact Vm name v fun _ h=>absurd rfl h
 ·refine NE (a:=some dx) ?_
  refine pB hn W hz fun h' tk' hn' hs=>hq h' tk' ⟨fun b o e=>(hs.2 b fun z=>by subst z;rw [gd] at e;cases e).trans (S.keep b o e),S.nx,_,(hs.2 x ne.symm).trans hx,.inr ⟨dx,_,rfl,ne,gd,hn',Vm name v W⟩⟩
end
end
section
open PySem PySem.W
set_option tactic.hygienic false
section
variable {prog:N2} {w:PK} {A:N4} {E:Nk→Nn→Prop} {s:Nn} {K:Frag} {C A' x t0:Addr} {cd:PT} {g:Heap} {ns:List Str} {name:Str} {v:Nk}
theorem rQ.inst {h:Heap} (S:rQ g h x C t0 ns):∃ox od,InstAt h x ox C od:=by
 obtain ⟨dd,hx,rfl|⟨dx,m,rfl,_,_,⟨o,_,_,e,_⟩,_⟩⟩:=S.obj
 ·exact ⟨_,none,hx,rfl,rfl,trivial⟩
 ·exact ⟨_,some o,hx,rfl,rfl,e⟩
theorem zw {Q:Unit→Nn→Prop} (X:K.In s.heap) (S:rQ g s.heap x C t0 ns) (Y:pq K C A' cd) (ht:takerIn K C name=some none) (hz:ns.length+1≤100)
  (hQ:∀h' tk,rQ g h' x C t0 (name::ns)→Q () {s with heap:=h',toks:=tk}):Ny (model prog w) A (setAttr (.ref x) name v) Q E s:=by
 refine Nf fun nG=> ?_
 obtain ⟨ox,od,I⟩:=S.inst
 refine nG ?_
 exact set_plain X I Y.set (ER (s:={s with toks:=s.toks+1}) X I Y ht fun b=>zc (s:={s with toks:=s.toks+1}) X S Y hz fun h' tk' S'=>hQ h' tk' S')
end
section
variable {prog:N2} {w:PK} {A:N4} {E:Nk→Nn→Prop} {s:Nn} {K:Frag}
theorem BR {pl:Sem Bool} {Q:Nk×List Nk→Nn→Prop} (X:K.In s.heap)
  (h:Q (.builtin "Exception.__init__",[]) {s with toks:=s.toks+1}):Ny (model prog w) A (getMethod (.type "Exception") (NB "__init__") pl) Q E s:=by
 have hstub:opaqueClassAbove (.type "Exception")=pure none:=by unfold opaqueClassAbove;dsimp only;rw [show Manifest.isStub "Exception"=false by decide+kernel];rfl
 have ht:typeOf (.type "Exception")=pure (.type "type"):=by first|rfl|kernel_rfl
 have L0:Looks (model prog w) s.heap (typeOf (.type "Exception")) (.type "type"):=Looks.of_pure ht
 have hg:findIn K (.type "type") "__getattribute__"=some (some (.builtin "type.__getattribute__")):=type_tga
 unfold getMethod specialOf
 refine No (No (L0.here ((Ta X hg).here ?_)))
 dsimp only
 rw [NG canon_tga]
 refine No (N3 (Q:=fun v=>Q (v,[])) (E:=E) ?_ (fun _ _ z=>NE z) fun _ _ z=>z)
 have LO:Looks (model prog w) s.heap (opaqueClassAbove (.type "Exception")) none:=Looks.of_pure hstub
 refine cls_open X LO L0 hg (looks_hook X (r:=none) (by rfl)) (by show subIn K _ _=_;rfl) (show findCls K (.type "Exception") (.type "type") "__init__"=some (.val (.builtin "Exception.__init__")) by rfl) ?_
 exact NE (by show Ny _ _ (handedOut _) _ _ _;rw [handedOut_of (by rfl)];exact NE h)
theorem xu {M:Model} {C A' x t0:Addr} {cd:PT} {g:Heap} {ns:List Str} {rest:List Nk} {Q:Unit→Nn→Prop} (X:K.In s.heap) (S:rQ g s.heap x C t0 ns) (Y:pq K C A' cd) (hq:Q () s):
  Ny M A (checkBuiltinCall "Exception.__init__" ⟨.ref x::rest,[]⟩) Q E s:=by
 have F:=Qy
 obtain ⟨ox,od,I⟩:=S.inst
 have sub:Looks M s.heap (isInstance (.ref x) (.type "Exception")) true:=I.type.andThen (looks_mroIn X (by unfold mroIn;rw [Y.at_,SP,Y.mro];rfl))
 have hx:=I.at_
 have hc:=I.cls
 have short:=F.noStar
 obtain ⟨c0,d0,sl,lC⟩:=Y.obj
 have hC:=X _ _ lC
 unfold checkBuiltinCall
 extract_lets sig jp
 rw [F.initKind,F.initSplit]
 show Ny M A (isInstance (.ref x) (.type "Exception")>>=_) _ _ _
 refine No (sub.here ?_)
 extract_lets
 show Ny M A (if (!true)=true then _ else _) _ _ _
 apply sG
 ·exact Bool.false_ne_true
 show Ny M A (match Manifest.signature? "Exception.__init__" with|some sig=>Bind.checkArgs "Exception.__init__" sig {pos:=QQ x::rest}|x=>pure ()) _ _ _
 rw [F.initRow]
 repeat (first|(with_reducible refine Pl hx ?_;rw [hc])|with_reducible refine Pl hC ?_ |wp_step)
 refine wpAny_onRaise ?_
 rw [show∀(a b:Q3) (n:Nat),Bind.check ⟨.positional,"*","Exception",.self,[⟨"args",.varPos,false⟩]⟩ a b n (SQ (fun x=>x.fst) ({pos:=QQ x::rest}:Args).kw)=pure () from fun a b n=>check_star_args _ _ _ _ _ _]
 exact NE hq
theorem C0 {C A' x t0:Addr} {cd:PT} {g:Heap} {a:Nk} {R:Qo→Nn→Prop} (X:K.In s.heap) (S:rQ g s.heap x C t0 []) (Y:pq K C A' cd)
  (hR:∀h' tk t1,rQ g h' x C t1 []→R (.ok (.ret .none)) {s with heap:=h',toks:=tk}):Pr (model prog w) A (.call (.builtin "Exception.__init__") ⟨[.ref x,a],[]⟩) R s:=by
 have F:=Qy
 refine TK F.init.plain F.initEntry (xu X S Y ?_)
 obtain ⟨dd,hx,hd⟩:=S.obj
 unfold Builtin.«BaseException.__init__»
 dsimp only
 rw [NV (by simp)]
 unfold newTuple Vn
 have hx₁:=NM {cls:= .type "tuple",data:= .seq #[a]} hx
 refine No (UL (No (No (wpAny_field hx₁ rfl (x:= .ref t0) rfl (No (wpAny_setField hx₁ rfl (by show 0 <6;decide) ?_))))) (by show 1≤PM;rw [TJ];decide))
 refine wpAny_letGo (NE (hR _ _ s.heap.objs.size ⟨fun b o e=> ?_,S.nx,dd,Qp _ hx₁ rfl,hd.imp id fun ⟨dx,m,e,ne,gd,hn,W⟩=>⟨dx,m,e,ne,gd,hn.at fun o q=> ?_,W⟩⟩))
 ·exact (QD _ _ _ _ fun z=>by subst z;rw [S.nx] at e;cases e).trans (NM _ (S.keep b o e))
 ·exact (QD _ _ _ _ ne).trans (NM _ q)
end
end
section
open PySem PySem.W PyProof.Rows
set_option tactic.hygienic false
theorem rQ.base {g g0 h:Heap} {x C t0:Addr} {ns:List Str} (S:rQ g h x C t0 ns) (k:∀b o,b≠x→g0.get? b=some o→g.get? b=some o) (n:g0.get? x=none):rQ g0 h x C t0 ns:=by
 have ne:∀b o,g0.get? b=some o→b≠x:=fun b o e z=>by subst z;rw [n] at e;cases e
 obtain ⟨dd,e,d⟩:=S.obj
 refine ⟨fun b o e=>S.keep b o (k b o (ne b o e) e),n,dd,e,d.imp id fun ⟨dx,m,e,nx,gd,r⟩=>⟨dx,m,e,nx,?_,r⟩⟩
 cases q:g0.get? dx with
 |none=>rfl
 |some o=>rw [k dx o nx q] at gd;cases gd
noncomputable def x9:Str:="self"
noncomputable def tb:Str:="what"
noncomputable def vR:Str:="at"
noncomputable def Gf:Str:="Exception"
noncomputable def Dr (sc:Po) (st:Stmt) (f:Str):Bool:=(pg sc x9 st).any fun q=>q.1==f&&(gR sc f&&cz q.2==some f)
noncomputable def Go (st:Stmt):Bool:=(Bc st).any fun r=>cz r.1==some Gf&&(r.2.1==("__init__":Str)&&(two r.2.2 fun a b=>(cz a).bind fun x=>(cz b).map fun y=>(x,y))==some (x9,tb))
noncomputable def Jh (sts:List Stmt) (f:Stmt→Stmt→Stmt→Bool):Bool:=jP sts fun a l=>Cq l (f a)
noncomputable def Hc (K:Frag) (a:Addr):Bool:=(Aq K a).any fun fd=>sP K fd&&(jA fd==[x9,tb,vR]&&((sE K fd).isSome&&([x9,tb,vR].all (fun x=>fd.scope.names.lookup x==some .local)&&(oG fd.scope Gf&&
 (mK fd.body).any fun body=>Jh body fun s1 s2 s3=>Go s1&&(gR fd.scope x9&&gR fd.scope tb)&&(Dr fd.scope s2 tb&&Dr fd.scope s3 vR)))))
section
variable {prog:N2} {w:PK} {A:N4} {E:Nk→Nn→Prop} {s:Nn} {K:Frag} {C A' x t0:Addr} {cd:PT} {g:Heap} {ns:List Str} {v:Nk} {env:Env} {m:Str→Nh Nk}
theorem GO {f:Str} {st:Stmt} {Q:Flow→Nn→Prop} (hc:Dr env.scope st f=true) (hk:env.scope.kind= .function) (gN:g.Ns env.locals m) (m1:m x9=some (.ref x)) (m2:m f=some v) (X:K.In g) (S:rQ g s.heap x C t0 ns) (Y:pq K C A' cd) (ht:takerIn K C f=some none) (hz:ns.length+1≤100)
  (h:∀h' tk,rQ g h' x C t0 (f::ns)→Q .next {s with heap:=h',toks:=tk}):Ny (model prog w) A (exec st env) Q E s:=by
 refine Nf fun nG=> ?_
 refine ax hc fun r h1 h2=> ?_
 obtain ⟨h3,zp,ap,pos,rfl⟩:=qA h1
 have h4:=ac h2
 have h5:=ac h4.2
 obtain ⟨yp,h7⟩:=aY (Nv h5.2)
 refine nG ?_
 rw [h7,Nv h4.1]
 exact P8 (hs:=by rfl) (gb hk (gN.keeps S.keep) h5.1 m2 (gb hk (gN.keeps S.keep) h3 m1 (zw (X.keeps S.keep) S Y ht hz h)))
end
section
variable {Z:Wd} {p:N2} {loose:List Str} {mg mb:Str→Nh Nk} {A:N4} {E:Nk→Nn→Prop} {s:Nn} {C A' x t0:Addr} {cd:PT} {g:Heap} {v:Nk} {env:Env} {m:Str→Nh Nk}
theorem Ir (O:Wd.Ok Z p loose mg mb) {st:Stmt} {Q:Flow→Nn→Prop} (hc:Go st=true) (hl:(gR env.scope x9&&gR env.scope tb)=true) (hx:oG env.scope Gf=true) (hn:nsIn Z.K N7 Gf=some none) (hk:env.scope.kind= .function) (glb:env.globals=N7) (blt:env.builtins=RY)
  (bs:∀b o,Z.base.get? b=some o→g.get? b=some o) (gN:g.Ns env.locals m) (m1:m x9=some (.ref x)) (m2:m tb=some v) (S:rQ g s.heap x C t0 []) (Y:pq Z.K C A' cd)
  (h:∀h' tk t1,rQ g h' x C t1 []→Q .next {s with heap:=h',toks:=tk}):Ny (model Z.prog Z.w) A (exec st env) Q E s:=by
 refine Nf fun nG=> ?_
 refine ax hc fun r h1 h2=> ?_
 have h3:=ac h2
 have h4:=ac h3.2
 refine af h1 fun e h12 h13=> ?_
 obtain ⟨pos,rfl⟩:=k9 h12
 obtain ⟨ap,cpos,rfl,hl'⟩:=iQ h13
 obtain ⟨np,h14⟩:=aY (Nv h3.1)
 refine qo (Nv h4.2) fun a b h15 h16=> ?_
 refine af h16 fun zn h17 h18=> ?_
 refine am h18 fun wn h19 h20=> ?_
 cases h20
 obtain ⟨zp,h21⟩:=aY h17
 obtain ⟨wp,h22⟩:=aY h19
 refine nG ?_
 have bs':∀b o,Z.base.get? b=some o→s.heap.get? b=some o:=fun b o e=>S.keep b o (bs b o e)
 rw [h14,h15,h21,h22,Nv h4.1]
 refine Rb (hi:=by unfold interactive;rw [hk];rfl) (hs:=by rfl) ?_
 refine ik (Z:=Z) (k:=1) (c:=⟨env.scope,[]⟩) (cs:=[.stuck,.stuck]) rfl hl' (by show 2 <20;decide) rfl ?_
 refine OY hk (by unfold PJ;exact Nv (ac hx).1) (QH (mg:=mg) (mb:=mb) (by rw [glb];exact O.T.g.keeps bs') (VL O.X O.T.g hn) (by rw [blt];exact O.T.b.keeps bs') ((O.T.builtins _ (by decide)).trans (show bootBuiltins Gf=some (.type "Exception") by first|rfl|kernel_rfl)) ?_) (cI (ac hx).2)
 intro pl
 refine BR (O.X.keeps bs') ?_
 refine iy (Z:=Z) (f:= .builtin "Exception.__init__") (.inl ⟨_,rfl⟩) rfl ?_
 rw [bz rfl]
 refine O1 (gb hk (gN.keeps S.keep) (ac hl).1 m1 ?_)
 rw [bz rfl]
 refine O1 (gb hk (gN.keeps S.keep) (ac hl).2 m2 (Pj ⟨O.X.keeps bs',PV ?_⟩))
 refine C0 (s:={s with toks:=_}) (O.X.keeps bs') S Y fun h' tk t1 S'=> ?_
 exact h h' tk t1 S'
end
theorem zU {sts:List Stmt} {f:Stmt→Stmt→Stmt→Bool} (h:Jh sts f=true):∃a b c,sts=[a,b,c]∧f a b c=true:=by
 refine ib h fun a l e1 h=> ?_
 refine Nf fun nG=> ?_
 obtain ⟨b,c,e2,h⟩:=lZ h
 refine nG ?_
 exact ⟨a,b,c,by rw [e1,e2],h⟩
section
variable {Z:Wd} {p:N2} {loose:List Str} {mg mb:Str→Nh Nk} {A:N4} {s:Nn} {C A' x t0:Addr} {cd:PT} {g:Heap} {v:Nk} {a:Addr}
theorem Hm (O:Wd.Ok Z p loose mg mb) {RR:Qo→Nn→Prop} (hE:Hc Z.K a=true) (hn:nsIn Z.K N7 Gf=some none) (Y:pq Z.K C A' cd) (k1:takerIn Z.K C tb=some none) (k2:takerIn Z.K C vR=some none) (hd:A.depth <recursionLimit)
  (bs:∀b o,Z.base.get? b=some o→g.get? b=some o) (kp:∀b o,g.get? b=some o→s.heap.get? b=some o) (nx:g.get? x=none) (hx:s.heap.get? x=some {cls:= .ref C,data:= .fields #[.ref t0,.none,.none,.none,.bool false,.none]}) (h:∀h' tk t1,rQ g h' x C t1 [vR,tb]→RR (.ok (.ret .none)) {s with heap:=h',toks:=tk}):Pr (model Z.prog Z.w) A (.call (.ref a) ⟨[.ref x,v],[]⟩) RR s:=by
 have bs':∀b o,Z.base.get? b=some o→s.heap.get? b=some o:=fun b o e=>kp b o (bs b o e)
 have KH:Z.K.In s.heap:=O.X.keeps bs'
 refine ax hE fun fd h1 h2=> ?_
 refine Nf fun nG=> ?_
 obtain ⟨o,h3,h4⟩:=mD h1
 refine nG ?_
 have R:=lH (ac h2).1
 have a1:=ac (ac h2).2
 have a2:=ac a1.2
 have a3:=ac a2.2
 have a4:=ac a3.2
 refine ax a4.2 fun body h5 h6=> ?_
 refine Nf fun nG=> ?_
 obtain ⟨s1,s2,s3,rfl,h7⟩:=zU h6
 have c1:=ac h7
 obtain ⟨d,hd'⟩:=Og.mp a2.1
 obtain ⟨T,oT,nT,d1,d2,d3⟩:=lh hd'
 refine nG ?_
 have loc:∀y∈[x9,tb,vR],fd.scope.names.lookup y=some .local:=fun y my=>Nv (NC.mp a3.1 y my)
 have nd:[x9,tb,vR].Nodup:=by decide
 have b:=nF (s:=s) (vs:=[.ref x,v]) (ds:=[d]) R.ns (Nv a1.1▸nd) (by rw [Nv a1.1];exact NQ 2) (by rw [Nv a1.1];exact Nz 3) (Nz 1) (by rw [Nv a1.1];exact P4 1 2) (.inr ⟨T,oT,nT,d1,KH _ _ d2,d3⟩)
 rw [Nv a1.1] at b
 refine nv hd (KH _ _ h3) h4 (O.T.nolimit.keeps bs') (VQ KH R.code) (iJ h5) b R.clo (fun y hy=> .inl (loc y.1 ?_)) (fun s₁ xx=> ?_) R.co R.gen R.kind
 ·rcases NN.mp hy with rfl|hy
  ·exact .head _
  rcases NN.mp hy with rfl|hy
  ·exact .tail _ (.head _)
  ·exact .tail _ (.tail _ (NU.mp hy▸ .head _))
 refine Nf fun nG=> ?_
 obtain ⟨h₁,tk,rfl,keep⟩:=xx.done
 refine nG ?_
 have lx:(Oc fd s.heap.objs.size a).locals≠x:=fun z=>Ou _ (z▸NY hx)
 have up:∀b o,b≠x→h₁.get? b=some o→(h₁.hide x).get? b=some o:=fun b o n e=>(UQ h₁ n).trans e
 have gN:=xx.toInCall.ns.at' (h':=h₁.hide x) fun o e=>up _ o lx e
 have S1:rQ (h₁.hide x) h₁ x C t0 []:=⟨fun b o e=>Heap.of_hide e,VT h₁ x,none,keep _ _ hx,.inl rfl⟩
 have bx:∀b o,Z.base.get? b=some o→(h₁.hide x).get? b=some o:=fun b o e=>up b o (fun z=>by have:=bs _ _ e;rw [z,nx] at this;cases this) (keep b o (bs' b o e))
 have X1:Z.K.In (h₁.hide x):=O.X.keeps bx
 have bm:∀y w,(y,w)∈[(x9,.ref x),(tb,v),(vR,d)]→y∈[x9,tb,vR]→bindL (Oc fd s.heap.objs.size a).kindOf [(x9,.ref x),(tb,v),(vR,d)] (fun _=>none) y=some w:=fun y w q l=>(lV (by exact nd) q).1 (loc _ l)
 have ms:=bm x9 (.ref x) (.head _) (.head _)
 have mw:=bm tb v (.tail _ (.head _)) (.tail _ (.head _))
 have ma:=bm vR d (.tail _ (.tail _ (.head _))) (.tail _ (.tail _ (.head _)))
 have c2:=ac c1.2
 have c0:=ac c1.1
 refine Ol (Ir (s:={s with heap:=h₁,toks:=tk}) O c0.1 c0.2 a4.1 hn R.kind R.glb R.blt bx gN ms mw S1 Y fun h2 t2 u2 S2=> ?_)
 refine Ol (GO (s:={s with heap:=h2,toks:=t2}) c2.1 R.kind gN ms mw X1 S2 Y k1 (by decide) fun h3 t3 S3=> ?_)
 refine Ol (GO (s:={s with heap:=h3,toks:=t3}) c2.2 R.kind gN ms ma X1 S3 Y k2 (by decide) fun h4 t4 S4=> ?_)
 exact P1 (h h4 t4 u2 (S4.base (fun b o n e=>up b o n (keep b o (kp b o e))) nx))
end
noncomputable def yd:Q3:="Exception.__new__"
noncomputable def MG (l:List (Nh Nk)):Bool:=jP l fun _ l=>jP l fun _ l=>jP l fun _ l=>jP l fun _ l=>jP l fun k l=>k==some (.builtin yd)&&jP l fun _ l=>l.isEmpty
theorem EH {l:List (Nh Nk)} (h:MG l=true):∃a b c d e,l=[a,b,c,d,some (.builtin yd),e]:=by
 refine Nf fun nG=> ?_
 refine ib h fun a l1 e1 h1=> ?_
 refine ib h1 fun b l2 e2 h2=> ?_
 refine ib h2 fun c l3 e3 h3=> ?_
 refine ib h3 fun d l4 e4 h4=> ?_
 refine ib h4 fun k l5 e5 h5=> ?_
 have h6:=ac h5
 refine ib h6.2 fun e l6 e6 h7=> ?_
 exact nG ⟨a,b,c,d,e,by rw [e1,e2,e3,e4,e5,e6,aE h7,Nv h6.1]⟩
noncomputable def Hn (K:Frag) (C A':Addr):Bool:=(K.lookup C).any fun o=>o.cls== .type "type"&&(x7 o.data).any fun cd=>cd.mro==pD C A'&&(!cd.hasDel&&(cd.hasDict&&MG o.slots.toList))
theorem BE {K:Frag} {C A':Addr} (q:Hn K C A'=true):∃nm qn N bs sn sub ab col dd k0 k1 k2 k3 k5,K.lookup C=some (excClassObj nm qn C N bs (.ref A'::[.type "Exception",.type "BaseException",.type "object"]) true sn sub ab col dd k0 k1 k2 k3 k5 yd):=by
 refine Nf fun nG=> ?_
 obtain ⟨⟨c,dd,d,⟨sl⟩⟩,ho,q⟩:=bO q
 have q:=ac q
 obtain ⟨⟨nm,bs,mro,ns,qn,hd,sn,sub,ab,col,del⟩,h1,h2⟩:=bO q.2
 have q1:=ac h2
 have q2:=ac q1.2
 have q3:=ac q2.2
 obtain ⟨k0,k1,k2,k3,k5,e⟩:=EH q3.2
 have e0:c= .type "type":=Nv q.1
 have e1:mro=pD C A':=Nv q1.1
 have e2:del=false:=cI q2.1
 have e3:hd=true:=q3.1
 have e4:d=_:=sk h1
 have e5:sl=_:=e
 rw [e4,e0,e1,e2,e3,e5] at ho
 exact nG ⟨nm,qn,ns,bs,sn,sub,ab,col,dd,k0,k1,k2,k3,k5,ho⟩
section
variable {prog:N2} {w:PK} {A:N4} {E:Nk→Nn→Prop} {env:Env}
variable {nm q:Str} {C N:Addr} {bs bm:List Nk} {hdct:Bool} {sn:List Str} {sub:List Nk} {ab:Bool} {col:Nh Bool} {dd:Nh Addr} {k0 k1 k2 k3 k5:Nh Nk} {newId:Q3}
theorem wK {s:Nn} {y:Sem Nk} {Q:Flow→Nn→Prop} (hbase:bm.contains (.type "BaseException")=true) (hh:A.handled=none)
  (h:Ny (model prog w) A y (fun v s₁=>∃e t dx,v= .ref e∧s₁.heap.get? C=some (excClassObj nm q C N bs bm hdct sn sub ab col dd k0 k1 k2 k3 k5 newId)∧
   s₁.heap.get? e=some {cls:= .ref C,dict:=dx,data:= .fields #[.ref t,.none,.none,.none,.bool false,.none]}∧E (.ref e) s₁) E s):
  Ny (model prog w) A (raiseStmt env (some y) none) Q E s:=by
 have hcB:(QQ C::bm).contains (.type "BaseException")=true:=by rw [Uu,hbase,Bool.or_true]
 unfold raiseStmt
 refine No (N3 h (fun v s₁ h₁=> ?_) fun _ _ x=>x)
 refine Nf fun nG=> ?_
 obtain ⟨e,t,dx,rfl,hC,he,hE⟩:=h₁
 obtain ⟨hp,g,d,tk,os⟩:=s₁
 refine nG ?_
 repeat (first|with_reducible refine Pl he ?_ |with_reducible refine Pl hC ?_ |(with_reducible refine QC hC ?_;rw [hcB])|wp_step)
 exact wpAny_raiseNew_none hh hE
end
structure GX (K:Frag):Prop where
 cls:Hn K 59 46=true
 at_:∃cd,pq K 59 46 cd
 nm:nsIn K N7 tY=some (some (.ref 59))
 kp:keepIn K (.ref 59)=true
 ini:findIn K (.ref 59) "__init__"=some (some (.ref 36))
 fn:typeIn K (.ref 36)=some (.type "function")
 chk:Hc K 36=true
 exc:nsIn K N7 Gf=some none
 t1:takerIn K 59 tb=some none
 t2:takerIn K 59 vR=some none
section
variable {Z:Wd} {p:N2} {loose:List Str} {mg mb:Str→Nh Nk} {A:N4} {E:Nk→Nn→Prop} {s:Nn} {env:Env} {n:Nat}
theorem Iu (O:Wd.Ok Z p loose mg mb) (G:GX Z.K) (R:aN n A) (bs:∀b o,Z.base.get? b=some o→s.heap.get? b=some o) {v:Nk} {Q:Nk→Nn→Prop}
  (h:∀h' tk e t1,rQ s.heap h' e 59 t1 [vR,tb]→Q (.ref e) {s with heap:=h',toks:=tk}):Ny (model Z.prog Z.w) A (call (.ref 59) [v]) Q E s:=by
 have X:=O.X.keeps bs
 refine Nf fun nG=> ?_
 obtain ⟨nm,qn,N,b,sn,sub,ab,col,dd,k0,k1,k2,k3,k5,l⟩:=BE G.cls
 obtain ⟨cd,Y⟩:=G.at_
 obtain ⟨hp,g,d,t,os⟩:=s
 refine nG ?_
 refine zq (B:="Exception") (initId:="Exception.__init__") Qy (qG.own 46) (X _ _ l) X G.ini G.fn (by show 1≤PM;rw [TJ];decide) (PV ?_)
 refine Hm (g:=hp) (t0:=hp.objs.size) O G.chk G.exc Y G.t1 G.t2 (A1 (pS R).depth) bs (fun b o e=>mT e) ?_ yi fun h' tk t1 S=>⟨rfl,h h' tk _ t1 S⟩
 ·cases q:hp.get? (hp.objs.size+1) with
  |none=>rfl
  |some o=>exact absurd (NY q) (Pt.mpr (NQ _))
theorem Fy (O:Wd.Ok Z p loose mg mb) (G:GX Z.K) (R:aN n A) (hk:env.scope.kind= .function) (glb:env.globals=N7) (hx:oG env.scope tY=true) (bs:∀b o,Z.base.get? b=some o→s.heap.get? b=some o) {np cpos pos kp:Pos} {kk:Nat} {msg:Str} {Q:Flow→Nn→Prop}
  (h:∀h' tk e t1,rQ s.heap h' e 59 t1 [vR,tb]→E (.ref e) {s with heap:=h',toks:=tk}):Ny (model Z.prog Z.w) A (exec (.Raise (some (.Call (.Name tY np) [.Constant (.str msg) kk kp] [] cpos)) none pos) env) Q E s:=by
 refine Nf fun nG=> ?_
 obtain ⟨nm,qn,N,b,sn,sub,ab,col,dd,k0,k1,k2,k3,k5,l⟩:=BE G.cls
 refine nG ?_
 rw [arm_exec_Raise]
 refine No (OI (wK (C:=59) (nm:=nm) (q:=qn) (N:=N) (bs:=b) (bm:= .ref 46::[.type "Exception",.type "BaseException",.type "object"]) (hdct:=true) (sn:=sn) (sub:=sub) (ab:=ab) (col:=col) (dd:=dd) (k0:=k0) (k1:=k1) (k2:=k2) (k3:=k3) (k5:=k5) (newId:=yd) (by rfl) R.calm ?_))
 refine No (N3 (Pk (OY hk (by unfold PJ;exact Nv (ac hx).1) (Qe (mg:=mg) (by rw [glb];exact O.T.g.keeps bs) (mg_of O.X O.T.g G.nm) ?_) (cI (ac hx).2))) (fun v s₃ h₃=>No (OI (NE h₃))) fun _ _ x=>x)
 refine iy (Z:=Z) (f:= .ref 59) (.inr (.inr G.kp)) rfl ?_
 rw [bz rfl]
 refine O1 (R0 (pos:=kp) (k:=kk) (Pj ⟨O.X.keeps bs,Iu (s:={s with toks:=s.toks+1}) O G R bs fun h' tk e t1 S=> ?_⟩))
 obtain ⟨dx,he,_⟩:=S.obj
 exact ⟨e,t1,dx,rfl,S.keep _ _ (O.X.keeps bs _ _ l),he,h h' tk e t1 S⟩
end
noncomputable def KN (K:Frag):Bool:=Hn K 59 46&&((((K.lookup 59).bind fun o=>x7 o.data).any fun cd=>cd.mro==pD 59 46&&cd.hasDict)&&(xd (findIn K (.ref 59) "__setattr__") "object.__setattr__"&&(jv (nsIn K N7 tY) 59&&(keepIn K (.ref 59)&&(jv (findIn K (.ref 59) "__init__") 36&&
 (typeIn K (.ref 36)==some (.type "function")&&(Hc K 36&&(fZ (nsIn K N7 Gf)&&(fZ (takerIn K 59 tb)&&fZ (takerIn K 59 vR))))))))))
theorem yU {K:Frag} {C:Addr} {cd:PT} (h:((K.lookup C).bind fun o=>x7 o.data)=some cd):∃c0 d0 sl,K.lookup C=some {cls:=c0,dict:=d0,data:= .cls cd,slots:=sl}:=by
 obtain ⟨⟨c0,d0,_,sl⟩,e,h⟩:=Pp.mp h
 exact ⟨c0,d0,sl,sk h▸e⟩
theorem Hp {K:Frag} (g:KN K=true):GX K:=by
 have a1:=ac g
 have a2:=ac a1.2
 have a3:=ac a2.2
 have a4:=ac a3.2
 have a5:=ac a4.2
 have a6:=ac a5.2
 have a7:=ac a6.2
 have a8:=ac a7.2
 have a9:=ac a8.2
 have b:=ac a9.2
 refine ax a2.1 fun cd h1 h2=> ?_
 have h3:=ac h2
 exact ⟨a1.1,⟨cd,yU h1,Nv h3.1,h3.2,Nv a3.1⟩,Nv a4.1,a5.1,Nv a6.1,Nv a7.1,a8.1,Nv a9.1,Nv b.1,Nv b.2⟩
section
variable {Z:Wd} {n:Nat} {E:Ev} {p:N2} {loose:List Str} {mg mb:Str→Nh Nk}
theorem wS {sc:Po} {st:Stmt} (h:xN sc st=true):oG sc tY=true∧∃np msg kk kp cpos pos,st= .Raise (some (.Call (.Name tY np) [.Constant (.str msg) kk kp] [] cpos)) none pos:=by
 refine Nf fun nG=> ?_
 refine ax h fun q h1 h2=> ?_
 obtain ⟨pos,e0⟩:=uz h1
 have h4:=ac h2
 refine ax h4.2 fun e e1 h6=> ?_
 refine ax h6 fun r h7 h8=> ?_
 obtain ⟨np,cpos,e2⟩:=cW h7
 have h10:=ac h8
 have h11:=ac h10.2
 refine hO h11.2 fun a e3 h13=> ?_
 refine ax h13 fun kc h14 h15=> ?_
 obtain ⟨kk,kp,e4⟩:=gT h14
 obtain ⟨msg,e5⟩:=Og.mp h15
 exact nG ⟨h11.1,np,msg,kk,kp,cpos,pos,by rw [e0,e1,Oz.mp h4.1,e2,e3,e4,uJ e5,Nv h10.1]⟩
section
variable {d k m:Nat} {c:Ctx} {st:Stmt} {env:Env} {A:N4} {s:Nn} {ρ:Loc} {σ:ag} {CA:List Addr} {D:Addr→Prop} {r:fg×Loc×ag}
theorem KD (SB:gX Z n E) (SS:ji Z n E) (SX:wY Z n E) {t:CE} {a b:List CS} (hc:cA Z.fname m c (k+1) st (.ite t a b)=true) (hx:Ae c.sc (d+1) st (.ite t a b)=true) (EO:az env c) (S:St Z env c.vars ρ CA σ D s.heap) (R:aN n A) (ev:dX Z.P E (.ite t a b) ρ σ=some r) (ho:r.1= .exc):LD Z A env CA (exec st env) s:=by
 refine Nf fun nG=> ?_
 refine FV hc fun y z w pos h1 e b1 b2 b3=> ?_
 refine ax hx fun q' h3 h6=> ?_
 rw [←Ng (h1.symm.trans h3)] at h6
 have h6:=ac h6
 refine nG (e▸fun Q X P h=>af ev fun q e1 ev=>wpAny_If (SB m c _ t b1 env A s ρ σ CA D q.1 q.2 EO S R (jj e1) _ _ fun h1 t1 k1 c1=> ?_))
 have a1:cu Z (Ws env CA) env c.vars CA D s.heap (.next,ρ,q.2) .next h1 CA D:= .of S k1 c1 rfl
 have go:=fun {sts css} hc hx e2=>tU (d:=d) (k:=k) (m:=m) (sts:=sts) (css:=css) SS SX EO R hc hx (s:={s with heap:=h1,toks:=t1}) a1.st e2 ho Q X P fun h2 t2 e z=>h h2 t2 e (z.seq a1)
 cases hb:q.1 with
 |true=>rw [hb] at ev;exact go b2 h6.1 ev
 |false=>rw [hb] at ev;exact go b3 h6.2 ev
end
theorem zB (O:Wd.Ok Z p loose mg mb) (G:GX Z.K) (SE:bK Z n E) (SB:gX Z n E) (SS:ji Z n E) (SX:wY Z n E):wY Z (n+1) (step Z.P E):=by
 intro d k m c st cs hc hx env A s ρ σ CA D r EO S R ev ho
 refine Nf fun nG=> ?_
 cases d with
 |zero=>cases hx
 |succ d=>
 cases k with
 |zero=>cases hc
 |succ k=>
 have R':aN n A:=R.less (NQ _)
 cases cs with
 |for_ t it body=>
  refine F9 hc fun ct ci cb p h1 e b1 b2=> ?_
  refine ax hx fun q' h3 hx=> ?_
  rw [←Ng (h1.symm.trans h3)] at hx
  exact nG (e▸fun Q X P h=>xR (P:=Z.P) O SE SS b1 b2 EO S R' ev ⟨fun z=>(by rw [ho] at z;cases z),fun _=>⟨SX,⟨d,hx⟩,P,h⟩⟩)
 |ite t a b=>exact nG (KD SB SS SX hc hx EO S R' ev ho)
 |raise_=>
  obtain ⟨gl,np,msg,kk,kp,cpos,pos,e⟩:=wS hx
  refine nG (e▸fun Q X P h=>Fy O G R (EO.sc▸EO.kind) EO.glb (EO.sc▸gl) S.base fun h' tk e t1 z=>h h' tk e ?_)
  exact ⟨aw.of_all z.keep,let ⟨m,q⟩:=S.ns;⟨m,q.keeps z.keep⟩,z.nx,let ⟨dx,q,_⟩:=z.obj;⟨dx,t1,q⟩⟩
 |assign i e=>
  unfold step dX at ev
  dsimp only at ev
  cases hq:e.comp? with
  |none=>
   rw [hq] at ev
   exact af ev fun q e1 ev=>by cases Ng ev;cases ho
  |some q=>
   rw [hq] at ev
   exact af ev fun rr e1 ev=>by obtain ⟨hz,ev⟩:=bU ev;cases Ng ev;cases ho
 |_=>cases hx
end
section
variable {Z:Wd} {n:Nat} {p:N2} {loose:List Str} {mg mb:Str→Nh Nk}
theorem CP (O:Wd.Ok Z p loose mg mb) (G:GX Z.K) (S:∀n,Mr Z n (run Z.P n)):∀n,wY Z n (run Z.P n):=fun n=>by
 induction n with
 |zero=>intro _ _ _ _ _ _ _ _ _ _ _ _ _ _ _ _ _ _ _ ev;cases ev
 |succ n ih=>exact zB O G (S n).e (S n).b (S n).s ih
end
section
variable {Z:Wd} {n:Nat} {E:Ev} {p:N2} {loose:List Str} {mg mb:Str→Nh Nk} {A:N4} {s:Nn} {B:Heap} {outer:List Env}
structure jy (A:N4) (B:Heap) (outer:List Env) (h:Heap):Prop where
 fr:A.frames=some outer
 st:B.StaysIn h
 fs:h.FunFrames B outer
theorem LC (O:Wd.Ok Z p loose mg mb) (SS:ji Z n E) (SX:wY Z n E) {a:Addr} {fn:Fn} {fo:Obj} {fd:OC} {body:List Stmt} {ps:List Str} {c:Ctx} {k m d:Nat} (F:F5 Z a fn fo fd body ps c k m) (hx:bG (Ae c.sc d) body fn.body=true) {args:List aA} {σ:ag} {r:fg×Loc×ag} (hn:args.length≤fn.np) (hn2:fn.np≤args.length+fn.dflts.length)
  (e1:aH E fn.body (gz fn args) σ=some r) (ho:r.1= .exc) {vs:List Nk} {D:Addr→Prop} (R:aN (n+1) A) (G:Gg Z [] σ D s.heap) (rs:bS Z [] D s.heap vs args) (C:jy A B outer s.heap) {RR:Qo→Nn→Prop}
  (hR:∀h' tk e t,UR B outer e (.ref 59) (.ref t) h'→s.heap.UpToSlots h'→RR (.error (.ref e)) {s with heap:=h',toks:=tk}):Pr (model Z.prog Z.w) A (.call (.ref a) ⟨vs,[]⟩) RR s:=
 jf O F hn hn2 R G rs fun h₁ tk x=>tU SS SX x.eo R.into F.chk hx (s:={s with heap:=h₁,toks:=tk}) x.st e1 ho _ _ PassesOwn.leaving fun h2 t2 e z=>by
  refine Nf fun nG=> ?_
  obtain ⟨dx,t,he⟩:=z.obj
  obtain ⟨mm,hm⟩:=z.ns
  refine nG ?_
  have kp:∀b o,s.heap.get? b=some o→h2.get? b=some o:=fun b o q=>z.keep b o (x.keep b o q) fun w=>w.elim (fun w=>nomatch w) fun w=>absurd (NY q) (Pt.mpr (x.new b (B6 w)))
  have nB:∀b,s.heap.get? b=none→B.get? b=none:=fun b q=>by
   cases q':B.get? b with
   |none=>rfl
   |some o=>have:=C.st b o q';rw [q] at this;cases this
  have ne:s.heap.get? e=none:=by
   cases q:s.heap.get? e with
   |none=>rfl
   |some o=>have:=x.keep _ _ q;rw [z.new] at this;cases this
  have hL:s.heap.get? (Oc fd s.heap.objs.size a).locals=none:=ee s.heap
  have fo:=C.fs.of_keeps fun b o q _=>⟨o,kp b o q,rfl⟩
  have fs:h2.FunFrames B (Oc fd s.heap.objs.size a::outer):=TX (by show fd.scope.kind≠_;rw [F.kind];exact fun z=>nomatch z) rfl hm (nB _ hL) fo
  refine wpAny_leaving_firstW (Rv C.fr) fs rfl he (fun b o q=>kp b o (C.st b o q)) (nB _ ne) rfl rfl rfl fun h' hl=> ?_
  refine Nf fun nG=> ?_
  obtain ⟨q1,q2,q3,q4⟩:=hl
  refine nG ?_
  exact hR h' t2 e t ⟨q1,nB _ ne,q2.2.2,q3⟩ ((Qh kp).trans q4)
end
section
variable {Z:Wd} {n:Nat} {E:Ev} {p:N2} {loose:List Str} {mg mb:Str→Nh Nk} {A:N4} {s:Nn} {c:Ctx} {env:Env} {ρ:Loc} {σ σ1:ag} {CA:List Addr} {D:Addr→Prop}
theorem xL (O:Wd.Ok Z p loose mg mb) (SE:bK Z n E) {m i:Nat} {v:Expr} {cs:List CE} (hv:au Z.fname m c v (.callF i cs)=true) (EO:az env c) (S:St Z env c.vars ρ CA σ D s.heap) (R:aN n A) {Us:List aA} (e1:kL E cs ρ σ=some (Us,σ1)) {Q:Nk→Nn→Prop} {X:Nk→Nn→Prop}
  (h:∀vs h1 t1,aw (We CA) s.heap h1→aF Z CA σ1 D h1→bS Z CA D h1 vs (Us.map aA.bind)→Ny (model Z.prog Z.w) A (call (.ref (Z.fa i)) vs) Q X {s with heap:=h1,toks:=t1}):Ny (model Z.prog Z.w) A (eval v env) Q X s:=by
 cases m with
 |zero=>cases hv
 |succ m=>
  refine Nf fun nG=> ?_
  obtain ⟨⟨f,args⟩,h3,h4⟩:=bO hv
  obtain ⟨np,cpos,rfl⟩:=cW h3
  obtain ⟨o1,o2⟩:=O.fn _ _ (Nv (ac (ac h4).2).1)
  refine nG ?_
  exact Pk (ki O EO S.base (ac h4).1 o1 (iy (.inr (.inr o2)) (eg (ac (ac h4).2).2 _ _).1 (jd SE EO R (ac (ac h4).2).2 S e1 fun vs h1 t1 k1 c1 r1=>⟨O.X.keeps (S.toGd.step k1 c1).base,h vs h1 t1 k1 c1 r1⟩)))
theorem ss (O:Wd.Ok Z p loose mg mb) (SE:bK Z n E) {m i:Nat} {v:Expr} {cs:List CE} {pos:Pos} (h2:eM v=true) (hv:au Z.fname m c v (.callF i cs)=true) (EO:az env c) (S:St Z env c.vars ρ CA σ D s.heap) (R:aN n A) {Us:List aA} (e1:kL E cs ρ σ=some (Us,σ1)) {Q:Flow→Nn→Prop} {X:Nk→Nn→Prop}
  (h:∀vs h1 t1,aw (We CA) s.heap h1→aF Z CA σ1 D h1→bS Z CA D h1 vs (Us.map aA.bind)→Ny (model Z.prog Z.w) A (call (.ref (Z.fa i)) vs) (fun _ s'=>Q .next s') X {s with heap:=h1,toks:=t1}):Ny (model Z.prog Z.w) A (exec (.Expr v pos) env) Q X s:=
 Rb (hi:=qk EO) (hs:=ez h2) (xL O SE hv EO S R e1 h)
end
section
variable {Z:Wd} {n:Nat} {E:Ev} {p:N2} {loose:List Str} {mg mb:Str→Nh Nk} {A:N4} {s:Nn} {B:Heap} {outer:List Env}
noncomputable def Cn (Z:Wd) (n a:Nat) (args:List aA):Prop:=∀(A:N4) (B:Heap) (outer:List Env) (s:Nn) (D:Addr→Prop) (vs:List Nk),aN n A→Gg Z [] [] D s.heap→bS Z [] D s.heap vs args→jy A B outer s.heap→∀RR:Qo→Nn→Prop,
 (∀h' tk e t,UR B outer e (.ref 59) (.ref t) h'→s.heap.UpToSlots h'→RR (.error (.ref e)) {s with heap:=h',toks:=tk})→Pr (model Z.prog Z.w) A (.call (.ref a) ⟨vs,[]⟩) RR s
theorem jy.push {fd:OC} {a:Addr} {c:Ctx} {ρ:Loc} {σ:ag} {CA:List Addr} {D:Addr→Prop} {h:Heap} (C:jy A B outer s.heap) (hk:fd.scope.kind= .function) (x:MS Z (Oc fd s.heap.objs.size a) c ρ CA σ D s.heap h):jy (A.deeper (Oc fd s.heap.objs.size a)) B (Oc fd s.heap.objs.size a::outer) h:=by
 obtain ⟨mm,hm⟩:=x.st.ns
 have nn:B.get? s.heap.objs.size=none:=by
  cases q':B.get? s.heap.objs.size with
  |none=>rfl
  |some o=>exact absurd (NY (C.st _ o q')) (Ou _)
 refine ⟨Rv C.fr,fun b o q=>x.keep b o (C.st b o q),TX (by show fd.scope.kind≠_;rw [hk];exact fun z=>nomatch z) rfl hm nn (C.fs.of_keeps fun b o q _=>⟨o,x.keep b o q,rfl⟩)⟩
end
section
variable {Z:Wd} {n:Nat} {E:Ev} {p:N2} {loose:List Str} {mg mb:Str→Nh Nk}
theorem Mj (O:Wd.Ok Z p loose mg mb) (SE:bK Z n E) {a i:Nat} {fn:Fn} {fo:Obj} {fd:OC} {body:List Stmt} {ps:List Str} {c:Ctx} {k m:Nat} (F:F5 Z a fn fo fd body ps c k m) {cs:List CE} {css:List CS} (hb:fn.body= .expr (.callF i cs)::css) {args us:List aA} (hn:args.length≤fn.np) (hn2:fn.np≤args.length+fn.dflts.length)
  (e1:kL E cs (gz fn args) []=some (us,[])) (H:Cn Z n (Z.fa i) (us.map aA.bind)):Cn Z (n+1) a args:=fun A B outer s D vs R G rs C RR hR=>
 jf O F hn hn2 R G rs fun h₁ tk x=>by
  have ck:=F.chk
  rw [hb] at ck
  cases body with
  |nil=>cases ck
  |cons st sts=>
  have ck:(cA Z.fname m c k st (.expr (.callF i cs))&&bG (cA Z.fname m c k) sts css)=true:=ck
  cases k with
  |zero=>cases (ac ck).1
  |succ k=>
  refine Nf fun nG=>v5 (ac ck).1 fun v pos he h1 h2=>nG ?_
  rw [he]
  have C1:=C.push F.kind x
  refine Ol (ss (s:={s with heap:=h₁,toks:=tk}) O SE h1 h2 x.eo x.st R.into e1 fun vs' h2 t2 k2 c2 r2=>PV ?_)
  have kp:∀b o,h₁.get? b=some o→h2.get? b=some o:=fun b o q=>k2 b o q fun w=>nomatch w
  have C2:jy (A.deeper (Oc fd s.heap.objs.size a)) B (Oc fd s.heap.objs.size a::outer) h2:=⟨C1.fr,fun b o q=>kp b o (C1.st b o q),C1.fs.of_keeps fun b o q _=>⟨o,kp b o q,rfl⟩⟩
  refine H _ B _ {s with heap:=h2,toks:=t2} _ vs' R.into (x.st.toGd.step k2 c2).gg r2 C2 _ fun h' t' e t fl up=> ?_
  exact wpAny_leaves_onW C1.fr rfl fl fun h'' fl' up'=>hR h'' t' e t fl' ((Qh fun b o q=>kp b o (x.keep b o q)).trans (up.trans up'))
end
structure LV (Z:Wd) (m k:Nat) (c:Ctx) (st:Stmt) (cs:CS) (st1:Stmt) (np p1 p2 p3 rp:Pos) (kk:Nat):Prop where
 eq:st= .Try [st1] [.ExceptHandler (some (.Name tY np)) none [.Return (some (.Constant (.bool true) kk p1)) rp] p2] [] [] p3
 chk:cA Z.fname m c k st1 cs=true
 gl:eW c tY=true
theorem uw {k:T5} {b:Bool} (h:tH k=some (.bool b)):k= .bool b:=by
 cases k with
 |bool=>exact Nt Const.bool (V.bool.inj (Ng h))
 |str=>obtain ⟨_,h⟩:=bU h;exact V.noConfusion (Ng h)
 |_=>first|exact V.noConfusion (Ng h)|cases h
theorem Et {f:Stmt→CS→Bool} {l:List Stmt} {cs:CS} (h:bG f l [cs]=true):∃st,l=[st]∧f st cs=true:=by
 cases l with
 |nil=>cases h
 |cons st l=>
  have h:=ac (show (f st cs&&bG f l [])=true from h)
  cases l with
  |nil=>exact ⟨st,rfl,h.1⟩
  |cons a b=>cases h.2
theorem Bn {Z:Wd} {m k:Nat} {c:Ctx} {st:Stmt} {b:Bool} (h:cA Z.fname m c k st (.ret (.cst (.bool b)))=true):∃kk p rp,st= .Return (some (.Constant (.bool b) kk p)) rp:=by
 refine Nf fun nG=> ?_
 cases k with
 |zero=>cases h
 |succ k=>
 refine A6 h fun v rp e1 h10=> ?_
 cases m with
 |zero=>cases h10
 |succ m=>
 refine ax h10 fun kc h11 h12=> ?_
 obtain ⟨kk,p1,e3⟩:=gT h11
 exact nG ⟨kk,p1,rp,by rw [e1,e3,uw (Nu h12)]⟩
theorem Hf {Z:Wd} {m k:Nat} {c:Ctx} {hd:ExceptHandler} (h:(H6 hd).any (fun r=>r.1==tY&&(eW c tY&&bG (cA Z.fname m c k) r.2 [.ret (.cst (.bool true))]))=true):eW c tY=true∧∃np p1 p2 rp kk,hd= .ExceptHandler (some (.Name tY np)) none [.Return (some (.Constant (.bool true) kk p1)) rp] p2:=by
 refine Nf fun nG=> ?_
 refine ax h fun r h1 h2=> ?_
 obtain ⟨np,p2,e1⟩:=Bh h1
 have a1:=ac h2
 have a2:=ac a1.2
 obtain ⟨st,e2,h3⟩:=Et a2.2
 obtain ⟨kk,p1,rp,e3⟩:=Bn h3
 exact nG ⟨a2.1,np,p1,p2,rp,kk,by rw [e1,e2,e3,Nv a1.1]⟩
theorem yH {Z:Wd} {m k:Nat} {c:Ctx} {st:Stmt} {cs:CS} (h:cA Z.fname m c k st (.try_ [cs] [.ret (.cst (.bool true))])=true):∃k' st1 np p1 p2 p3 rp kk,LV Z m k' c st cs st1 np p1 p2 p3 rp kk:=by
 refine Nf fun nG=> ?_
 cases k with
 |zero=>cases h
 |succ k=>
 refine ax h fun q h1 h2=> ?_
 obtain ⟨p3,e0⟩:=zN h1
 have a1:=ac h2
 have a2:=ac a1.2
 have a3:=ac a2.2
 obtain ⟨st1,e1,h3⟩:=Et a3.1
 refine hO a3.2 fun hd e2 h4=> ?_
 obtain ⟨gl,np,p1,p2,rp,kk,e3⟩:=Hf h4
 exact nG ⟨k,st1,np,p1,p2,p3,rp,kk,by rw [e0,e1,e2,e3,aE a1.1,aE a2.1],h3,gl⟩
noncomputable def yb (Z:Wd) (n a:Nat) (args:List aA) (b:Bool):Prop:=∀(A:N4) (B:Heap) (outer:List Env) (s:Nn) (D:Addr→Prop) (vs:List Nk),aN n A→Gg Z [] [] D s.heap→bS Z [] D s.heap vs args→jy A B outer s.heap→Z.base.StaysIn B→∀RR:Qo→Nn→Prop,
 (∀h' tk,B.StaysIn h'→s.heap.UpToSlots h'→RR (.ok (.ret (.bool b))) {s with heap:=h',toks:=tk})→Pr (model Z.prog Z.w) A (.call (.ref a) ⟨vs,[]⟩) RR s
section
variable {Z:Wd} {n:Nat} {E:Ev} {p:N2} {loose:List Str} {mg mb:Str→Nh Nk}
theorem Hv (O:Wd.Ok Z p loose mg mb) (G:GX Z.K) {A:N4} {env:Env} {outer:List Env} {B:Heap} {s:Nn} {e t:Addr} {np p1 p2 rp:Pos} {kk:Nat} (fr:A.frames=some (env::outer)) (hB:Z.base.StaysIn B) (hk:env.scope.kind= .function) (glb:env.globals=N7) (hf:env.frame=some env.locals)
  (hx:oG env.scope tY=true) (fl:UR B (env::outer) e (.ref 59) (.ref t) s.heap) {Q:Flow→Nn→Prop} {X:Nk→Nn→Prop} (hQ:∀h' tk,B.StaysIn h'→s.heap.UpToSlots h'→Q (.ret (.bool true)) {s with heap:=h',toks:=tk}):
  Ny (model Z.prog Z.w) A (noteFrame (.ref e) env) (fun _ s₂=>Ny (model Z.prog Z.w) A (setFlight (.ref e) none) (fun _ s₃=>Ny (model Z.prog Z.w) A (handleBy (.ref e) env [.ExceptHandler (some (.Name tY np)) none [.Return (some (.Constant (.bool true) kk p1)) rp] p2]) Q X s₃) X s₂) X s:=by
 refine Nf fun nG=> ?_
 obtain ⟨nm,qn,N,b,sn,sub,ab,col,dd,k0,k1,k2,k3,k5,l⟩:=BE G.cls
 refine nG ?_
 refine wpAny_looks_onW fr hf fl fun h4 hd4 u4=>wpAny_landsW hd4 fun h5 fl5 u5=> ?_
 have bs5:Z.base.StaysIn h5:=fun b o q=>fl5.1 b o (hB b o q)
 refine Nf fun nG=> ?_
 obtain ⟨oe,he,hc⟩:=fl5.there
 refine nG ?_
 refine wpAny_handleBy_cons (codeAny_handlers_test (OY hk (by unfold PJ;exact Nv (ac hx).1) (Qe (mg:=mg) (by rw [glb];exact O.T.g.keeps bs5) (mg_of O.X O.T.g G.nm) ?_) (cI (ac hx).2))) (by intro q;cases q)
 refine wpAny_excMatches_sub_self (O.X.keeps bs5 _ _ l) he hc (by rfl) (codeAny_handlers_suite (lands_againW fl5 fun h6 fl6 u6=>Ol (Si (TV ?_))))
 exact hQ h6 _ fl6.1 (u4.trans (u5.trans u6))
theorem Ew (O:Wd.Ok Z p loose mg mb) (G:GX Z.K) (SE:bK Z n E) {a i:Nat} {fn:Fn} {fo:Obj} {fd:OC} {body:List Stmt} {ps:List Str} {c:Ctx} {k m:Nat} (F:F5 Z a fn fo fd body ps c k m) {cs:List CE} {css:List CS} (hb:fn.body= .try_ [.expr (.callF i cs)] [.ret (.cst (.bool true))]::css) {args us:List aA} (hn:args.length≤fn.np) (hn2:fn.np≤args.length+fn.dflts.length)
  (e1:kL E cs (gz fn args) []=some (us,[])) (H:Cn Z n (Z.fa i) (us.map aA.bind)):yb Z (n+1) a args true:=fun A B outer s D vs R Gs rs C hB RR hR=>
 jf O F hn hn2 R Gs rs fun h₁ tk x=>by
  have ck:=F.chk
  rw [hb] at ck
  cases body with
  |nil=>cases ck
  |cons st sts=>
  have ck:(cA Z.fname m c k st (.try_ [.expr (.callF i cs)] [.ret (.cst (.bool true))])&&bG (cA Z.fname m c k) sts css)=true:=ck
  refine Nf fun nG=> ?_
  obtain ⟨k',st1,np,p1,p2,p3,rp,kk,e0,c1,gl⟩:=yH (ac ck).1
  cases k' with
  |zero=>cases c1
  |succ k'=>
  refine v5 c1 fun v pos he h1 h2=>nG ?_
  rw [e0,he]
  have C1:=C.push F.kind x
  refine Ol (Vd (Ol (ss (s:={s with heap:=h₁,toks:=tk}) O SE h1 h2 x.eo x.st R.into e1 fun vs' h2 t2 k2 c2 r2=>PV ?_)))
  have kp:∀b o,h₁.get? b=some o→h2.get? b=some o:=fun b o q=>k2 b o q fun w=>nomatch w
  have C2:jy (A.deeper (Oc fd s.heap.objs.size a)) B (Oc fd s.heap.objs.size a::outer) h2:=⟨C1.fr,fun b o q=>kp b o (C1.st b o q),C1.fs.of_keeps fun b o q _=>⟨o,kp b o q,rfl⟩⟩
  refine H _ B _ {s with heap:=h2,toks:=t2} _ vs' R.into (x.st.toGd.step k2 c2).gg r2 C2 _ fun h' t' e t fl up=> ?_
  exact Hv O G (s:={s with heap:=h',toks:=t'}) C1.fr hB (x.eo.sc▸x.eo.kind) x.eo.glb rfl (x.eo.sc▸gl) fl fun h6 t6 st up2=>hR h6 t6 st ((Qh fun b o q=>kp b o (x.keep b o q)).trans (up.trans up2))
theorem Ff (O:Wd.Ok Z p loose mg mb) (SS:ji Z n E) {a i:Nat} {fn:Fn} {fo:Obj} {fd:OC} {body:List Stmt} {ps:List Str} {c:Ctx} {k m:Nat} (F:F5 Z a fn fo fd body ps c k m) {cs:List CE} (hb:fn.body=[.try_ [.expr (.callF i cs)] [.ret (.cst (.bool true))],.ret (.cst (.bool false))]) {args:List aA} (hn:args.length≤fn.np) (hn2:fn.np≤args.length+fn.dflts.length)
  (e1:E.s (.expr (.callF i cs)) (gz fn args) []=some (.next,gz fn args,[])) (e2:E.s (.ret (.cst (.bool false))) (gz fn args) []=some (.ret (.v (.bool false)),gz fn args,[])):yb Z (n+1) a args false:=fun A B outer s D vs R Gs rs C hB RR hR=>
 jf O F hn hn2 R Gs rs fun h₁ tk x=>by
  have ck:=F.chk
  rw [hb] at ck
  cases body with
  |nil=>cases ck
  |cons st sts=>
  have ck:(cA Z.fname m c k st (.try_ [.expr (.callF i cs)] [.ret (.cst (.bool true))])&&bG (cA Z.fname m c k) sts [.ret (.cst (.bool false))])=true:=ck
  refine Nf fun nG=> ?_
  obtain ⟨k',st1,np,p1,p2,p3,rp,kk,e0,c1,gl⟩:=yH (ac ck).1
  obtain ⟨st2,e1',c2⟩:=Et (ac ck).2
  refine nG ?_
  rw [e0,e1']
  refine Ol (Vd (Ol (SS _ _ _ _ _ c1 _ _ {s with heap:=h₁,toks:=tk} _ _ _ _ _ x.eo x.st R.into e1 rfl _ _ fun f h2 t2 CA2 D2 a2=> ?_)))
  have hf:f= .next:=a2.flow
  subst hf
  refine P1 (P1 ?_)
  refine Ol (SS _ _ _ _ _ c2 _ _ {s with heap:=h2,toks:=t2} _ _ _ _ _ x.eo a2.st R.into e2 rfl _ _ fun f h3 t3 CA3 D3 a3=> ?_)
  obtain ⟨v,rfl,r3⟩:∃v,f= .ret v∧_:=a3.flow
  cases (show v= .bool false from b8.says r3)
  have k3:=(a2.seq a3).keep
  have kp:∀b o,s.heap.get? b=some o→h3.get? b=some o:=fun b o q=>k3 b o (x.keep b o q) fun w=>w.elim (fun w=>nomatch w) fun w=>absurd (NY q) (Pt.mpr (x.new b (B6 w)))
  exact hR h3 t3 (fun b o q=>kp b o (C.st b o q)) (Qh kp)
end
noncomputable def IJ (K:Frag):Bool:=(Aq K (un 11)).any fun fd=>(mK fd.body).any fun body=>bG (Ae fd.scope 40) body aU.body
theorem FM {prog:N2} {w:PK} {K:Frag} {h:Heap} {fn:Fn} {fo:Obj} {fd:OC} {body:List Stmt} {ps:List Str} {c:Ctx} {k m:Nat} (g:IJ K=true) (F:F5 (gZ prog w K h) ((gZ prog w K h).fa 11) fn fo fd body ps c k m):bG (Ae c.sc 40) body aU.body=true:=by
 refine ax g fun fd' h1 h2=> ?_
 obtain ⟨o,h3,h4⟩:=mD h1
 refine ax h2 fun body' h5 h6=> ?_
 have e1:o=fo:=Ng (h3.symm.trans F.at_)
 subst e1
 have e2:fd'=fd:=by
  have:=h4.symm.trans F.data
  cases this;rfl
 subst e2
 have e3:body'=body:=by
  have:=(iJ h5).symm.trans F.bod
  cases this;rfl
 subst e3
 rw [F.sc];exact h6
section
variable {Z:Wd} {n:Nat} {E:Ev} {p:N2} {loose:List Str} {mg mb:Str→Nh Nk} {A:N4} {s:Nn} {c:Ctx} {env:Env} {vars:eF} {ρ:Loc} {σ σ1:ag} {CA:List Addr} {D:Addr→Prop} {h h':Heap}
theorem St.slots (S:St Z env vars ρ CA σ D h) (kp:∀b o,b≠env.locals→h.get? b=some o→h'.get? b=some o) (nk:∀m,h.Ns env.locals m→h'.Ns env.locals m):St Z env vars ρ CA σ D h':=by
 obtain ⟨m0,n0⟩:=S.ns
 have nl:∀y c,env.cells.lookup y=some c→c≠env.locals:=fun y c l q=>let ⟨_,_,ic⟩:=S.pc y c l;Ns.notCell n0 (q▸ic)
 exact ⟨S.toGd.set1 S.nsD S.nsCA kp (let ⟨o,_,_,z,_⟩:=nk _ n0;⟨o,z⟩),⟨m0,nk _ n0⟩,S.nsD,S.nsCA,fun x q l=>let ⟨d,v,i⟩:=S.pc x q l;⟨d,v,IsCell.keep i fun o e=>kp q o (nl x q l) e⟩,S.pinj,S.pcel,
  fun x i m U e=>let ⟨v,sl,r⟩:=S.vars x i m U e;⟨v,sl.imp (fun z=>let ⟨a,mm,n,w⟩:=z;⟨a,mm,nk _ n,w⟩) fun z=>let ⟨a,q,l,ic⟩:=z;⟨a,q,l,IsCell.keep ic fun o e=>kp q o (nl x q l) e⟩,r.mono fun b o d e=>⟨d,kp b o (fun z=>d (z▸S.nsD)) e⟩⟩⟩
theorem BC (O:Wd.Ok Z p loose mg mb) (SE:bK Z n E) {m k i:Nat} {st:Stmt} {cs:List CE} {rb:CE} (hc:cA Z.fname m c k st (.ret (.cmp (.callF i cs) .eq rb))=true) (EO:az env c) (S:St Z env c.vars ρ CA σ D s.heap) (R:aN n A) (fr:A.frames=some [env]) (hf:env.frame=some env.locals) {u:V} {b:Bool}
  (e1:kL E cs ρ σ=some ([.v u],σ)) (H:yb Z n (Z.fa i) [.v u] b) (e2:E.e rb ρ σ=some (.v (.bool b),σ)) {Q:Flow→Nn→Prop} {X:Nk→Nn→Prop}
  (hQ:∀h' tk,(∀b o,Z.base.get? b=some o→h'.get? b=some o)→Q (.ret (.bool true)) {s with heap:=h',toks:=tk}):Ny (model Z.prog Z.w) A (exec st env) Q X s:=by
 cases k with
 |zero=>cases hc
 |succ k=>
 refine Nf fun nG=>A6 hc fun v rp e0 h3=> ?_
 cases m with
 |zero=>cases h3
 |succ m=>
 refine F0 h3 fun l r pos e3 a2 a3 a4=>nG ?_
 rw [e0,e3]
 refine Si ?_
 show Ny _ _ (do let v←eval l env;compareChain pos v [eD .eq] (markedEach [eD .eq] [r] [eval r env])) _ _ _
 rw [wD _ _ a3]
 refine No (xL O SE a2 EO S R e1 fun vs h1 t1 k1 c1 r1=>PV ?_)
 have S1:=S.step k1 c1
 obtain ⟨m0,n0⟩:=S1.ns
 obtain ⟨oL,es,ep,gL,dL,_⟩:=n0
 have rs:bS Z [] D h1 vs [.v u]:=by
  cases r1 with|cons x y=>cases y;exact .cons (U:= .v u) x .nil
 have hk:env.scope.kind= .function:=EO.sc▸EO.kind
 have C:jy A (h1.hide env.locals) [env] h1:=⟨fr,fun b o q=>Heap.of_hide q,(fun z=>nomatch hk.symm.trans z),⟨env.locals,oL,hf,VT _ _,gL,fun vs q=>by rw [dL] at q;cases q⟩,trivial⟩
 refine H A _ _ {s with heap:=h1,toks:=t1} D vs R ⟨S1.base,S1.dabove,.inl S1.low,S1.live,rfl,.nil,fun k a u e _=>(by cases e),fun a m=>(by cases m)⟩ rs C (fun b o q=>(UQ _ fun z=>by rw [z,S1.toGd.dbase _ S1.nsD] at q;cases q).trans (S1.base b o q)) _ fun h' tk st up=> ?_
 have S2:St Z env c.vars ρ CA σ D h':=S1.slots (fun b o z q=>st b o ((UQ _ z).trans q)) fun m q=>up.ns q
 refine No (Oj (SE _ c r rb a4 env A {s with heap:=h',toks:=tk} ρ σ CA D _ _ EO S2 R e2 _ _ fun w h2 t2 k2 c2 r2=>No (OI (Qd ?_))))
 cases (show w= .bool b from b8.says r2)
 refine ko (Z:=Z) (D:=D) (s:={s with heap:=h2,toks:=t2}) (o:= .eq) (x:= .bool b) (y:= .bool b) (r:=true) (.inl (.bool b)) (.inl (.bool b)) (by cases b<;>rfl) (oZ R) fun tk=>hQ h2 tk (S2.step k2 c2).base
end
section
variable {Z:Wd} {n:Nat} {E:Ev} {c:Ctx} {env:Env} {A:N4}
theorem DM (SS:ji Z n E) {k m:Nat} {cl:CS} (EO:az env c) (R:aN n A):∀{sts:List Stmt} {css:List CS},bG (cA Z.fname m c k) sts (css++[cl])=true→∀{s:Nn} {ρ ρ':Loc} {σ σ':ag} {CA:List Addr} {D:Addr→Prop},St Z env c.vars ρ CA σ D s.heap→aH E css ρ σ=some (.next,ρ',σ')→
  ∀{Q:Flow→Nn→Prop} {X:Nk→Nn→Prop},(∀st,cA Z.fname m c k st cl=true→∀h' tk CA' D',St Z env c.vars ρ' CA' σ' D' h'→Ny (model Z.prog Z.w) A (execs [st] env) Q X {s with heap:=h',toks:=tk})→Ny (model Z.prog Z.w) A (execs sts env) Q X s:=by
 intro sts css
 induction css generalizing sts with
 |nil=>
  intro hc s ρ ρ' σ σ' CA D S ev Q X h
  refine Nf fun nG=> ?_
  obtain ⟨st,rfl,h1⟩:=Et hc
  cases Ng ev
  refine nG ?_
  exact h st h1 s.heap s.toks CA D S
 |cons cs css ih=>
  intro hc s ρ ρ' σ σ' CA D S ev Q X h
  cases sts with
  |nil=>cases hc
  |cons st sts=>
  have hc:=ac (show (cA Z.fname m c k st cs&&bG (cA Z.fname m c k) sts (css++[cl]))=true from hc)
  refine af ev fun r1 e1 ev=> ?_
  refine Nf fun nG=> ?_
  obtain ⟨o1,ρ1,σ1⟩:=r1
  refine nG ?_
  cases o1 with
  |next=>
   refine Ol (SS k m c st cs hc.1 env A s ρ σ CA D _ EO S R e1 rfl _ _ fun f h1 t1 CA1 D1 a1=> ?_)
   have hf:f= .next:=a1.flow
   subst hf
   exact ih hc.2 (s:={s with heap:=h1,toks:=t1}) a1.st ev h
  |_=>cases Ng ev
end
section
variable {n:Nat} {K:Frag} {prog p:N2} {w:PK} {h:Heap} {loose:List Str} {mg mb:Str→Nh Nk}
theorem FF (O:(gZ prog w K h).Ok p loose mg mb) (G:GX K) (gc:IJ K=true) (gk:Ll K=true) (S:∀n,Mr (gZ prog w K h) n (run qW n)) {u:V} {b:Bool} (hx:b=true→∃r,aH (Internal.run qW n) aU.body (gz aU [.v u]) []=some r∧r.1= .exc)
  (ho:b=false→(Internal.run qW (n+2)).s (.expr (.callF 32 [.var 0])) (gz dS [.v u]) []=some (.next,gz dS [.v u],[])):yb (gZ prog w K h) (n+3) ((gZ prog w K h).fa 43) [.v u] b:=by
 refine Nf fun nG=> ?_
 obtain ⟨fo,fd,body,ps,c,k,m,F⟩:=j8 (prog:=prog) (w:=w) (h:=h) gk 43 dS rfl
 obtain ⟨fo1,fd1,body1,ps1,c1,k1,m1,F1⟩:=j8 (prog:=prog) (w:=w) (h:=h) gk 32 iM rfl
 obtain ⟨fo2,fd2,body2,ps2,c2,k2,m2,F2⟩:=j8 (prog:=prog) (w:=w) (h:=h) gk 11 aU rfl
 refine nG ?_
 cases b with
 |true=>
  refine Nf fun nG=> ?_
  obtain ⟨r,e,ho⟩:=hx rfl
  refine nG ?_
  refine Ew O G (S (n+2)).e F rfl (Nz 1) (Nz 1) (i:=32) (us:=[.v u]) rfl (Mj O (S (n+1)).e F1 rfl (NQ 1) (Nz 2) (i:=11) (us:=[.v u]) rfl fun A B outer s D vs R Gs rs C RR hR=> ?_)
  exact LC (args:=[.v u]) O (S n).s (CP O G S n) F2 (FM gc F2) (Nz 1) (Nz 1) e ho R Gs rs C hR
 |false=>exact Ff O (S (n+2)).s F rfl (Nz 1) (Nz 1) (ho rfl) rfl
end
noncomputable abbrev yy:=Ue
noncomputable abbrev La:=Uv
noncomputable abbrev DT:=Uf Ug
noncomputable def Lu (p:N2) (w:PK) (n₀:Nat) (ann:Nh Nk) (n:Nat):Qa→Thread→Nh Qa:=
 @Nat.rec (fun _=>Qa→Thread→Nh Qa) (fun _ _=>none) (fun _ ih s t=> @Bool.rec (fun _=>Nh Qa) (@Bool.rec (fun _=>Nh Qa) none (@Option.rec (Qa×Thread) (fun _=>Nh Qa) none (fun r=>ih r.1 r.2) (yy DT p w s t)) (La n₀ ann t)) (some s) (through t)) n
theorem ID {p:N2} {w:PK} {n₀:Nat} {ann:Nh Nk}:∀{n:Nat} {s s':Qa} {t:Thread},Lu p w n₀ ann n s t=some s'→topRun treeTable p w n₀ ann n s.abs t=some s'.abs:=by
 intro n
 induction n with
 |zero=>intro s s' t h;cases h
 |succ n ih=>
  intro s s' t h
  change @Bool.rec (fun _=>Nh Qa) (@Bool.rec (fun _=>Nh Qa) none (@Option.rec (Qa×Thread) (fun _=>Nh Qa) none (fun r=>Lu p w n₀ ann n r.1 r.2) (yy DT p w s t)) (La n₀ ann t)) (some s) (through t)=some s' at h
  have e1:yy DT p w s t=stepT (denote treeTable) p w s t:=by
   unfold yy DT
   rw [←Uh,←Ui,←Uj]
  have e2:La n₀ ann t=stepOk n₀ ann t:=by
   unfold La
   rw [←Uw]
  rw [e1,e2] at h
  unfold topRun
  cases ht:through t with
  |true=>rw [ht] at h;cases Ng h;rfl
  |false=>
   rw [ht] at h
   cases hk:stepOk n₀ ann t with
   |false=>rw [hk] at h;cases h
   |true=>
    rw [hk] at h
    cases hs:stepT (denote treeTable) p w s t with
    |none=>rw [hs] at h;cases h
    |some r=>
     obtain ⟨s₂,t₂⟩:=r
     rw [hs] at h
     show (match PySem.step (denote treeTable) p w s.abs t with| .go s' t'=>topRun treeTable p w n₀ ann n s' t'| .halt _ _=>none)=_
     rw [stepT_spec hs]
     exact ih h
noncomputable def Cu (r:BT×Nat) (o:Obj):BT×Nat:=(r.1.ins r.2 o,r.2+1)
noncomputable def mB (l:List Obj):BT×Nat:=l.foldl Cu (.nil,0)
theorem Ay {t:BT} {o:Obj}:∀{n:Nat},(∀i,i <n→(t.get i).isSome=true)→((t.ins n o).get n).isSome=true:=by
 induction t with
 |nil=>
  intro n h
  cases n with
  |zero=>rfl
  |succ n=>exact absurd (h 0 (Nat.zero_lt_succ _)) (by intro z;cases z)
 |node v l r ihl ihr=>
  intro n h
  rw [BT.ins_node]
  by_cases h0:n=0
  ·rw [NG h0,Sj,NG h0];rfl
  ·rw [NV h0]
   by_cases h1:n%2=1
   ·rw [NG h1,Sj,NV h0,NG h1]
    refine ihl fun i hi=> ?_
    have:=h (2*i+1) (by omega)
    rw [Sj,NV (by omega),NG (by omega),show (2*i+1)/2=i by omega] at this
    exact this
   ·rw [NV h1,Sj,NV h0,NV h1]
    refine ihr fun i hi=> ?_
    have:=h (2*i+2) (by omega)
    rw [Sj,NV (by omega),NV (by omega),show (2*i+2)/2 -1=i by omega] at this
    exact this
structure vO (r:BT×Nat) (l:List Obj):Prop where
 n:r.2=l.length
 at_:∀i,i <l.length→r.1.get i=l[i]?
theorem xh:∀(l k:List Obj) (r:BT×Nat),vO r k→vO (l.foldl Cu r) (k++l):=by
 intro l
 induction l with
 |nil=>intro k r h;rw [NH];exact h
 |cons o l ih=>
  intro k r h
  rw [show k++o::l=(k++[o])++l by rw [NI];rfl]
  refine ih (k++[o]) (Cu r o) ⟨by show r.2+1=_;rw [h.n,Nj];rfl,fun i hi=> ?_⟩
  show (r.1.ins r.2 o).get i=_
  rw [BT.get_ins o r.1 r.2 (Ay fun j hj=>by rw [h.at_ j (h.n▸hj),Nr (h.n▸hj)];rfl)]
  rw [Nj] at hi
  by_cases e:i=r.2
  ·subst e;rw [NG rfl,h.n];exact RN.symm
  ·have hl:i <k.length:=by have:=h.n;simp at hi;omega
   rw [NV e,h.at_ i hl,Ov hl]
theorem A7 (l:List Obj) (life:Life):absHeap (mB l).1 (mB l).2 life=⟨l.toArray,life⟩:=by
 have h:vO (mB l) l:=xh l [] (.nil,0) ⟨rfl,fun i hi=>absurd hi (PI _)⟩
 unfold absHeap BT.list
 congr 2
 refine List.ext_getElem (by rw [Nl,PF,h.n]) fun i h1 h2=> ?_
 rw [List.getElem_map,R6,h.at_ i h2,Nr h2]
 rfl
noncomputable def AP (w:PK) (os:TQ):Qa:=⟨(mB (boot_heap w.params).objs.toList).1,(mB (boot_heap w.params).objs.toList).2,(boot_heap w.params).life,Array.mk [],boot_drawn,boot_toks,os⟩
theorem y9 (w:PK) (os:TQ):(AP w os).abs=⟨boot_heap w.params,Array.mk [],boot_drawn,boot_toks,os⟩:=by
 unfold AP SharedT.abs
 rw [A7]
noncomputable abbrev pw:N2:=Vu
noncomputable def qv:N2:=view pw [72]
noncomputable def vn (w:PK) (os:TQ):Nh Qa:=Lu pw w 11 (some (.ref 6)) 6000 (AP w os) (topStub pw)
noncomputable def sI (h:Heap) (as:List Nat):Frag:=as.filterMap fun a=>(h.get? a).map fun o=>(a,o)
noncomputable def IL:List Nat:=[2,3,29,35,36,45,46,58,59,93,94,100,101,107,108,114,115,121,122,135,136,149,150,159,160,177,178,184,185,194,195,205,211,212,218,219,225,226,228,229,239,245,246,252,253,259,260,269,270,280,286,287,291,292,322,323,340,341,347,348,350,351,359,360,366,367,373,374,380,381,387,388,394,395,401,402,408,409,415,416,420,421,427,428,434,435,441,442,446,447,453,454,460,461,465,466,470,471,475,476,482,483,489,490,496,497,503,504,510,511,517,518,524,525,531,532,538,539,540,541,547,548,561,562,599,600,610,611,617,618,624,625,631,632,638,639,645,646,652,653,659,660,664,665,671,672,676,677]
noncomputable def Jn (h:Heap):Frag:=sI h IL
theorem zH {h:Heap}:∀{as:List Nat},(sI h as).In h:=by
 intro as
 induction as with
 |nil=>intro b o e;cases e
 |cons a as ih=>
  intro b o e
  unfold sI at e
  rw [QB] at e
  cases hq:h.get? a with
  |none=>rw [hq] at e;exact ih b o e
  |some o'=>
   rw [hq] at e
   change List.lookup b ((a,o')::sI h as)=some o at e
   rw [O3] at e
   cases hb:b==a with
   |true=>rw [hb] at e;cases Ng e;rw [Nv hb];exact hq
   |false=>rw [hb] at e;exact ih b o e
noncomputable def LZ (K:Frag):Bool:=(Ll K&&(IU K&&CX K))&&(KN K&&IJ K)
noncomputable def Xt (s:Nn):Bool:=LZ (Jn s.heap)
noncomputable def XP (_:Str→Nh Nk) (h:Heap):Prop:=∃K:Frag,K.In h∧LZ K=true
theorem Cr (mg:Str→Nh Nk) (h h':Heap) (x:XP mg h) (k:∀b o,h.get? b=some o→h'.get? b=some o):XP mg h':=let ⟨K,i,g⟩:=x;⟨K,i.keeps k,g⟩
theorem DW {q:N2} {loose mods:List Str} {s:Nn} {X:Nn→Bool} (h:X s=true):openSeen q loose mods X true s=openSeen q loose mods (fun _=>true) true s:=by
 unfold openSeen
 rw [h]
theorem CC {p q:N2} {loose:List Str} {X:Nn→Bool} {H₀:Params→Heap} {gs₀:P5 GenState} {d₀:Drawn} {k₀ m₀:Nat} {ann:Nh Nk} {N:Nat}
  (open_:∀w:PK,(fencedOpening treeTable p w N).map (fun s=>(s.heap,s.gens,s.drawn,s.toks))=some (H₀ w.params,gs₀,d₀,k₀))
  (size:∀w:PK,((H₀ w.params).isNs N7&&gs₀.size==0,(H₀ w.params).objs.size,(H₀ w.params).nsMap N7 "__annotations__")=(true,m₀,ann))
  (run:∀(w:PK) (os:TQ),∃s,topRun treeTable p w m₀ ann N ⟨H₀ w.params,gs₀,d₀,k₀,os⟩ (topStub p)=some s∧(staticsOk (importedModules p.main.body) (H₀ w.params) s.heap&&namesBound p s.heap&&gensDone s&&laidKept (H₀ w.params) s.heap)=true∧
   openSeen q loose (importedModules p.main.body) X true s=openGood q loose):LeftO p q loose X (fun _=>()) (fun _=>()) N:=fun w=>by
 refine Nf fun nG=> ?_
 obtain ⟨⟨h,gs,d,k,os⟩,e,e'⟩:=Q1.mp (open_ w)
 obtain ⟨rfl,rfl,rfl,rfl⟩:h=H₀ w.params∧gs=gs₀∧d=d₀∧k=k₀:=by simpa using e'
 obtain ⟨z1,z2,z3⟩:_∧_∧_:=by simpa only [Prod.mk.injEq] using size w
 obtain ⟨s,r,l1,l2⟩:=run w os
 refine nG ?_
 have t:topFrom treeTable p w N ⟨H₀ w.params,gs,d,k,os⟩=some s:=by
  unfold topFrom
  dsimp only
  rw [z1,z2,z3,r]
  show (match staticsOk (importedModules p.main.body) (H₀ w.params) s.heap&&namesBound p s.heap&&gensDone s&&laidKept (H₀ w.params) s.heap with|true=>_|false=>_)=_
  rw [l1]
 unfold openEnds
 rw [e]
 show (topFrom treeTable p w N _).map _=_
 rw [t]
 exact Nt some (Prod.ext l2 rfl)
theorem Bi {α:Type} {w:PK} {os:TQ} {f:Qa→α} {v:α} {s:Qa} (he:vn w os=some s) (h:(fun os=>(vn w os).map f)=fun _=>some v):f s=v:=by
 have e:(vn w os).map f=some v:=congrFun h os
 rw [he] at e
 exact Ng e
end
section
open PySem PySem.W PyProof.Rows
theorem Ia:∀w:PK,((boot_heap w.params).isNs N7&&(Array.mk []:P5 GenState).size==0,(boot_heap w.params).objs.size,(boot_heap w.params).nsMap N7 "__annotations__")=(true,11,some (.ref 6)):=by intro w;kernel_rfl
theorem KE:∀w:PK,(fun os=>(vn w os).map fun s=>(staticsOk (importedModules pw.main.body) (boot_heap w.params) s.abs.heap&&namesBound pw s.abs.heap&&gensDone s.abs&&laidKept (boot_heap w.params) s.abs.heap,Ux qv pw.boundNames (importedModules pw.main.body) (fun _=>true) true s.abs))=fun _=>some (true,openGood qv pw.boundNames):=by intro w;kernel_rfl
theorem Jo:∀w:PK,(fun os=>(vn w os).map fun s=>Xt s.abs)=fun _=>some true:=by intro w;kernel_rfl
theorem Dh:LeftO pw qv pw.boundNames Xt (fun _=>()) (fun _=>()) 6000:=by
 refine CC (boot_open (by rfl) (by decide) (fun s=>by rfl)) Ia fun w os=> ?_
 have h0:∃s,vn w os=some s:=by
  have h:(vn w os).map _=some true:=congrFun (Jo w) os
  cases he:vn w os with
  |none=>rw [he] at h;cases h
  |some s=>exact ⟨s,rfl⟩
 obtain ⟨s,he⟩:=h0
 have k:=Bi he (KE w)
 have r:=ID he
 rw [y9] at r
 refine ⟨s.abs,r,Nt Prod.fst k,?_⟩
 rw [DW (Bi he (Jo w)),Uy]
 exact Nt Prod.snd k
theorem Bx:(defOf qv (NB "law")).isSome=true:=by kernel_rfl
noncomputable def pO:DefRec×List (Str×Expr):=(defOf qv (NB "law")).get Bx
theorem Jj:defOf qv (NB "law")=some (pO.1,pO.2):=(Option.some_get Bx).symm
theorem G6:pO.1.name=NB "law":=by kernel_rfl
theorem J8:pw.theDef (NB "law")=some (pO.1.params,pO.1.body,pO.1.scope):=by kernel_rfl
theorem Ke:kwWritten? pO.1.params.kwonlyargs pO.1.params.kw_defaults=some pO.2:=by kernel_rfl
abbrev row:=PySem.Challenge.rw_qd0111_01.row
theorem IF:(chainsOk qv&&opensWell row.prog&&(frees row.toRowW&&row.within.isEmpty))=true:=by kernel_rfl
theorem ve:PySem.Challenge.rw_qd0111_01.wellSaid=true:=(congrFun PySem.W.Fast.te9446332074065402090 PySem.Challenge.rw_qd0111_01).trans (by kernel_rfl)
theorem Bo:row.toRowW.promised:=by w_witness2
theorem Mp (IP:WalkO qv pw.boundNames XP (fun _ _=>True) row.toRowW pO.1 pO.2 fun f vs=>VU f vs):PySem.Challenge.rw_qd0111_01.Holds:=
 ⟨ve,holds_open (r:=row) (q:=qv) (loose:=pw.boundNames) (Xt:=Xt) (XP:=XP) (Yf:=fun _=>()) (Ya:=fun _=>()) (YP:=fun _ _=>True) (N:=6000) Dh (fun _ _ _=>trivial) (fun _ _ _ _ _=>trivial) (fun s h=>⟨_,zH,h⟩) Cr Jj J8 Ke
  (fun s _=>recFacts_of (by rfl)) (by rfl) (row_said ve) IF ⟨rfl,rfl,rfl,rfl,rfl,by decide+kernel⟩ Bo IP⟩
end
section
structure xb (n:Nat) (ns:List Int) (ρ:Loc) (σ:ag) (u:V) (b:Bool):Prop where
 run:aH (run aj (n+3)) wa (gz vZ [.v (.lst (ns.map .int))]) []=some (.next,ρ,σ)
 odd:kL (Internal.run aj (n+3)) [.var 15] ρ σ=some ([.v u],σ)
 rhs:(Internal.run aj (n+3)).e sF ρ σ=some (.v (.bool b),σ)
 exc:b=true→∃r,aH (Internal.run aj n) aU.body (gz aU [.v u]) []=some r∧r.1= .exc
 ok:b=false→(Internal.run aj (n+2)).s (.expr (.callF 32 [.var 0])) (gz dS [.v u]) []=some (.next,gz dS [.v u],[])
end
section
open PySem
set_option tactic.hygienic false
set_option genCtorIdx true in
inductive Nm|jmp|call|jrcxz|loop|loope|loopne|je|jne|jae|jb
noncomputable def Nm.s:Nm→Sg
 | .jmp=>[106,109,112]| .call=>[99,97,108,108]| .jrcxz=>[106,114,99,120,122]| .loop=>[108,111,111,112]| .loope=>[108,111,111,112,101]| .loopne=>[108,111,111,112,110,101]
 | .je=>[106,101]| .jne=>[106,110,101]| .jae=>[106,97,101]| .jb=>[106,98]
set_option genCtorIdx true in
inductive cr
 |jump (n:Nm) (t:Sg)
 |ret
 |mov (w:Bool) (i:Int) (y:Sg)
structure ah where
 labs:List Sg
 ins:Nh cr
noncomputable def w0 (w:Bool):V:=match w with
 |true=> .inst .register [.str [114,97,120],.str [103,112,114],.int 0,.int 64]
 |false=> .inst .register [.str [101,97,120],.str [103,112,114],.int 0,.int 32]
noncomputable def aP:cr→V
 | .jump n t=> .inst .ins [.str n.s,.tup [.inst .rel [.str [114,101,108],.int 0,.str t]],.str []]
 | .ret=> .inst .ins [.str [114,101,116],.tup [],.str []]
 | .mov q i y=> .inst .ins [.str [109,111,118],.tup [.inst .reg [.str [114,101,103],w0 q],.inst .imm [.str [105,109,109],.int i,.str y]],.str []]
noncomputable def aS:Nh cr→V
 |none=> .none
 |some i=>aP i
noncomputable def ay (l:ah):V:= .inst .line [.tup (l.labs.map .str),aS l.ins]
noncomputable def cr.tgt:cr→Sg
 | .jump _ t=>t
 |_=>[]
noncomputable def bg:Nh cr→Sg
 |some i=>i.tgt
 |none=>[]
abbrev nU (k f:Nat) (args:List V) (u:V):Prop:=∀n,(run aj (n+k)).c f (args.map aA.v) []=some (.ok (.v u),[])
theorem ir (o:Nh cr):nU 12 5 [aS o] (.str (bg o)):=fun n=>by
 cases o with
 |none=>kernel_rfl
 |some i=>cases i<;>kernel_rfl
set_option genCtorIdx true in
inductive Cc|e|ne|ae|b
noncomputable def Cc.s:Cc→Sg
 | .e=>[101]| .ne=>[110,101]| .ae=>[97,101]| .b=>[98]
noncomputable def Nm.cc:Nm→Nh Cc
 | .je=>some .e| .jne=>some .ne| .jae=>some .ae| .jb=>some .b|_=>none
noncomputable def kB:Nh Cc→Sg
 |none=>[]
 |some c=>c.s
noncomputable def eG:Nh cr→Nh Cc
 |some (.jump n _)=>n.cc
 |_=>none
theorem ph (o:Nh cr):nU 20 6 [aS o] (.str (kB (eG o))):=fun n=>by
 cases o with
 |none=>kernel_rfl
 |some i=>cases i with
  |jump m t=>cases m<;>kernel_rfl
  |ret=>kernel_rfl
  |mov=>kernel_rfl
noncomputable def Cc.opp:Cc→Cc
 | .e=> .ne| .ne=> .e| .ae=> .b| .b=> .ae
theorem GU (c:Cc):nU 30 2 [.str c.s] (.str c.opp.s):=fun n=>by cases c<;>kernel_rfl
noncomputable def jK (a b:Nh Cc):Int:=match a,b with
 |some a,some b=>if a.s=b.s then 1 else if a.s=b.opp.s then 0 else -1
 |_,_=> -1
theorem GJ (a b:Nh Cc):nU 45 14 [.str (kB a),.str (kB b)] (.int (jK a b)):=fun n=>by
 cases a with
 |none=>cases b with
  |none=>kernel_rfl
  |some b=>cases b<;>kernel_rfl
 |some a=>cases b with
  |none=>cases a<;>kernel_rfl
  |some b=>cases a<;>cases b<;>kernel_rfl
noncomputable def og (o:Nh cr):Bool:=match o with
 |some (.jump .jmp t)=> !decide (t=[])
 |_=>false
theorem xT (o:Nh cr):nU 25 7 [aS o] (.bool (og o)):=fun n=>by
 cases o with
 |none=>kernel_rfl
 |some i=>cases i with
  |jump m t=>cases t<;>cases m<;>kernel_rfl
  |ret=>kernel_rfl
  |mov=>kernel_rfl
noncomputable def fV (i:cr):Bool:=match i with
 | .jump m _=>match m with| .jmp=>false|_=>true
 | .ret=>false
 | .mov _ _ _=>true
theorem tc (i:cr):nU 30 9 [aP i] (.bool (fV i)):=fun n=>by
 cases i with
 |jump m t=>cases m<;>kernel_rfl
 |ret=>kernel_rfl
 |mov=>kernel_rfl
theorem bV {n f:Nat} {fn:Fn} {args:List aA} {ρ:Loc} {σ σ2:ag} {W:aA} {r:Ac×ag} (ht:aj.tab f=some fn) (hn:(decide (args.length≤fn.np)&&decide (fn.np≤args.length+fn.dflts.length))=true)
  (hb:aH (run aj n) fn.body (gz fn args) σ=some (.ret W,ρ,σ2)) (hr:back σ.length W σ2=some r):(run aj (n+1)).c f args σ=some r:=by
 show (aj.tab f).bind _=_
 rw [ht]
 show (if _ then _ else _)=_
 rw [NG hn,hb]
 exact hr
theorem dY {n:Nat} {e:CE} {cs:List CS} {ρ:Loc} {σ σ2:ag} {U:aA} (h:(run aj n).e e ρ σ=some (U,σ2)):aH (run aj (n+1)) (.ret e::cs) ρ σ=some (.ret U,ρ,σ2):=by
 show (((run aj n).e e ρ σ).bind _).bind _=_
 rw [h];rfl
theorem jE {α:Type} {f:V→ag→Nh (List V×ag)} {enc:α→V} {g:α→List V} {σ:ag} {xs:List α} (h:∀x∈xs,f (enc x) σ=some (g x,σ)):jt f (xs.map enc) σ=some (xs.flatMap g,σ):=by
 induction xs with
 |nil=>rfl
 |cons x xs ih=>
  show (f (enc x) σ).bind _=_
  rw [h x (.head _)]
  show (jt f (xs.map enc) σ).bind _=_
  rw [ih fun y m=>h y (.tail _ m)];rfl
theorem eU {n:Nat} (h:n≤16777216):cU n=true:=Nw h
theorem gY {n:Nat} {α:Type} {elt:CE} {t:kN} {it:It} {ifs:List CE} {gs:List CG} {ρ:Loc} {σ:ag} {xs:List α} {enc:α→V} {g:α→List V} (hi:dN (run aj n) it ρ σ=some (xs.map enc,σ))
  (ht:∀x∈xs,jh (run aj n) t ifs (dQ (run aj n) elt gs) (qT (Gy t++Dy gs) ρ) (enc x) σ=some (g x,σ)) (hz:(xs.flatMap g).length≤16777216):(run aj (n+1)).e (.comp elt (.mk t it ifs::gs)) ρ σ=some (.own (.lst (xs.flatMap g)),σ):=by
 show (dQ (run aj n) elt (.mk t it ifs::gs) ρ σ).bind _=_
 have:dQ (run aj n) elt (.mk t it ifs::gs) ρ σ=some (xs.flatMap g,σ):=by
  show (dN (run aj n) it ρ σ).bind _=_
  rw [hi]
  exact jE ht
 rw [this]
 show (if _ then _ else _)=_
 rw [NG (eU hz)]
noncomputable def nS:cr→V
 | .jump n t=> .tup [.str n.s,.str [],.tup [.tup [.str [114,101,108],.int 0,.str t]]]
 | .ret=> .tup [.str [114,101,116],.str [],.tup []]
 | .mov w i y=> .tup [.str [109,111,118],.str [],.tup [.tup [.str [114,101,103],.str (match w with|true=>[114,97,120]|false=>[101,97,120])],.tup [.str [105,109,109],.int i,.str y]]]
noncomputable def j5:Nh cr→V
 |none=> .tup []
 |some i=>nS i
noncomputable def bT (l:ah):V:= .tup [.tup (l.labs.map .str),j5 l.ins]
abbrev l7 (k f:Nat) (args:List V) (u:V):Prop:=∀n,(run aj (n+k)).c f (args.map aA.v) []=some (.ok (.own u),[])
noncomputable def lst (L:List ah):V:= .lst (L.map ay)
theorem f9 {α β:Type} {f:α→β}:∀{xs:List α},xs.flatMap (fun x=>[f x])=xs.map f
 |[]=>rfl
 |x::xs=>Nt (f x:: ·) (f9 (xs:=xs))
theorem wx {L:List ah} (hz:L.length≤16777216):l7 40 33 [lst L] (.lst (L.map bT)):=fun n=>by
 have h:=gY (n:=n+37) (elt:= .callM (.var 1) .told) (t:= .one 1) (it:= .seq (.var 0)) (ifs:=[]) (gs:=[]) (ρ:=[some (.v (lst L)),none]) (σ:=[]) (xs:=L) (enc:=ay) (g:=fun l=>[bT l]) (by kernel_rfl)
  (fun l _=>by
   obtain ⟨labs,o⟩:=l
   cases o with
   |none=>kernel_rfl
   |some i=>cases i with
    |jump m t=>kernel_rfl
    |ret=>kernel_rfl
    |mov w i y=>cases w<;>kernel_rfl) (by rw [f9,Nl];exact hz)
 rw [f9] at h
 exact bV (n:=n+39) (fn:=kR) rfl rfl (dY h) rfl
theorem av {n:Nat} {c:CS} {cs:List CS} {ρ ρ':Loc} {σ σ':ag} {r:fg×Loc×ag} (h:(run aj n).s c ρ σ=some (.next,ρ',σ')) (k:aH (run aj n) cs ρ' σ'=some r):aH (run aj n) (c::cs) ρ σ=some r:=by
 show ((run aj n).s c ρ σ).bind _=_
 rw [h];exact k
theorem j4 {n:Nat} {e a:CE} {ρ:Loc} {σ σ1 σ2:ag} {k:Nat} {us ws:List V} {u:V} (h1:(run aj n).e e ρ σ=some (.cell k,σ1)) (h2:σ1[k]? =some (.lst ws)) (h3:eO (run aj n) a ρ σ1=some (u,σ2)) (h4:σ2[k]? =some (.lst us)) (hz:us.length+1≤16777216):
  (run aj (n+2)).s (.expr (.callS .append e [a])) ρ σ=some (.next,ρ,σ2.set k (.lst (us++[u]))):=by
 have:kC (run aj n) e [a] ρ σ=some (.v .none,σ2.set k (.lst (us++[u]))):=by
  show ((run aj n).e e ρ σ).bind _=_
  rw [h1]
  show ((σ1[k]?).bind V.lst?).bind _=_
  rw [h2]
  show (eO (run aj n) a ρ σ1).bind _=_
  rw [h3]
  show ((σ2[k]?).bind V.lst?).bind _=_
  rw [h4]
  show (if _ then _ else _)=_
  rw [NG (eU hz)]
 show (kC (run aj n) e [a] ρ σ).bind _=_
 rw [this];rfl
theorem FB {α:Type} {body:V→Loc→ag→tF} {enc:α→V} {P:List α→Loc→ag→Prop} (h:∀x xs ρ σ,P (x::xs) ρ σ→∃ρ' σ',body (enc x) ρ σ=some (.next,ρ',σ')∧P xs ρ' σ'):∀{xs:List α} {ρ:Loc} {σ:ag},P xs ρ σ→∃ρ' σ',fy body (xs.map enc) ρ σ=some (.next,ρ',σ')∧P [] ρ' σ':=by
 intro xs
 induction xs with
 |nil=>exact fun p=>⟨_,_,rfl,p⟩
 |cons x xs ih=>
  intro ρ σ p
  refine Nf fun nG=> ?_
  obtain ⟨ρ1,σ1,e,p1⟩:=h x xs ρ σ p
  obtain ⟨ρ2,σ2,e2,p2⟩:=ih p1
  refine nG ?_
  refine ⟨ρ2,σ2,?_,p2⟩
  show (body (enc x) ρ σ).bind _=_
  rw [e];exact e2
theorem gp {n:Nat} {t:kN} {it:It} {body:List CS} {ρ ρ':Loc} {σ σ1 σ':ag} {us:List V} {o:fg} (hi:dN (run aj n) it ρ σ=some (us,σ1)) (h:fy (fun x ρ σ=>(gS t x ρ).bind fun ρ=>aH (run aj n) body ρ σ) us ρ σ1=some (o,ρ',σ')):(run aj (n+1)).s (.for_ t it body) ρ σ=some (o,ρ',σ'):=by
 show (dN (run aj n) it ρ σ).bind _=_
 rw [hi];exact h
noncomputable def Iz:cr→List Sg
 | .mov _ _ y=>match y with
  |[]=>[]
  |c::y=>[c::y]
 | .jump _ _=>[]
 | .ret=>[]
noncomputable def BX (o:Nh cr):List Sg:=match o with
 |some i=>Iz i
 |none=>[]
noncomputable def named (L:List ah):List Sg:=L.dropLast.flatMap fun l=>BX l.ins
theorem uQ {us:List V}:i8 (.lst us) none (some (.int (-1)))=some (.lst us.dropLast):=by
 show (((.int (-1):V).int?.map fun (i:Int)=>if 0≤i then min i.toNat us.length else (i+(us.length:Int)).toNat).map fun b=>V.lst ((us.take b).drop 0))=_
 have:((-1:Int)+(us.length:Int)).toNat=us.length -1:=by omega
 show some (V.lst ((us.take (if (0:Int)≤-1 then _ else _)).drop 0))=_
 rw [NV (by decide),this,Q7,Rh]
theorem xM {n:Nat} {L:List ah} {ρ:Loc} {σ:ag} {i:Nat} (h:ρ[i]? =some (some (.v (lst L)))):dN (run aj (n+3)) (.seq (.slc (.var i) none (some (.neg 1)))) ρ σ=some (L.dropLast.map ay,σ):=by
 have hv:(run aj (n+1)).e (.var i) ρ σ=some (.v (lst L),σ):=by
  show (ρ[i]?.join.map _)=_
  rw [h];rfl
 have:(run aj (n+3)).e (.slc (.var i) none (some (.neg 1))) ρ σ=some (.v (.lst (L.dropLast.map ay)),σ):=by
  show (eO (run aj (n+2)) (.var i) ρ σ).bind _=_
  have h1:eO (run aj (n+2)) (.var i) ρ σ=some (lst L,σ):=by
   show ((ρ[i]?.join.map _).bind _)=_
   rw [h];rfl
  rw [h1]
  show (i8 (lst L) none (some (V.int (-1)))).map (fun v=>(aA.v v,σ))=_
  rw [lst,uQ,Sk];rfl
 show (eO (run aj (n+3)) _ ρ σ).bind _=_
 have h2:eO (run aj (n+3)) (.slc (.var i) none (some (.neg 1))) ρ σ=some (.lst (L.dropLast.map ay),σ):=by
  show ((run aj (n+3)).e _ ρ σ).bind _=_
  rw [this];rfl
 rw [h2];rfl
theorem E9 {n:Nat} {c:CE} {a b:List CS} {ρ:Loc} {σ:ag} {r:fg×Loc×ag} (h:cv (run aj n) c ρ σ=some (true,σ)) (k:aH (run aj n) a ρ σ=some r):(run aj (n+1)).s (.ite c a b) ρ σ=some r:=by
 show (cv (run aj n) c ρ σ).bind _=_
 rw [h];exact k
theorem bk {n:Nat} {c:CS} {ρ ρ':Loc} {σ σ':ag} (h:(run aj n).s c ρ σ=some (.next,ρ',σ')):aH (run aj n) [c] ρ σ=some (.next,ρ',σ'):=av h rfl
theorem Ej {body:V→Loc→ag→tF} {a b:V} {ρ ρ1:Loc} {σ σ1:ag} {r:fg×Loc×ag} (h1:body a ρ σ=some (.next,ρ1,σ1)) (h2:fy body [b] ρ1 σ1=some r):fy body [a,b] ρ σ=some r:=by
 show (body a ρ σ).bind _=_
 rw [h1];exact h2
theorem FK {body:V→Loc→ag→tF} {b:V} {ρ ρ1:Loc} {σ σ1:ag} (h1:body b ρ σ=some (.next,ρ1,σ1)):fy body [b] ρ σ=some (.next,ρ1,σ1):=by
 show (body b ρ σ).bind _=_
 rw [h1];rfl
structure vP (L:List ah) (rest:List ah) (ρ:Loc) (σ:ag) (acc:List Sg) (x y:Nh aA):Prop where
 loc:ρ=[some (.v (lst L)),some (.cell 0),x,y]
 sto:σ=[.lst (acc.map .str)]
 eq:acc++rest.flatMap (fun l=>BX l.ins)=named L
 some_:∀l∈rest,∃i,l.ins=some i
noncomputable def wo:List CS:=[.for_ (.one 3) (.seq (.attr (.attr (.var 2) .instruction) .operands))
   [.ite (.and [(.cmp (.attr (.var 3) .kind) .ne (.cst (.str [114,101,108]))),(.cmp (.callM (.var 3) .symbol) .ne (.cst (.str [])))])
    [.expr (.callS .append (.var 1) [(.callM (.var 3) .symbol)])]
    []]]
theorem wy {n:Nat} {L:List ah} (hz:(named L).length≤16777216) (l:ah) (rest:List ah) (ρ:Loc) (σ:ag) (p:∃acc x y,vP L (l::rest) ρ σ acc x y):
  ∃ρ' σ',((gS (.one 2) (ay l) ρ).bind fun ρ=>aH (run aj (n+30)) wo ρ σ)=some (.next,ρ',σ')∧∃acc x y,vP L rest ρ' σ' acc x y:=by
 obtain ⟨acc,x,z,rfl,rfl,e,sm⟩:=p
 obtain ⟨i,hi⟩:=sm l (.head _)
 obtain ⟨labs,o⟩:=l
 cases hi
 have sm':∀l∈rest,∃i,l.ins=some i:=fun l m=>sm l (.tail _ m)
 have e0:Iz i=[]→acc++rest.flatMap (fun l=>BX l.ins)=named L:=fun h=>by rw [←e];show _=acc++(Iz i++_);rw [h];rfl
 cases i with
 |jump m t=>exact ⟨[some (.v (lst L)),some (.cell 0),some (.v (ay ⟨labs,some (.jump m t)⟩)),some (.v (.inst .rel [.str [114,101,108],.int 0,.str t]))],[.lst (acc.map .str)],by kernel_rfl,acc,_,_,rfl,rfl,e0 rfl,sm'⟩
 |ret=>exact ⟨[some (.v (lst L)),some (.cell 0),some (.v (ay ⟨labs,some (.ret)⟩)),z],[.lst (acc.map .str)],by kernel_rfl,acc,_,_,rfl,rfl,e0 rfl,sm'⟩
 |mov w i y=>
  cases y with
  |nil=>exact ⟨[some (.v (lst L)),some (.cell 0),some (.v (ay ⟨labs,some (.mov w i [])⟩)),some (.v (.inst .imm [.str [105,109,109],.int i,.str []]))],[.lst (acc.map .str)],by kernel_rfl,acc,_,_,rfl,rfl,e0 rfl,sm'⟩
  |cons c y=>
   have hl:(acc.map V.str).length+1≤16777216:=by
    have:acc.length+1≤(named L).length:=by
     rw [←e,Nj]
     show _≤acc.length+([c::y]++_).length
     rw [Nj]
     exact NT (Oa 1 _) _
    rw [Nl]
    exact Ni this hz
   have ev:∃x' y',aH (run aj (n+30)) wo [some (.v (lst L)),some (.cell 0),some (.v (ay ⟨labs,some (.mov w i (c::y))⟩)),z] [.lst (acc.map .str)]=some (.next,[some (.v (lst L)),some (.cell 0),x',y'],[.lst (acc.map .str++[.str (c::y)])]):=
    ⟨some (.v (ay ⟨labs,some (.mov w i (c::y))⟩)),some (.v (.inst .imm [.str [105,109,109],.int i,.str (c::y)])),bk (n:=n+30) (gp (n:=n+29) (us:=[.inst .reg [.str [114,101,103],w0 w],.inst .imm [.str [105,109,109],.int i,.str (c::y)]]) (σ1:=[.lst (acc.map .str)]) rfl
     (Ej (ρ1:=[some (.v (lst L)),some (.cell 0),some (.v (ay ⟨labs,some (.mov w i (c::y))⟩)),some (.v (.inst .reg [.str [114,101,103],w0 w]))]) (σ1:=[.lst (acc.map .str)]) rfl
      (FK (bk (n:=n+29) (ρ:=[some (.v (lst L)),some (.cell 0),some (.v (ay ⟨labs,some (.mov w i (c::y))⟩)),some (.v (.inst .imm [.str [105,109,109],.int i,.str (c::y)]))]) (σ:=[.lst (acc.map .str)]) (E9 (n:=n+28) rfl (bk (j4 (n:=n+26) (σ1:=[.lst (acc.map .str)]) (σ2:=[.lst (acc.map .str)]) (k:=0) (u:= .str (c::y)) rfl rfl rfl rfl hl)))))))⟩
   obtain ⟨x',y',ev⟩:=ev
   exact ⟨_,_,ev,acc++[c::y],_,_,rfl,by rw [NS];rfl,by rw [NI];exact e,sm'⟩
theorem sX {L:List ah} (hw:∀l∈L.dropLast,∃i,l.ins=some i) (hz:(named L).length≤16777216):l7 40 19 [lst L] (.lst ((named L).map .str)):=fun n=>by
 refine Nf fun nG=> ?_
 obtain ⟨ρ',σ',e,acc,x,y,rfl,rfl,e2,_⟩:=FB (body:=fun x ρ σ=>(gS (.one 2) x ρ).bind fun ρ=>aH (run aj (n+38)) wo ρ σ) (enc:=ay) (P:=fun rest ρ σ=>∃acc x y,vP L rest ρ σ acc x y) (fun l rest ρ σ p=>wy (n:=n+8) hz l rest ρ σ p) (xs:=L.dropLast) (ρ:=[some (.v (lst L)),some (.cell 0),none,none]) (σ:=[.lst []]) ⟨[],none,none,rfl,rfl,rfl,hw⟩
 have e3:acc=named L:=by rw [←e2];exact (NH _).symm
 subst e3
 refine nG ?_
 exact bV (n:=n+39) (fn:=ip) (ρ:=[some (.v (lst L)),some (.cell 0),x,y]) (σ2:=[.lst ((named L).map .str)]) (W:= .cell 0) rfl rfl
  (av (n:=n+39) (ρ':=[some (.v (lst L)),some (.cell 0),none,none]) (σ':=[.lst []]) (by kernel_rfl) (av (n:=n+39) (gp (n:=n+38) (xM (n:=n+35) rfl) e) (dY (n:=n+38) (by kernel_rfl)))) rfl
theorem Df {n:Nat} {l r:CE} {ρ:Loc} {σ σ1 σ2:ag} {U W:aA} {a b:List V} (h1:(run aj n).e l ρ σ=some (U,σ1)) (k1:U.toV=some (.lst a)) (h2:(run aj n).e r ρ σ1=some (W,σ2)) (k2:W.toV=some (.lst b)) (hz:a.length+b.length≤16777216):
  (run aj (n+1)).e (.bin .add l r) ρ σ=some (.v (.lst (a++b)),σ2):=by
 have:jC (run aj n) [l,r] ρ σ=some ([.lst a,.lst b],σ2):=by
  show (((run aj n).e l ρ σ).bind _).bind _=_
  rw [h1]
  show ((((run aj n).e r ρ σ1).bind _).bind _).bind _=_
  rw [h2]
  show (toVs [U,W]).bind _=_
  show ((U.toV).bind _).bind _=_
  rw [k1]
  show (((W.toV).bind _).bind _).bind _=_
  rw [k2];rfl
 show (jC (run aj n) [l,r] ρ σ).bind _=_
 rw [this]
 show (if _ then _ else _:Nh V).map _=_
 rw [NG (eU hz)];rfl
theorem aB {n f:Nat} {args:List CE} {us:List V} {ρ:Loc} {σ:ag} {U:aA} {Us:List aA} (ha:kL (run aj n) args ρ σ=some (Us,σ)) (hu:Us.map aA.bind=us.map aA.v) (hc:(run aj n).c f (us.map aA.v) []=some (.ok U,[])) (hU:U.plain?=some U):
  (run aj (n+1)).e (.callF f args) ρ σ=some (U,σ):=by
 have cells:∀us:List V,eN (us.map aA.v)=[]:=fun us=>by induction us with|nil=>rfl|cons u us ih=>exact ih
 have ren:∀us:List V,renum 0 (us.map aA.v)=us.map aA.v:=fun us=>by induction us with|nil=>rfl|cons u us ih=>exact Nt (aA.v u:: ·) ih
 show (kL (run aj n) args ρ σ).bind _=_
 rw [ha]
 show (cO (run aj n) f (Us.map aA.bind) σ).bind _=_
 rw [hu]
 have:cO (run aj n) f (us.map aA.v) σ=some (.ok U,σ):=by
  unfold cO
  rw [cells us,NG Q9]
  show ((run aj n).c f (renum 0 (us.map aA.v)) []).map _=_
  rw [ren us,hc];rfl
 rw [this]
 show U.plain?.map _=_
 rw [hU];rfl
theorem qa:∀xs:List Sg,V.dats (xs.map .str)=true
 |[]=>rfl
 |_::xs=>qa xs
theorem qc:∀xs:List Sg,V.deps (xs.map .str)=0
 |[]=>rfl
 |_::xs=>by show max 0 (V.deps (xs.map .str))=0;rw [qc xs];rfl
theorem qj (x:Sg) (xs:List Sg):gW (.str x) (xs.map .str)=true:=by
 show (V.dats _&&(_&&decide (V.deps _≤60)))=true
 rw [qa,qc];rfl
theorem xQ (x:Sg) (xs:List Sg):decide (V.str x∈xs.map V.str)=decide (x∈xs):=by
 refine OW.mpr ⟨fun m=> ?_,fun m=>OS m⟩
 obtain ⟨y,h1,h2⟩:=Of.mp m
 cases h2;exact h1
theorem Kf {n:Nat} {a b:CE} {ρ:Loc} {σ:ag} {x:Sg} {xs:List Sg} {W:aA} (h1:(run aj n).e a ρ σ=some (.v (.str x),σ)) (h2:(run aj n).e b ρ σ=some (W,σ)) (hW:W.deref σ=some (.lst (xs.map .str))):
  (run aj (n+1)).e (.cmp a .in_ b) ρ σ=some (.v (.bool (decide (x∈xs))),σ):=by
 have:rS (run aj n) [a,b] ρ σ=some ([.str x,.lst (xs.map .str)],σ):=by
  show (((run aj n).e a ρ σ).bind _).bind _=_
  rw [h1]
  show ((((run aj n).e b ρ σ).bind _).bind _).bind _=_
  rw [h2]
  show (((W.deref σ).bind _).bind _).bind _=_
  rw [hW];rfl
 show (rS (run aj n) [a,b] ρ σ).bind _=_
 rw [this]
 show ((if gW (.str x) (xs.map .str) then some (decide (V.str x∈xs.map V.str)) else none).map _:Nh (aA×ag))=_
 rw [NG (qj x xs),xQ];rfl
noncomputable def used (L:List ah):List Sg:=named L++L.map fun l=>bg l.ins
noncomputable def lW (us:List Sg) (l:ah):ah:=⟨l.labs.filter fun x=>decide (x∈us),l.ins⟩
noncomputable def kept (L:List ah):List ah:=L.map (lW (used L))
theorem jS {p:Sg→Bool}:∀labs:List Sg,(labs.flatMap fun x=>if p x then [V.str x] else [])=(labs.filter p).map V.str
 |[]=>rfl
 |x::labs=>by
  rw [Pm,jS labs,Ve]
  cases p x<;>rfl
structure Sz (L:List ah):Prop where
 len:L.length≤1000
 labs:∀l∈L,l.labs.length≤1000
 nm:(named L).length≤1000
theorem iw:∀L:List ah,(L.flatMap fun l=>[V.str (bg l.ins)])=(L.map fun l=>bg l.ins).map V.str
 |[]=>rfl
 |l::L=>Nt (V.str (bg l.ins):: ·) (iw L)
theorem H0 {n:Nat} {L:List ah} (hw:∀l∈L.dropLast,∃i,l.ins=some i) (S:Sz L):(run aj (n+58)).e (.bin .add (.bin .add (.callB .list_ [(.var 1)]) (.callF 19 [(.var 0)])) (.comp (.callF 5 [(.attr (.var 3) .instruction)]) [(.mk (.one 3) (.seq (.var 0)) [])]))
  [some (.v (lst L)),some (.v (.tup [])),none,none,none,none] []=some (.v (.lst ((used L).map .str)),[]):=by
 have h1:(run aj (n+56)).e (.callF 19 [(.var 0)]) [some (.v (lst L)),some (.v (.tup [])),none,none,none,none] []=some (.own (.lst ((named L).map .str)),[]):=
  aB (n:=n+55) (us:=[lst L]) (Us:=[.v (lst L)]) (by kernel_rfl) rfl (sX hw (Ni S.nm (by decide)) (n+15)) rfl
 have h2:=gY (n:=n+56) (elt:= .callF 5 [(.attr (.var 3) .instruction)]) (t:= .one 3) (it:= .seq (.var 0)) (ifs:=[]) (gs:=[]) (ρ:=[some (.v (lst L)),some (.v (.tup [])),none,none,none,none]) (σ:=[]) (xs:=L) (enc:=ay) (g:=fun l=>[V.str (bg l.ins)]) (by kernel_rfl)
  (fun l _=>by
   obtain ⟨labs,o⟩:=l
   cases o with
   |none=>kernel_rfl
   |some i=>cases i<;>kernel_rfl) (by rw [iw,Nl,Nl];exact Ni S.len (by decide))
 rw [iw] at h2
 have h3:=Df (n:=n+56) (a:=[]) (show (run aj (n+56)).e (.callB .list_ [(.var 1)]) [some (.v (lst L)),some (.v (.tup [])),none,none,none,none] []=some (.v (.lst []),[]) by kernel_rfl) rfl h1 rfl (by rw [Nl];exact Ni (NT S.nm 0) (by decide))
 have h4:=Df (n:=n+57) h3 rfl h2 rfl (by rw [Nj,Nl,Nl,Nl];exact Ni (N6 (NT S.nm 0) S.len) (by decide))
 rw [h4,used,NS];rfl
noncomputable def yh:CE:= .comp (.var 5) [(.mk (.one 5) (.seq (.attr (.var 4) .labels)) [(.cmp (.var 5) .in_ (.var 2))])]
theorem Dz {n:Nat} {l:ah} {us:List Sg} {a b c:Nh aA} (hl:l.labs.length≤1000):(run aj (n+56)).e yh [a,b,some (.v (.lst (us.map .str))),c,some (.v (ay l)),none] []=some (.own (.lst ((lW us l).labs.map .str)),[]):=by
 have h:=gY (n:=n+55) (elt:= .var 5) (t:= .one 5) (it:= .seq (.attr (.var 4) .labels)) (ifs:=[(.cmp (.var 5) .in_ (.var 2))]) (gs:=[]) (ρ:=[a,b,some (.v (.lst (us.map .str))),c,some (.v (ay l)),none]) (σ:=[]) (xs:=l.labs) (enc:=V.str)
  (g:=fun x=>if decide (x∈us) then [V.str x] else []) (by kernel_rfl)
  (fun x _=>by
   have q:=Kf (n:=n+54) (a:= .var 5) (b:= .var 2) (ρ:=[a,b,some (.v (.lst (us.map .str))),c,some (.v (ay l)),some (.v (.str x))]) (σ:=[]) (x:=x) (xs:=us) (W:= .v (.lst (us.map .str))) (by kernel_rfl) (by kernel_rfl) rfl
   show ((((run aj (n+55)).e (.cmp (.var 5) .in_ (.var 2)) [a,b,some (.v (.lst (us.map .str))),c,some (.v (ay l)),some (.v (.str x))] []).bind _).bind _).bind _=_
   rw [q]
   cases decide (x∈us)<;>rfl) (by rw [jS,Nl];exact Ni (To _ _) (Ni hl (by decide)))
 rw [jS] at h
 exact h
theorem qL {n:Nat} {c:iG} {args:List CE} {ρ:Loc} {σ σ':ag} {us:List V} {w:V} (h:jC (run aj n) args ρ σ=some (us,σ')) (k:iB c us=some w):(run aj (n+1)).e (.mk c args) ρ σ=some (.v w,σ'):=by
 show (jC (run aj n) args ρ σ).bind _=_
 rw [h]
 show (iB c us).map _=_
 rw [k];rfl
theorem aI {n:Nat} {a b:CE} {ρ:Loc} {σ σ1 σ2:ag} {U W:aA} {u w:V} (h1:(run aj n).e a ρ σ=some (U,σ1)) (k1:U.toV=some u) (h2:(run aj n).e b ρ σ1=some (W,σ2)) (k2:W.toV=some w):jC (run aj n) [a,b] ρ σ=some ([u,w],σ2):=by
 show (((run aj n).e a ρ σ).bind _).bind _=_
 rw [h1]
 show ((((run aj n).e b ρ σ1).bind _).bind _).bind _=_
 rw [h2]
 show ((U.toV).bind _).bind _=_
 rw [k1]
 show (((W.toV).bind _).bind _).bind _=_
 rw [k2];rfl
theorem Io {L:List ah} (hw:∀l∈L.dropLast,∃i,l.ins=some i) (S:Sz L):l7 60 20 [lst L,.tup []] (.lst ((kept L).map ay)):=fun n=>by
 have key:∀l∈L,jh (run aj (n+57)) (.one 4) [] (dQ (run aj (n+57)) (.mk .line [yh,(.attr (.var 4) .instruction)]) []) (qT (Gy (.one 4)++Dy []) [some (.v (lst L)),some (.v (.tup [])),some (.v (.lst ((used L).map .str))),none,none,none]) (ay l) []=some ([ay (lW (used L) l)],[]):=fun l m=>by
  have h:=qL (n:=n+56) (c:= .line) (aI (Dz (n:=n) (us:=used L) (a:=some (.v (lst L))) (b:=some (.v (.tup []))) (c:=none) (S.labs l m)) rfl (show (run aj (n+56)).e (.attr (.var 4) .instruction) _ []=some (.v (aS l.ins),[]) by kernel_rfl) rfl) (w:=ay (lW (used L) l)) rfl
  show (((run aj (n+57)).e (.mk .line [yh,(.attr (.var 4) .instruction)]) [some (.v (lst L)),some (.v (.tup [])),some (.v (.lst ((used L).map .str))),none,some (.v (ay l)),none] []).bind _).map _=_
  rw [h];rfl
 have h:=gY (n:=n+57) (elt:= .mk .line [yh,(.attr (.var 4) .instruction)]) (t:= .one 4) (it:= .seq (.var 0)) (ifs:=[]) (gs:=[]) (ρ:=[some (.v (lst L)),some (.v (.tup [])),some (.v (.lst ((used L).map .str))),none,none,none]) (σ:=[]) (xs:=L) (enc:=ay) (g:=fun l=>[ay (lW (used L) l)]) (by kernel_rfl) key
  (by rw [f9,Nl];exact Ni S.len (by decide))
 rw [f9] at h
 have hk:(kept L).map ay=L.map fun l=>ay (lW (used L) l):=OG
 rw [hk]
 refine bV (n:=n+59) (fn:=j9) (ρ:=[some (.v (lst L)),some (.v (.tup [])),some (.v (.lst ((used L).map .str))),none,none,none]) rfl rfl (av (n:=n+59) (ρ':=[some (.v (lst L)),some (.v (.tup [])),some (.v (.lst ((used L).map .str))),none,none,none]) (σ':=[]) ?_ (dY (n:=n+58) h)) rfl
 show ((((run aj (n+58)).e (.bin .add (.bin .add (.callB .list_ [(.var 1)]) (.callF 19 [(.var 0)])) (.comp (.callF 5 [(.attr (.var 3) .instruction)]) [(.mk (.one 3) (.seq (.var 0)) [])])) [some (.v (lst L)),some (.v (.tup [])),none,none,none,none] []).bind _).bind _)=_
 rw [H0 hw S];rfl
noncomputable def pr (p:ah×Nat):V:= .tup [.int (p.2:Int),ay p.1]
theorem mA:∀(L:List ah) (k:Nat),jm k (L.map ay)=(L.zipIdx k).map pr
 |[],_=>rfl
 |l::L,k=>Nt (pr (l,k):: ·) (mA L (k+1))
noncomputable def aq (L:List ah):List Sg:=L.flatMap (·.labs)
noncomputable def cD (k:Nat) (L:List ah):List Nat:=List.rec (motive:=fun _=>Nat→List Nat) (fun _=>[]) (fun l _ ih k=>l.labs.map (fun _=>k)++ih (k+1)) L k
noncomputable def ai (k:Nat):V:= .int (k:Int)
noncomputable def an (L:List ah):V:= .dct (aq L) ((cD 0 L).map ai)
theorem o5:∀{ks:List Sg} {vs:List V} {x:Sg} {y:V},x∉ks→ks.length=vs.length→eB ks vs x y=(ks++[x],vs++[y])
 |[],[],_,_,_,_=>rfl
 |[],_::_,_,_,_,h=>nomatch h
 |_::_,[],_,_,_,h=>nomatch h
 |k::ks,v::vs,x,y,hx,hl=>by
  have ne:k≠x:=fun e=>hx (by rw [e];exact .head _)
  show (if k=x then (k::ks,y::vs) else (k::(eB ks vs x y).1,v::(eB ks vs x y).2))=_
  rw [NV ne,o5 (fun m=>hx (.tail _ m)) (PO hl)]
  rfl
theorem gy {n:Nat} {c:CE} {ρ:Loc} {σ:ag} {b:Bool} (h:(run aj n).e c ρ σ=some (.v (.bool b),σ)):cv (run aj n) c ρ σ=some (b,σ):=by
 show ((run aj n).e c ρ σ).bind _=_
 rw [h];rfl
theorem cC {n:Nat} {c:CE} {ρ:Loc} {σ σ':ag} {U:aA} {u:V} (h:(run aj n).e c ρ σ=some (U,σ')) (k:U.toV=some u):eO (run aj n) c ρ σ=some (u,σ'):=by
 show ((run aj n).e c ρ σ).bind _=_
 rw [h]
 show (U.toV).bind _=_
 rw [k];rfl
theorem IH {n:Nat} {x i e:CE} {ρ:Loc} {σ:ag} {c:Nat} {ks:List Sg} {vs:List V} {k:Sg} {u:V} (h1:eO (run aj n) e ρ σ=some (u,σ)) (h2:(run aj n).e x ρ σ=some (.cell c,σ)) (h3:eO (run aj n) i ρ σ=some (.str k,σ)) (h4:σ[c]? =some (.dct ks vs)) (hz:ks.length≤16777216):
  (run aj (n+1)).s (.setIdx x i e) ρ σ=some (.next,ρ,σ.set c (.dct (eB ks vs k u).1 (eB ks vs k u).2)):=by
 show (eO (run aj n) e ρ σ).bind _=_
 rw [h1]
 show ((run aj n).e x ρ σ).bind _=_
 rw [h2]
 show (eO (run aj n) i ρ σ).bind _=_
 rw [h3]
 show (σ[c]?).bind _=_
 rw [h4]
 show (if _ then _ else _:Nh V).map _=_
 rw [NG (eU hz)];rfl
section
variable {E:Ev} {ρ:Loc} {σ:ag} {n:Nat}
theorem i3 (e:CE):(run aj (n+1)).e e ρ σ=dT aj (run aj n) e ρ σ:=rfl
theorem iR (c:CS):(run aj (n+1)).s c ρ σ=dX aj (run aj n) c ρ σ:=rfl
theorem fD:aH E [] ρ σ=some (.next,ρ,σ):=rfl
theorem jw {α:Type} (b:Bool) (x y:α):(if b=true then x else y)=bif b then x else y:=by cases b<;>rfl
theorem cR (c:CS) (cs:List CS):aH E (c::cs) ρ σ=(E.s c ρ σ).bind fun r=>bif r.1.goes then aH E cs r.2.1 r.2.2 else some r:=by
 show NK (E.s c ρ σ) _=_
 congr 1;funext r;exact jw _ _ _
theorem fE (u:V):dT aj E (.cst u) ρ σ=some (.v u,σ):=rfl
theorem fO (i:Int):dT aj E (.neg i) ρ σ=some (.v (.int (-i)),σ):=rfl
theorem fC (i:Nat):dT aj E (.var i) ρ σ=ρ[i]?.join.map fun U=>(U,σ):=rfl
theorem fv (es:List CE):dT aj E (.tup es) ρ σ=(jC E es ρ σ).bind fun r=>bif cU r.1.length then some (.v (.tup r.1),r.2) else none:=by
 show NK (jC E es ρ σ) _=_
 congr 1;funext r;exact jw _ _ _
theorem d6 (es:List CE):dT aj E (.lst es) ρ σ=(jC E es ρ σ).bind fun r=>bif cU r.1.length then some (.own (.lst r.1),r.2) else none:=by
 show NK (jC E es ρ σ) _=_
 congr 1;funext r;exact jw _ _ _
theorem du:dT aj E .dct0 ρ σ=some (.own (.dct [] []),σ):=rfl
theorem c9 (e:CE) (f:gU):dT aj E (.attr e f) ρ σ=(eO E e ρ σ).bind fun r=>(kS r.1 f).map fun v=>(.v v,r.2):=rfl
theorem fq (e i:CE):dT aj E (.idx e i) ρ σ=(rS E [e,i] ρ σ).bind fun r=>(two r.1 iW).map fun v=>(.v v,r.2):=rfl
theorem dW (e:CE) (lo hi:Nh CE):dT aj E (.slc e lo hi) ρ σ=(eO E e ρ σ).bind fun r=>(E5 E lo ρ r.2).bind fun a=>(E5 E hi ρ a.2).bind fun b=>(i8 r.1 a.1 b.1).map fun v=>(.v v,b.2):=rfl
theorem fp (o:Fa) (l r:CE):dT aj E (.bin o l r) ρ σ=(jC E [l,r] ρ σ).bind fun r=>(two r.1 (oE o)).map fun v=>(.v v,r.2):=rfl
theorem fG (l:CE) (o:um) (r:CE):dT aj E (.cmp l o r) ρ σ=(rS E [l,r] ρ σ).bind fun r=>(two r.1 (gD o)).map fun v=>(.v (.bool v),r.2):=rfl
theorem cQ (a:CE) (o:um) (b:CE) (o':um) (c:CE):dT aj E (.cmp2 a o b o' c) ρ σ=(jC E [a,b] ρ σ).bind fun r=>two r.1 fun x y=>(gD o x y).bind fun v=>bif v then (eO E c ρ r.2).bind fun q=>(gD o' y q.1).map fun v=>(.v (.bool v),q.2) else some (.v (.bool false),r.2):=by
 show NK (jC E [a,b] ρ σ) _=_
 congr 1;funext r
 congr 1;funext x y
 show NK (gD o x y) _=_
 congr 1;funext v;exact jw _ _ _
theorem eX (es:List CE):dT aj E (.and es) ρ σ=(fc E true es ρ σ).map fun r=>(.v (.bool r.1),r.2):=rfl
theorem hP (es:List CE):dT aj E (.or es) ρ σ=(fc E false es ρ σ).map fun r=>(.v (.bool r.1),r.2):=rfl
theorem eY (e:CE):dT aj E (.not e) ρ σ=(cv E e ρ σ).map fun r=>(.v (.bool !r.1),r.2):=rfl
theorem fe (c a b:CE):dT aj E (.ite c a b) ρ σ=(cv E c ρ σ).bind fun r=>E.e (bif r.1 then a else b) ρ r.2:=by
 show NK (cv E c ρ σ) _=_
 congr 1;funext r;rw [←jw]
theorem bL (f:Nat) (args:List CE):dT aj E (.callF f args) ρ σ=(kL E args ρ σ).bind fun r=>(cO E f (r.1.map aA.bind) r.2).bind fun q=>q.1.opd?.map fun U=>(U,q.2):=rfl
theorem iX (c:iG) (args:List CE):dT aj E (.mk c args) ρ σ=(jC E args ρ σ).bind fun r=>(iB c r.1).map fun v=>(.v v,r.2):=rfl
theorem ch (b:Bf) (args:List CE):dT aj E (.callB b args) ρ σ=(rS E args ρ σ).bind fun r=>(vN b r.1).map fun v=>(.v v,r.2):=rfl
theorem cf (e:CE) (m:EE):dT aj E (.callM e m) ρ σ=(eO E e ρ σ).bind fun r=>r.1.inst?.bind fun p=>(aj.meth p.1 m).bind fun f=>(E.c f [.v r.1] []).bind fun q=>q.1.opd?.map fun U=>(U,r.2):=rfl
theorem aW (e:CE) (args:List CE):dT aj E (.callS .append e args) ρ σ=kC E e args ρ σ:=rfl
theorem dn (e:CE) (args:List CE):dT aj E (.callS .pop e args) ρ σ=D6 E e args ρ σ:=rfl
theorem dq (e:CE) (args:List CE):dT aj E (.callS .get e args) ρ σ=qf aj E .get e args ρ σ:=rfl
theorem bB (e a:CE):kC E e [a] ρ σ=(E.e e ρ σ).bind fun r=>r.1.cell?.bind fun k=>((r.2[k]?).bind V.lst?).bind fun _=>(eO E a ρ r.2).bind fun q=>((q.2[k]?).bind V.lst?).bind fun us=>
  bif cU (us.length+1) then some (.v .none,q.2.set k (.lst (us++[q.1]))) else none:=by
 show NK (E.e e ρ σ) _=_
 congr 1;funext r;congr 1;funext k;congr 1;funext w;congr 1;funext q;congr 1;funext us;exact jw _ _ _
theorem fw (e:CE):D6 E e [] ρ σ=(E.e e ρ σ).bind fun r=>r.1.cell?.bind fun k=>((r.2[k]?).bind V.lst?).bind fun us=>us.getLast?.map fun x=>(.v x,r.2.set k (.lst us.dropLast)):=rfl
theorem fN (e:CE) (args:List CE):qf aj E .get e args ρ σ=(E.e e ρ σ).bind fun r=>(r.1.deref r.2).bind fun u=>(jC E args ρ r.2).bind fun q=>if r.1.deref q.2=some u then (G2 aj .get u q.1).map fun v=>(.v v,q.2) else none:=rfl
theorem de:kL E [] ρ σ=some ([],σ):=rfl
theorem a0 (e:CE) (es:List CE):kL E (e::es) ρ σ=(E.e e ρ σ).bind fun r=>(kL E es ρ r.2).bind fun q=>some (r.1::q.1,q.2):=rfl
theorem bZ:toVs []=some []:=rfl
theorem dt (U:aA) (Us:List aA):toVs (U::Us)=U.toV.bind fun u=>(toVs Us).bind fun us=>some (u::us):=rfl
theorem dg:nN σ []=some []:=rfl
theorem fF (U:aA) (Us:List aA):nN σ (U::Us)=(U.deref σ).bind fun u=>(nN σ Us).bind fun us=>some (u::us):=rfl
theorem et (es:List CE):jC E es ρ σ=(kL E es ρ σ).bind fun r=>(toVs r.1).bind fun us=>some (us,r.2):=rfl
theorem fH (e:CE):eO E e ρ σ=(E.e e ρ σ).bind fun r=>r.1.toV.bind fun u=>some (u,r.2):=rfl
theorem en (es:List CE):rS E es ρ σ=(kL E es ρ σ).bind fun r=>(nN r.2 r.1).bind fun us=>some (us,r.2):=rfl
theorem dF:E5 E none ρ σ=some (none,σ):=rfl
theorem fA (e:CE):E5 E (some e) ρ σ=(eO E e ρ σ).map fun r=>(some r.1,r.2):=rfl
theorem fi (e:CE):cv E e ρ σ=(E.e e ρ σ).bind fun r=>r.1.bool?.map fun b=>(b,r.2):=rfl
theorem cy (t:Bool) (e:CE):fc E t [e] ρ σ=cv E e ρ σ:=by cases h:cv E e ρ σ<;>(show NK (cv E e ρ σ) _=_;rw [h];rfl)
theorem cS (e e':CE) (es:List CE):fc E true (e::e'::es) ρ σ=(cv E e ρ σ).bind fun r=>bif r.1 then fc E true (e'::es) ρ r.2 else some (false,r.2):=by
 show NK (cv E e ρ σ) _=_
 congr 1;funext r;obtain ⟨b,s⟩:=r;cases b<;>rfl
theorem cB (e e':CE) (es:List CE):fc E false (e::e'::es) ρ σ=(cv E e ρ σ).bind fun r=>bif r.1 then some (true,r.2) else fc E false (e'::es) ρ r.2:=by
 show NK (cv E e ρ σ) _=_
 congr 1;funext r;obtain ⟨b,s⟩:=r;cases b<;>rfl
theorem qM (u:V):(aA.v u).deref σ=some u:=rfl
theorem fP (u:V):(aA.own u).deref σ=some u:=rfl
theorem dy (k:Nat):(aA.cell k).deref σ=σ[k]? :=rfl
theorem qX (u:V):(aA.v u).toV=some u:=rfl
theorem fK (u:V):(aA.own u).toV=some u:=rfl
theorem qR (u:V):(aA.v u).bind= .v u:=rfl
theorem fz (u:V):(aA.own u).bind= .v u:=rfl
theorem qS (b:Bool):(aA.v (.bool b)).bool?=some b:=rfl
theorem bP {β α:Type} (f:β→β→Nh α) (a b:β):two [a,b] f=f a b:=rfl
theorem cE {α β:Type} (a:α) (f:α→Nh β):(some a).bind f=f a:=rfl
theorem dE {α β:Type} (a:α) (f:α→β):(some a).map f=some (f a):=rfl
theorem dK {α:Type} (a:Nh α):(some a).join=a:=rfl
theorem Ml {α β:Type} (f:α→Nh β):(Pi f none:Nh (Nh β))=none:=rfl
theorem bq (i:Nat) (e:CE):dX aj E (.assign i e) ρ σ=match e.comp? with
  |some p=>tK E i p ρ σ
  |none=>tD E i e ρ σ:=rfl
theorem aV (i:Nat) (e:CE):tD E i e ρ σ=(eO E e ρ σ).bind fun r=>some (.next,ρ.set i (some (.v r.1)),r.2):=rfl
theorem I8 (i:Nat) (p:CE×List CG):tK E i p ρ σ=(dQ E p.1 p.2 ρ σ).bind fun r=>if cU r.1.length then some (.next,ρ.set i (some (.v (.lst r.1))),r.2) else none:=rfl
theorem dh (i:Nat) (e:CE):Hw E i e ρ σ=(E.e e ρ σ).bind fun r=>r.1.own?.map fun u=>(.next,ρ.set i (some (.cell r.2.length)),r.2++[u]):=rfl
theorem cL (e:CE):dX aj E (.expr e) ρ σ=match e.callF? with
  |some p=>xO E p ρ σ
  |none=>(E.e e ρ σ).bind fun r=>some (.next,ρ,r.2):=rfl
theorem fR (e:CE):dX aj E (.ret e) ρ σ=(E.e e ρ σ).bind fun r=>some (.ret r.1,ρ,r.2):=rfl
theorem cG (c:CE) (a b:List CS):dX aj E (.ite c a b) ρ σ=(cv E c ρ σ).bind fun r=>aH E (bif r.1 then a else b) ρ r.2:=by
 show NK (cv E c ρ σ) _=_
 congr 1;funext r;obtain ⟨b,s⟩:=r;cases b<;>rfl
theorem c7:dX aj E .cont ρ σ=some (.cont,ρ,σ):=rfl
theorem bY:dX aj E .raise_ ρ σ=some (.exc,ρ,σ):=rfl
theorem b6 (c:CE) (body:List CS):dX aj E (.while_ c body) ρ σ=fW (cv E c) (aH E body) turns ρ σ:=rfl
theorem aK (ts:List (Nat×Bool)) (es:List CE):dX aj E (.assignT ts es) ρ σ=(wb E ts es ρ σ).bind fun r=>some (.next,iY (ts.map (·.1)) r.1 ρ,r.2):=rfl
theorem br (ts:List Nat) (e:CE):dX aj E (.unpack ts e) ρ σ=(eO E e ρ σ).bind fun r=>r.1.tup?.bind fun us=>if us.length=ts.length then some (.next,iY ts (us.map aA.v) ρ,r.2) else none:=rfl
theorem aZ (x i e:CE):dX aj E (.setIdx x i e) ρ σ=(eO E e ρ σ).bind fun u=>(E.e x ρ u.2).bind fun X=>(eO E i ρ X.2).bind fun k=>X.1.cell?.bind fun c=>(k.2[c]?).bind fun w=>(CL w k.1 u.1).map fun w=>(.next,ρ,k.2.set c w):=rfl
theorem x6:∀us:List V,eN (us.map aA.v)=[]
 |[]=>rfl
 |_::us=>x6 us
theorem GS:∀us:List V,renum 0 (us.map aA.v)=us.map aA.v
 |[]=>rfl
 |u::us=>Nt (aA.v u:: ·) (GS us)
theorem kg {f:Nat} {us:List V} {U:aA} (hc:E.c f (us.map aA.v) []=some (.ok U,[])):cO E f (us.map aA.v) σ=some (.ok U,σ):=by
 unfold cO
 rw [x6 us,NG Q9]
 show (E.c f (renum 0 (us.map aA.v)) []).map _=_
 rw [GS us,hc];rfl
theorem gP {f:Nat} {a:V} {U:aA} (hc:E.c f [.v a] []=some (.ok U,[])):cO E f [.v a] σ=some (.ok U,σ):=kg (us:=[a]) hc
theorem xX {f:Nat} {a b:V} {U:aA} (hc:E.c f [.v a,.v b] []=some (.ok U,[])):cO E f [.v a,.v b] σ=some (.ok U,σ):=kg (us:=[a,b]) hc
theorem sY {f:Nat} {a b c:V} {U:aA} (hc:E.c f [.v a,.v b,.v c] []=some (.ok U,[])):cO E f [.v a,.v b,.v c] σ=some (.ok U,σ):=kg (us:=[a,b,c]) hc
theorem Le {f:Nat} {a b c d:V} {U:aA} (hc:E.c f [.v a,.v b,.v c,.v d] []=some (.ok U,[])):cO E f [.v a,.v b,.v c,.v d] σ=some (.ok U,σ):=kg (us:=[a,b,c,d]) hc
end
section
variable {E:Ev} {ρ:Loc} {σ:ag} {n:Nat}
theorem eZ (i:Nat) (e:CE):dX aj E (.own i e) ρ σ=match e.comp? with
  |some p=>Kc E i p ρ σ
  |none=>Hw E i e ρ σ:=rfl
theorem iV (u:V):(Ac.ok (.v u)).opd?=some (.v u):=rfl
theorem dz (u:V):(Ac.ok (.own u)).opd?=some (.own u):=rfl
theorem c5:fg.next.goes=true:=rfl
theorem dv:fg.cont.goes=false:=rfl
theorem cY (U:aA):(fg.ret U).goes=false:=rfl
theorem dp:fg.exc.goes=false:=rfl
theorem qN:cU ([]:List V).length=true:=rfl
theorem qK (a:V):cU [a].length=true:=rfl
theorem qE (a b:V):cU [a,b].length=true:=rfl
theorem qQ (a b c:V):cU [a,b,c].length=true:=rfl
theorem fM (u:V):(aA.v u).own?=none:=rfl
theorem fL (u:V):(aA.own u).own?=some u:=rfl
theorem c8 (k:Nat):(aA.cell k).cell?=some k:=rfl
theorem fJ (i:Nat) (x:V):gS (.one i) x ρ=some (ρ.set i (some (.v x))):=rfl
theorem fB (i j:Nat) (a b:V):gS (.two i j) (.tup [a,b]) ρ=some ((ρ.set i (some (.v a))).set j (some (.v b))):=rfl
theorem cq (a b:V):gD .eq a b=DK a b:=rfl
theorem bN (a b:V):gD .ne a b=(DK a b).map (!·):=rfl
theorem dA (a b:Int):gD .lt (.int a) (.int b)=some (decide (a <b)):=rfl
theorem dB (a b:Int):gD .le (.int a) (.int b)=some (decide (a≤b)):=rfl
theorem cN (a b:Int):gD .gt (.int a) (.int b)=some (decide (b <a)):=rfl
theorem dm (a b:Int):gD .ge (.int a) (.int b)=some (decide (b≤a)):=rfl
theorem cP (a b:V):gD .in_ a b=Cp a b:=rfl
theorem bH (a b:V):gD .nin a b=(Cp a b).map (!·):=rfl
theorem cZ (a b:V):gD .is_ a b=DR a b:=rfl
theorem bC (a b:V):gD .isnt a b=(DR a b).map (!·):=rfl
theorem bu:DR .none .none=some true:=rfl
theorem bo (i:cr):DR (aP i) .none=some false:=by cases i<;>rfl
theorem Hl (a b:Sg):decide (V.str a=V.str b)=decide (a=b):=OW.mpr ⟨V.str.inj,Nt V.str⟩
theorem Iw (a b:Int):decide (V.int a=V.int b)=decide (a=b):=OW.mpr ⟨V.int.inj,Nt V.int⟩
theorem bE (a b:Sg):DK (.str a) (.str b)=some (decide (a=b)):=Nt some (Hl a b)
theorem bh (a b:Int):DK (.int a) (.int b)=some (decide (a=b)):=Nt some (Iw a b)
theorem bp (l:ah):kS (ay l) .instruction=some (aS l.ins):=rfl
theorem aT (l:ah):kS (ay l) .labels=some (.tup (l.labs.map .str)):=rfl
theorem cj (a b:V):oE .add a b=oC a b:=rfl
theorem DZ (x:Nat) (xs:List Nat):decide (ai x∈xs.map ai)=decide (x∈xs):=by
 refine OW.mpr ⟨fun m=> ?_,fun m=>OS m⟩
 obtain ⟨y,h1,h2⟩:=Of.mp m
 have:(y:Int)=(x:Int):=V.int.inj h2
 cases (Int.ofNat.inj this);exact h1
theorem uM:∀xs:List Nat,V.dats (xs.map ai)=true
 |[]=>rfl
 |_::xs=>uM xs
theorem uu:∀xs:List Nat,V.deps (xs.map ai)=0
 |[]=>rfl
 |_::xs=>by show max 0 (V.deps (xs.map ai))=0;rw [uu xs];rfl
theorem cm (x:Nat) (xs:List Nat):Cp (ai x) (.lst (xs.map ai))=some (decide (x∈xs)):=by
 have:gW (ai x) (xs.map ai)=true:=by
  show (V.dats _&&(_&&decide (V.deps _≤60)))=true
  rw [uM,uu];rfl
 show (if _ then _ else _)=_
 rw [NG this,DZ]
theorem bI (x:Sg) (xs:List Sg):Cp (.str x) (.lst (xs.map .str))=some (decide (x∈xs)):=by
 show (if _ then _ else _)=_
 rw [NG (qj x xs),xQ]
theorem bl (x:Sg) (xs:List Sg):Cp (.str x) (.tup (xs.map .str))=some (decide (x∈xs)):=bI x xs
theorem bQ (x:Sg) (ks:List Sg) (vs:List V):Cp (.str x) (.dct ks vs)=some (decide (x∈ks)):=rfl
theorem i6:wb E [] [] ρ σ=some ([],σ):=rfl
theorem f8 (i:Nat) (ts:List (Nat×Bool)) (e:CE) (es:List CE):wb E ((i,false)::ts) (e::es) ρ σ=(E.e e ρ σ).bind fun r=>r.1.toV.bind fun u=>(wb E ts es ρ r.2).map fun q=>(.v u::q.1,q.2):=rfl
theorem iH (i:Nat) (ts:List (Nat×Bool)) (e:CE) (es:List CE):wb E ((i,true)::ts) (e::es) ρ σ=(E.e e ρ σ).bind fun r=>r.1.own?.bind fun u=>(wb E ts es ρ (r.2++[u])).map fun q=>(.cell r.2.length::q.1,q.2):=rfl
theorem fk (Us:List aA):iY [] Us ρ=ρ:=rfl
theorem fm (i:Nat) (is:List Nat) (U:aA) (Us:List aA):iY (i::is) (U::Us) ρ=iY is Us (ρ.set i (some U)):=rfl
theorem dG (ls:List V) (i:V):iB .line [.lst ls,i]=some (.inst .line [.tup ls,i]):=rfl
theorem iU (us:List V):ft (.tup us)=some us:=rfl
theorem i7 (us:List V):ft (.lst us)=some us:=rfl
theorem dk (us:List V):(V.lst us).lst?=some us:=rfl
theorem b7 (e:CE) (f:gU):(CE.attr e f).comp?=none:=rfl
theorem dH (e i:CE):(CE.idx e i).comp?=none:=rfl
theorem bA (f:Nat) (es:List CE):(CE.callF f es).comp?=none:=rfl
theorem dw (o:Fa) (l r:CE):(CE.bin o l r).comp?=none:=rfl
theorem bv (m:Mf) (e:CE) (es:List CE):(CE.callS m e es).comp?=none:=rfl
theorem b9 (a:CE) (o:um) (b:CE) (o':um) (c:CE):(CE.cmp2 a o b o' c).comp?=none:=rfl
theorem fu (c:iG) (es:List CE):(CE.mk c es).comp?=none:=rfl
theorem dr (e:CE) (a b:Nh CE):(CE.slc e a b).comp?=none:=rfl
theorem dj (u:V):(CE.cst u).comp?=none:=rfl
theorem c6 (i:Nat):(CE.var i).comp?=none:=rfl
theorem df (es:List CE):(CE.lst es).comp?=none:=rfl
theorem bt (m:Mf) (e:CE) (es:List CE):(CE.callS m e es).callF?=none:=rfl
noncomputable def bd (E:Ev) (t:kN) (body:List CS) (x:V) (ρ:Loc) (σ:ag):tF:=(gS t x ρ).bind fun ρ=>aH E body ρ σ
theorem J7 (t:kN) (it:It) (body:List CS):dX aj E (.for_ t it body) ρ σ=(dN E it ρ σ).bind fun r=>fy (bd E t body) r.1 ρ r.2:=rfl
theorem uf (e:CE):dN E (.seq e) ρ σ=(eO E e ρ σ).bind fun r=>(u0 r.1).map fun us=>(us,r.2):=rfl
theorem oX (es:List CE):dN E (.range es) ρ σ=(jC E es ρ σ).bind fun r=>(iD r.1).map fun us=>(us,r.2):=rfl
theorem Dc (e:CE):dN E (.enum e) ρ σ=(eO E e ρ σ).bind fun r=>r.1.lst?.map fun us=>(jm 0 us,r.2):=rfl
theorem aQ (body:V→Loc→ag→tF) (x:V) (xs:List V):fy body (x::xs) ρ σ=(body x ρ σ).bind fun r=>bif r.1.turns then fy body xs r.2.1 r.2.2 else some r:=by
 show NK (body x ρ σ) _=_
 congr 1;funext r;exact jw _ _ _
end
section
variable {L A B:List ah} {x y:ah} {i:Nat} {a b k:Nat}
theorem iF (h:L[i]? =some x):iW (lst L) (ai i)=some (ay x):=by
 have hi:i <L.length:=(Nq.mp h).1
 have hp:k6 (L.map ay).length (i:Int)=some i:=by
  unfold k6
  rw [NG (Oi i),Nl,NG (Ps.mpr hi)];rfl
 show (k6 (L.map ay).length (i:Int)).bind _=_
 rw [hp]
 show (L.map ay)[i]? =_
 rw [OF,h];rfl
theorem K8 (a b:Nat):oC (ai a) (.int (b:Int))=some (ai (a+b)):=rfl
theorem yl (a:Nat):oC (ai a) (.int 1)=some (ai (a+1)):=rfl
theorem AL (a:Nat) (h:1≤a):oE .sub (ai a) (.int 1)=some (ai (a -1)):=by
 show some (V.int ((a:Int) -1))=some (V.int ((a -1:Nat):Int))
 rw [Vv h];rfl
theorem J6:vN .len [lst L]=some (ai L.length):=by
 show some (V.int ((L.map ay).length:Nat))=_
 rw [Nl];rfl
theorem GZ (us:List V):vN .len [.tup us]=some (.int us.length):=rfl
theorem tz (h:b≤L.length):i8 (lst L) none (some (ai b))=some (lst (L.take b)):=by
 show some (V.lst (((L.map ay).take (if (0:Int)≤(b:Int) then min (b:Int).toNat (L.map ay).length else _)).drop 0))=_
 rw [NG (Oi b),O7,Nl,P3 h,Q7,←Sp];rfl
theorem lX (h:a≤L.length):i8 (lst L) (some (ai a)) none=some (lst (L.drop a)):=by
 show some (V.lst (((L.map ay).take (L.map ay).length).drop (if (0:Int)≤(a:Int) then min (a:Int).toNat (L.map ay).length else _)))=_
 rw [NG (Oi a),O7,U3,Nl,P3 h,←Uk];rfl
theorem Ho (ha:a≤L.length) (hb:b≤L.length):i8 (lst L) (some (ai a)) (some (ai b))=some (lst ((L.take b).drop a)):=by
 show some (V.lst (((L.map ay).take (if (0:Int)≤(b:Int) then min (b:Int).toNat (L.map ay).length else _)).drop (if (0:Int)≤(a:Int) then min (a:Int).toNat (L.map ay).length else _)))=_
 rw [NG (Oi a),NG (Oi b),O7,O7,Nl,P3 ha,P3 hb,←Sp,←Uk];rfl
theorem qd (h:A.length+B.length≤16777216):oC (lst A) (lst B)=some (lst (A++B)):=by
 show (if cU ((A.map ay).length+(B.map ay).length)=true then _ else _)=_
 rw [Nl,Nl,NG (eU h),←NS];rfl
theorem B9 (us:List V):u0 (.tup us)=some us:=rfl
theorem md {a:Int} (h:a.natAbs <1099511627776):iA a=true:=Nw h
theorem ug (h:k≤1000):iD [ai k]=some ((OV k).map ai):=by
 show (if (iA 0&&iA (k:Int))=true then _ else _)=_
 rw [NG (show (iA 0&&iA (k:Int))=true by rw [md (a:=(k:Int)) (by omega)];rfl),NG rfl,Int.sub_zero,O7]
 refine Nt some (Pz fun i _=> ?_)
 show V.int (0+(i:Int))=V.int i
 rw [Int.zero_add]
theorem xj (h:b≤1000) (ha:a≤b):iD [ai a,ai b]=some ((PS a (b -a)).map ai):=by
 show (if (iA (a:Int)&&iA (b:Int))=true then _ else _)=_
 rw [NG (show (iA (a:Int)&&iA (b:Int))=true by rw [md (a:=(a:Int)) (by omega),md (a:=(b:Int)) (by omega)];rfl),NG rfl,←Vv ha,O7,List.range'_eq_map_range,OG]
 refine Nt some (Pz fun i _=> ?_)
 show V.int ((a:Int)+(i:Int))=V.int ((a+i:Nat):Int)
 rw [Vw]
theorem Dm (k:Nat) (h:k≤1000):((k:Int) -1).natAbs <1099511627776∧((k:Int) -1 - -1).toNat=k:=by
 cases k with
 |zero=>exact ⟨by decide,rfl⟩
 |succ k=>
  rw [Qf,R1,Int.sub_neg]
  exact ⟨ND (PG h) (by decide),rfl⟩
theorem wA (h:k≤1000):iD [.int ((k:Int) -1),.int (-1),.int (-1)]=some ((OV k).reverse.map ai):=by
 obtain ⟨h1,h2⟩:=Dm k h
 show (if (iA _&&iA (-1))=true then _ else _)=_
 rw [NG (show (iA ((k:Int) -1)&&iA (-1))=true by rw [md h1];rfl),NV (by decide),NG rfl,h2]
 refine Nt some ?_
 clear h h1 h2
 induction k with
 |zero=>rfl
 |succ k ih=>
  rw [PN,NA,←PN,Tk,TY,NS,←ih,OG]
  have e:(k+1:Nat) -(1:Int)=k:=by rw [Qf,R1]
  show V.int ((k+1:Nat) -(1:Int) -(0:Nat))::_=V.int k::_
  rw [e,U5,Int.sub_zero]
  refine Nt _ (Pz fun i _=> ?_)
  show V.int ((k:Int) -(i+1:Nat))=V.int ((k:Int) -1 -i)
  rw [Qf,UC,Int.sub_sub]
end
theorem jc (A B:List ah):aq (A++B)=aq A++aq B:=TZ
theorem rB:∀(A B:List ah) (k:Nat),cD k (A++B)=cD k A++cD (k+A.length) B
 |[],_,_=>rfl
 |a::A,B,k=>by
  show a.labs.map _++cD (k+1) (A++B)=(a.labs.map _++cD (k+1) A)++_
  rw [rB A B (k+1),NI,Oq,OT 1];rfl
theorem mV:∀(A:List ah) (k:Nat),(cD k A).length=(aq A).length
 |[],_=>rfl
 |a::A,k=>by
  show (a.labs.map _++cD (k+1) A).length=(a.labs++aq A).length
  rw [Nj,Nj,Nl,mV A]
noncomputable def Kv:List CS:=[.ite (.cmp (.var 4) .in_ (.var 1)) [.raise_] [],.setIdx (.var 1) (.var 4) (.var 2)]
theorem BW {ks:List Sg} {vs:List V} {x:Sg} {y:V} (hz:ks.length≤1000) (hx:x∉ks) (hl:ks.length=vs.length):CL (.dct ks vs) (.str x) y=some (.dct (ks++[x]) (vs++[y])):=by
 show (if cU ks.length=true then _ else _)=_
 rw [NG (eU (Ni hz (by decide))),o5 hx hl]
theorem DP {n:Nat} {k A B y:Nh aA} {u:V} {ks:List Sg} {vs:List V} {x:Sg} {d:V} (hk:k=some (.v u)) (hd:decide (x∈ks)=false) (hs:CL (.dct ks vs) (.str x) u=some d):
  bd (run aj (n+20)) (.one 4) Kv (.str x) [A,some (.cell 0),k,B,y] [.dct ks vs]=some (.next,[A,some (.cell 0),k,B,some (.v (.str x))],[d]):=by
 subst hk
 unfold bd Kv
 simp (config:={decide:=false}) only [i3,iR,fD,cR,fE,fO,fC,fv,d6,du,c9,fq,dW,fp,fG,cQ,eX,hP,eY,fe,bL,iX,ch,cf,aW,dn,dq,bB,fw,fN,de,a0,bZ,dt,dg,fF,et,fH,en,dF,fA,fi,cy,cS,cB,qM,fP,dy,qX,fK,qR,fz,qS,bP,cE,dE,dK,bq,aV,dh,eZ,cL,fR,cG,c7,bY,b6,aK,br,aZ,iV,dz,c5,dv,cY,dp,O4,OZ,NA,Oh,NJ,NL,NW,NX,qN,qK,qE,qQ,fM,fL,c8,fJ,fB,cq,bN,dA,dB,cN,dm,cP,bH,cZ,bC,bE,bh,bu,bo,bp,aT,cj,cm,bI,bQ,bl,i6,f8,iH,fk,fm,dG,iU,i7,b7,dH,bA,dw,bv,b9,fu,dr,dj,c6,df,bt,dk,hd,hs]
theorem Ai {n:Nat} {u:V} {A B:Nh aA} {labs:List Sg}:∀{ks:List Sg} {vs:List V} {y:Nh aA},ks.length=vs.length→(ks++labs).Nodup→(ks++labs).length≤1000→
  ∃y',fy (bd (run aj (n+20)) (.one 4) Kv) (labs.map .str) [A,some (.cell 0),some (.v u),B,y] [.dct ks vs]=some (.next,[A,some (.cell 0),some (.v u),B,y'],[.dct (ks++labs) (vs++labs.map fun _=>u)]):=by
 induction labs with
 |nil=>exact fun {ks vs y} _ _ _=>⟨y,by rw [NH,show (vs++SQ (fun _=>u) ([]:List Sg))=vs from NH vs];rfl⟩
 |cons x labs ih=>
  intro ks vs y hl hn hz
  have hx:x∉ks:=fun m=>(OL.mp hn).2.2 x m x (.head _) rfl
  rw [Qi ks x labs] at hn hz
  obtain ⟨y',e⟩:=ih (ks:=ks++[x]) (vs:=vs++[u]) (y:=some (.v (.str x))) (by rw [Nj,Nj,hl];rfl) hn hz
  rw [Nj,Nj] at hz
  refine ⟨y',?_⟩
  rw [NA,aQ,DP rfl (NR hx) (BW (Re (Re hz)) hx hl),Qi ks x labs,NA,Qi vs u (labs.map fun _=>u)]
  exact e
noncomputable def LN:List CS:=[.for_ (.one 4) (.seq (.attr (.var 3) .labels)) Kv]
theorem HG {n k:Nat} {A x y z z':Nh aA} {l:ah} {σ σ':ag} (e:fy (bd (run aj (n+29)) (.one 4) Kv) (l.labs.map .str) [A,some (.cell 0),some (.v (ai k)),some (.v (ay l)),z] σ=some (.next,[A,some (.cell 0),some (.v (ai k)),some (.v (ay l)),z'],σ')):
  bd (run aj (n+30)) (.two 2 3) LN (pr (l,k)) [A,some (.cell 0),x,y,z] σ=some (.next,[A,some (.cell 0),some (.v (ai k)),some (.v (ay l)),z'],σ'):=by
 unfold bd pr LN
 show ((gS (.two 2 3) (.tup [ai k,ay l]) _).bind _)=_
 simp (config:={decide:=false}) only [i3,iR,fD,cR,fE,fO,fC,fv,d6,du,c9,fq,dW,fp,fG,cQ,eX,hP,eY,fe,bL,iX,ch,cf,aW,dn,dq,bB,fw,fN,de,a0,bZ,dt,dg,fF,et,fH,en,dF,fA,fi,cy,cS,cB,qM,fP,dy,qX,fK,qR,fz,qS,bP,cE,dE,dK,bq,aV,dh,eZ,cL,fR,cG,c7,bY,b6,aK,br,aZ,iV,dz,c5,dv,cY,dp,O4,OZ,NA,Oh,NJ,NL,NW,NX,qN,qK,qE,qQ,fM,fL,c8,fJ,fB,cq,bN,dA,dB,cN,dm,cP,bH,cZ,bC,bE,bh,bu,bo,bp,aT,cj,cm,bI,bQ,bl,i6,f8,iH,fk,fm,dG,iU,i7,b7,dH,bA,dw,bv,b9,fu,dr,dj,c6,df,bt,dk,J7,uf,aT,B9,e]
theorem Ak {n:Nat} {A:Nh aA}:∀{R D:List ah} {x y z:Nh aA},(aq (D++R)).Nodup→(aq (D++R)).length≤1000→
  ∃x' y' z',fy (bd (run aj (n+30)) (.two 2 3) LN) ((R.zipIdx D.length).map pr) [A,some (.cell 0),x,y,z] [an D]=some (.next,[A,some (.cell 0),x',y',z'],[an (D++R)]):=by
 intro R
 induction R with
 |nil=>exact fun _ _=>⟨_,_,_,by rw [NH];rfl⟩
 |cons l R ih=>
  intro D x y z hn hz
  rw [Qi D l R] at hn hz
  have hn':=hn
  rw [jc,OL] at hn'
  have h1:=hn'.1
  rw [jc,Nj] at hz
  have z1:=Re hz
  rw [←Nj,←jc] at hz
  have hl:aq (D++[l])=aq D++l.labs:=(jc D [l]).trans (Nt (aq D++ ·) (NH _))
  rw [hl] at h1 z1
  refine Nf fun nG=> ?_
  obtain ⟨z',e⟩:=Ai (n:=n+9) (A:=A) (B:=some (.v (ay l))) (u:=ai D.length) (vs:=(cD 0 D).map ai) (y:=z) (by rw [Nl,mV]) h1 z1
  obtain ⟨x',y',z2,e2⟩:=ih (D:=D++[l]) (x:=some (.v (ai D.length))) (y:=some (.v (ay l))) (z:=z') hn hz
  refine nG ?_
  refine ⟨x',y',z2,?_⟩
  rw [Qj,NA,aQ,an,HG e,Qi D l R]
  rw [Nj] at e2
  have hp:V.dct (aq D++l.labs) ((cD 0 D).map ai++l.labs.map fun _=>ai D.length)=an (D++[l]):=by
   rw [an,hl,rB,NS]
   show _=V.dct _ (_++((l.labs.map fun _=>0+D.length)++[]).map ai)
   rw [NH,Om,OG];rfl
  rw [hp]
  exact e2
theorem ja {L:List ah} (hn:(aq L).Nodup) (hz:(aq L).length≤1000):l7 40 10 [lst L] (an L):=fun n=>by
 refine Nf fun nG=> ?_
 obtain ⟨x,y,z,e⟩:=Ak (n:=n+8) (A:=some (.v (lst L))) (R:=L) (D:=[]) (x:=none) (y:=none) (z:=none) hn hz
 refine nG ?_
 refine bV (n:=n+39) (fn:=jL) (ρ:=[some (.v (lst L)),some (.cell 0),x,y,z]) (σ2:=[an L]) (W:= .cell 0) rfl rfl ?_ rfl
 refine av (n:=n+39) (ρ':=[some (.v (lst L)),some (.cell 0),none,none,none]) (σ':=[an []]) (by kernel_rfl) (av (n:=n+39) (ρ':=[some (.v (lst L)),some (.cell 0),x,y,z]) (σ':=[an L]) ?_ (dY (n:=n+38) (by kernel_rfl)))
 show (fy _ (jm 0 (L.map ay)) _ _)=_
 rw [mA]
 exact e
end
section
noncomputable def it (F:Nat→Nat):Nat→Nat→Nat
 |0,x=>x
 |n+1,x=>it F n (F x)
section
variable {F G:Nat→Nat} {x y e N k i s t:Nat}
theorem qB:∀(m n x:Nat),it F (m+n) x=it F n (it F m x)
 |0,n,x=>Nt (it F · x) (Om n)
 |m+1,n,x=>(Nt (it F · x) (O8 m n)).trans (qB m n (F x))
theorem CZ (n x:Nat):it F (n+1) x=F (it F n x):=qB n 1 x
noncomputable def p5 (F:Nat→Nat) (x:Nat):Prop:=∃k,it F (k+1) x=x
inductive kH (F:Nat→Nat):Nat→Nat→Prop
 |here {a:Nat}:p5 F a→kH F a a
 |step {a b:Nat}:¬p5 F a→kH F (F a) b→kH F a b
theorem p5.fix (h:F x=x):p5 F x:=⟨0,h⟩
theorem p5.next (h:p5 F x):p5 F (F x):=let ⟨k,e⟩:=h;⟨k,(CZ (k+1) x).trans (Nt F e)⟩
theorem p5.iter (h:p5 F x) (n:Nat):p5 F (it F n x):=by
 induction n generalizing x with
 |zero=>exact h
 |succ n ih=>exact ih h.next
theorem p5.mul (h:it F k x=x):∀n,it F (n*k) x=x
 |0=>by rw [Nat.zero_mul];rfl
 |n+1=>by rw [Nat.succ_mul,qB,p5.mul h n,h]
theorem kH.uniq (a:kH F x y):∀{e},kH F x e→e=y:=by
 induction a with
 |here p=>intro e b;cases b with
  |here _=>rfl
  |step q _=>exact (q p).elim
 |step q _ ih=>intro e b;cases b with
  |here p=>exact (q p).elim
  |step _ b=>exact ih b
theorem kH.per (a:kH F x e):p5 F e:=by induction a with
 |here p=>exact p
 |step _ _ ih=>exact ih
theorem kH.lt (hb:∀x,x <N→F x <N) (a:kH F x e):x <N→e <N:=by induction a with
 |here _=>exact id
 |step _ _ ih=>exact fun h=>ih (hb _ h)
theorem DN (hi:i <k) (e:it F k s=it F i s) (t:Nat):i≤t→∃u,i≤u∧u <k∧it F t s=it F u s:=by
 induction t using Vx with
 |_ t ih=>
  intro h
  rcases Qk t k with l|l
  ·exact ⟨t,h,l,rfl⟩
  ·obtain ⟨d,rfl⟩:=QW l
   refine Nf fun nG=> ?_
   obtain ⟨u,h1,h2,h3⟩:=ih (i+d) (Pq hi d) (Oa i d)
   refine nG ?_
   exact ⟨u,h1,h2,by rw [←h3,qB,qB,e]⟩
theorem kH.of (hi:i <k) (e:it F k s=it F i s) (hd:∀a b,a <b→b <k→it F a s≠it F b s):kH F s (it F i s):=by
 induction i generalizing s k with
 |zero=>
  obtain ⟨d,rfl⟩:=QW hi
  exact .here ⟨d,(Nt (it F · s) ((OT d 1).trans (Nt (· +d) (Om 1)).symm)).trans e⟩
 |succ i ih=>
  refine .step (fun ⟨m,q⟩=> ?_) ?_
  ·obtain ⟨u,h1,h2,h3⟩:=DN hi e ((i+1)*(m+1)) (Nat.le_mul_of_pos_right _ (OA m))
   rw [p5.mul q] at h3
   exact hd 0 u (Od (OA i) h1) h2 h3
  ·obtain ⟨k,rfl⟩:∃j,k=j+1:=N9 (Px (ND (N5 _) hi))
   exact ih (OK hi) e fun a b h1 h2=>hd (a+1) (b+1) (PU h1) (PU h2)
theorem M8:∀{N:Nat} {l:List Nat},l.Nodup→(∀x∈l,x <N)→l.length≤N:=by
 intro N
 induction N with
 |zero=>
  intro l _ h
  cases l with
  |nil=>exact Nz _
  |cons a l=>exact absurd (h a (.head _)) (PI a)
 |succ N ih=>
  intro l hn h
  have q:=ih (hn.erase N) fun x m=>R7 (OE (h x (List.mem_of_mem_erase m))) fun z=>by
   subst z
   exact (V2 hn).mp m|>.1 rfl
  rw [List.length_erase] at q
  split at q
  ·exact Nat.le_add_of_sub_le q
  ·exact PE q
theorem Gw (hb:∀x,x <N→F x <N) (h:x <N) (n:Nat):it F n x <N:=by
 induction n generalizing x with
 |zero=>exact h
 |succ n ih=>exact ih (hb x h)
theorem jT (hb:∀x,x <N→F x <N) (hs:s <N) (hd:∀a b,a <b→b <k→it F a s≠it F b s):k≤N:=by
 have h:((OV k).map fun i=>it F i s).Nodup:=by
  rw [List.Nodup,Rf,Ph]
  intro i j hi hj hij
  rw [R6,R6]
  rw [PF] at hj
  exact hd i j hij hj
 have q:=M8 (N:=N) h fun x m=>by
  obtain ⟨i,w,z⟩:=Of.mp m
  rw [←z]
  exact Gw hb hs i
 rw [Nl,PF] at q
 exact q
theorem kH.ex (hb:∀x,x <N→F x <N) (hs:s <N):∃e,kH F s e:=by
 have key:∀d k,d+k=N+1→(∀a b,a <b→b <k→it F a s≠it F b s)→∃e,kH F s e:=by
  intro d
  induction d with
  |zero=>
   intro k hk hd
   have:=jT hb hs hd
   rw [Om] at hk
   rw [hk] at this
   exact absurd this (TL N)
  |succ d ih=>
   intro k hk hd
   by_cases q:∃i,i <k∧it F k s=it F i s
   ·obtain ⟨i,hi,e⟩:=q;exact ⟨_,.of hi e hd⟩
   ·refine ih (k+1) (by rw [←hk,O8,US]) fun a b h1 h2=> ?_
    rcases ON (OE h2) with h|h
    ·exact hd a b h1 h
    ·subst h;exact fun z=>q ⟨a,h1,z.symm⟩
 exact key (N+1) 0 rfl fun a b _ h=>absurd h (PI b)
open Classical in
noncomputable def lim (F:Nat→Nat) (x:Nat):Nat:=if h:∃e,kH F x e then choose h else x
theorem kH.eq (a:kH F x e):lim F x=e:=by
 have h:∃e,kH F x e:=⟨e,a⟩
 unfold lim
 rw [dif_pos h]
 exact a.uniq (Classical.choose_spec h)
structure Bd (F:Nat→Nat) (N:Nat):Prop where
 lt:∀x,x <N→F x <N
 out:∀x,N≤x→F x=x
theorem Bd.lim (B:Bd F N) (x:Nat):kH F x (lim F x):=by
 rcases Qk x N with h|h
 ·obtain ⟨e,q⟩:=kH.ex B.lt h;rw [q.eq];exact q
 ·have q:kH F x x:= .here (.fix (B.out x h));rw [q.eq];exact q
theorem Bd.lim_lt (B:Bd F N) (h:x <N):Internal.lim F x <N:=(B.lim x).lt B.lt h
noncomputable def GK (F:Nat→Nat) (s k:Nat):Prop:=∀a b,a <b→b <k→it F a s≠it F b s
noncomputable def kZ (F:Nat→Nat) (s k:Nat):List Nat:=(OV k).map fun i=>it F i s
theorem EF:kZ F s (k+1)=kZ F s k++[it F k s]:=by rw [kZ,Tk,NS];rfl
theorem GK.in (d:GK F s k) (h:it F k s∈kZ F s k):lim F s=it F k s:=by
 obtain ⟨i,m,e⟩:=Of.mp h
 rw [←e]
 exact (kH.of (Qg.mp m) e.symm d).eq
theorem GK.more (d:GK F s k) (h:it F k s∉kZ F s k):GK F s (k+1):=fun a b h1 h2=>by
 rcases ON (OE h2) with l|l
 ·exact d a b h1 l
 ·subst l;exact fun z=>h (Of.mpr ⟨a,Qg.mpr h1,z⟩)
theorem GK.stop (d:GK F s k) (h:it F k s∉kZ F s k) (e:F (it F k s)=it F k s):lim F s=it F k s:=
 (kH.of (OD k) ((CZ k s).trans e) (d.more h)).eq
theorem Bd.idem (B:Bd F N) (x:Nat):Internal.lim F (Internal.lim F x)=Internal.lim F x:=(kH.here (B.lim x).per).eq
theorem kH.key (B:Bd F N) (ht:G t=Internal.lim F (F t)) (ho:∀x,x≠t→G x=F x) (x:Nat):Internal.lim G x=Internal.lim F x:=by
 by_cases pt:p5 F t
 ·have:G=F:=funext fun x=>by
   by_cases h:x=t
   ·rw [h,ht];exact (kH.here pt.next).eq
   ·exact ho x h
  rw [this]
 have keep:∀{x},p5 F x→∀n,it G n x=it F n x:=fun {x} p n=>by
  induction n generalizing x with
  |zero=>rfl
  |succ n ih=>
   have:G x=F x:=ho x fun z=>pt (z▸p)
   show it G n (G x)=it F n (F x)
   rw [this];exact ih p.next
 have up:∀{x},p5 F x→p5 G x:=fun p=>let ⟨k,e⟩:=p;⟨k,(keep p (k+1)).trans e⟩
 have pe:p5 F (G t):=ht▸(B.lim _).per
 have tG:¬p5 G t:=fun ⟨k,e⟩=>pt (by
  have:it G k (G t)=t:=e
  rw [keep pe] at this
  exact this▸pe.iter k)
 have down:∀{x},p5 G x→p5 F x:=fun {x} p=>by
  obtain ⟨k,e⟩:=p
  have no:∀j,it G j x≠t:=fun j z=>tG (z▸p5.iter ⟨k,e⟩ j)
  have same:∀j,it G j x=it F j x:=fun j=>by
   induction j with
   |zero=>rfl
   |succ j ih=>rw [CZ,CZ,←ih];exact ho _ (no j)
  exact ⟨k,(same (k+1)).symm.trans e⟩
 have go:∀{x e},kH F x e→kH G x e:=fun {x e} a=>by
  induction a with
  |here p=>exact .here (up p)
  | @step x e q b ih=>
   refine .step (fun p=>q (down p)) ?_
   by_cases h:x=t
   ·subst h
    rw [ht,b.eq]
    exact .here (up b.per)
   ·rw [ho x h];exact ih
 exact (go (B.lim x)).eq
end
end
section
open PySem
set_option tactic.hygienic false
noncomputable def place:List ah→Sg→Nh Nat
 |[],_=>none
 |l::L,x=>if x∈l.labs then some 0 else (place L x).map (· +1)
theorem ub {x:Sg} {ks:List Sg} {vs:List V} {u:V}:∀labs:List Sg,f0 (labs++ks) ((labs.map fun _=>u)++vs) x=if x∈labs then some u else f0 ks vs x
 |[]=>rfl
 |y::labs=>by
  show (if y=x then some u else f0 (labs++ks) ((labs.map fun _=>u)++vs) x)=_
  rw [ub labs]
  by_cases h:y=x
  ·rw [NG h,NG (h▸ .head _)]
  ·rw [NV h]
   by_cases m:x∈labs
   ·rw [NG m,NG (.tail _ m)]
   ·rw [NV m,NV fun z=>(NN.mp z).elim (fun e=>h e.symm) m]
theorem lD {x:Sg}:∀(L:List ah) (k:Nat),f0 (aq L) ((cD k L).map ai) x=(place L x).map fun i=>ai (k+i)
 |[],_=>rfl
 |l::L,k=>by
  show f0 (l.labs++aq L) ((l.labs.map (fun _=>k)++cD (k+1) L).map ai) x=_
  rw [NS,OG,show (ai∘fun (_:Sg)=>k)=fun _=>ai k from rfl,ub,lD L,place]
  by_cases h:x∈l.labs
  ·rw [NG h,NG h];rfl
  ·rw [NV h,NV h]
   cases place L x with
   |none=>rfl
   |some i=>show some (ai (k+1+i))=some (ai (k+(i+1)));rw [Oq,OT 1]
theorem iC {x:Sg}:∀{L:List ah} {p:Nat},place L x=some p→∃l,L[p]? =some l∧x∈l.labs
 |[],_,h=>nomatch h
 |l::L,p,h=>by
  unfold place at h
  by_cases m:x∈l.labs
  ·rw [NG m] at h;cases h;exact ⟨l,rfl,m⟩
  ·rw [NV m] at h
   cases q:place L x with
   |none=>rw [q] at h;cases h
   |some i=>rw [q] at h;cases h;obtain ⟨l',h1,h2⟩:=iC q;exact ⟨l',h1,h2⟩
theorem ij {x:Sg}:∀{L:List ah},decide (x∈aq L)=(place L x).isSome
 |[]=>rfl
 |l::L=>by
  have:decide (x∈aq (l::L))=(decide (x∈l.labs)||decide (x∈aq L)):=by
   rw [←VB];exact OW.mpr Nx
  rw [this,ij,place]
  by_cases m:x∈l.labs
  ·rw [NG m,Nw m];rfl
  ·rw [NV m,NR m];cases place L x<;>rfl
theorem oN {x:Sg} {l:ah}:∀{L:List ah} {p:Nat},L[p]? =some l→x∈l.labs→x∈aq L
 |[],_,h,_=>nomatch h
 |a::L,0,h,m=>Nx.mpr (.inl (by cases h;exact m))
 |a::L,p+1,h,m=>Nx.mpr (.inr (oN (L:=L) (p:=p) h m))
theorem mh {x:Sg} {l:ah}:∀{L:List ah} {p:Nat},(aq L).Nodup→L[p]? =some l→x∈l.labs→place L x=some p
 |[],_,_,h,_=>nomatch h
 |a::L,0,_,h,m=>by cases h;exact NG m
 |a::L,p+1,hn,h,m=>by
  have q:=OL.mp hn
  have:x∉a.labs:=fun z=>q.2.2 x z x (oN (L:=L) h m) rfl
  show (if _ then _ else _)=_
  rw [NV this,mh q.2.1 h m];rfl
theorem fQ {L:List ah} {x:Sg} {p:Nat} (h:place L x=some p):p <L.length:=let ⟨_,h1,_⟩:=iC h;(Nq.mp h1).1
theorem k7 {L:List ah} {x:Sg} (h:x∉aq L):place L x=none:=by
 have:=ij (x:=x) (L:=L)
 rw [NR h] at this
 cases q:place L x with
 |none=>rfl
 |some p=>rw [q] at this;cases this
theorem pn {L:List ah} {x:Sg} {p:Nat} (h:place L x=some p):iW (an L) (.str x)=some (ai p):=by
 show f0 (aq L) ((cD 0 L).map ai) x=_
 rw [lD,h]
 show some (ai (0+p))=_
 rw [Om]
theorem vE {L:List ah} {x:Sg}:Cp (.str x) (an L)=some (place L x).isSome:=(bQ _ _ _).trans (Nt some ij)
structure cK (L:List ah):Prop where
 pos:0 <L.length
 row:∀i,i+1 <L.length→∃ls x,L[i]? =some ⟨ls,some x⟩
 last:∀i l,i+1=L.length→L[i]? =some l→l.ins=none
theorem cK.next {L:List ah} (S:cK L) {i:Nat} {ls:List Sg} {x:cr} (h:L[i]? =some ⟨ls,some x⟩):i+1 <L.length:=by
 have:=(Nq.mp h).1
 rcases ON (Sl this) with h'|h'
 ·exact h'
 ·exact nomatch S.last i _ h' h
noncomputable def jF (L:List ah) (x:Nat):Nat:=match L[x]? with
 |some l=>bif og l.ins then (place L (bg l.ins)).getD x else x
 |none=>x
noncomputable def gF (L:List ah) (c:Nh Cc) (y:Nat):Nat:=match L[y]? with
 |some l=>if jK c (eG l.ins)=1 then (match place L (bg l.ins) with
   |some p=>lim (jF L) p
   |none=>y) else if jK c (eG l.ins)=0 then lim (jF L) (y+1) else y
 |none=>y
noncomputable def fol (L:List ah) (c:Nh Cc) (p:Nat):Nat:=lim (gF L c) (lim (jF L) p)
theorem mF (L:List ah):Bd (jF L) L.length where
 lt:=fun x h=>by
  unfold jF
  rw [Nr h]
  show (bif og L[x].ins then (place L (bg L[x].ins)).getD x else x) <_
  cases og L[x].ins with
  |false=>exact h
  |true=>
   show (place L (bg L[x].ins)).getD x <_
   cases q:place L (bg L[x].ins) with
   |none=>exact h
   |some p=>exact fQ q
 out:=fun x h=>by unfold jF;rw [OR h]
theorem uD (c:Nh Cc):jK c none= -1:=by cases c<;>rfl
theorem uR {L:List ah} (S:cK L) (c:Nh Cc):Bd (gF L c) L.length where
 lt:=fun x h=>by
  unfold gF
  rw [Nr h]
  show (if jK c (eG L[x].ins)=1 then (match place L (bg L[x].ins) with
   |some p=>lim (jF L) p
   |none=>x) else if jK c (eG L[x].ins)=0 then lim (jF L) (x+1) else x) <_
  split
  ·split
   ·rename_i q;exact (mF L).lim_lt (fQ q)
   ·exact h
  ·split
   ·rename_i q
    refine (mF L).lim_lt ?_
    rcases ON (Sl h) with h'|h'
    ·exact h'
    ·have:=S.last x _ h' (Nr h)
     rw [this] at q
     rw [show eG none=none from rfl,uD] at q
     cases q
   ·exact h
 out:=fun x h=>by unfold gF;rw [OR h]
theorem Ez {L:List ah} {x:Nat} {l:ah} (h:L[x]? =some l) (q:(og l.ins&&(place L (bg l.ins)).isSome)=false):jF L x=x:=by
 unfold jF
 rw [h]
 show (bif og l.ins then (place L (bg l.ins)).getD x else x)=x
 cases e:og l.ins with
 |false=>rfl
 |true=>
  rw [e] at q
  cases e2:place L (bg l.ins) with
  |none=>rfl
  |some p=>rw [e2] at q;cases q
theorem JK {L:List ah} {x p:Nat} {l:ah} (h:L[x]? =some l) (j:og l.ins=true) (q:place L (bg l.ins)=some p):jF L x=p:=by
 unfold jF
 rw [h]
 show (bif og l.ins then (place L (bg l.ins)).getD x else x)=p
 rw [j,q];rfl
noncomputable def Lb:CE:= .and [(.cmp (.var 2) .nin (.var 3)),(.callF 7 [(.attr (.idx (.var 0) (.var 2)) .instruction)]),(.cmp (.callF 5 [(.attr (.idx (.var 0) (.var 2)) .instruction)]) .in_ (.var 1))]
noncomputable def Li:List CS:=[.expr (.callS .append (.var 3) [(.var 2)]),.assign 2 (.idx (.var 1) (.callF 5 [(.attr (.idx (.var 0) (.var 2)) .instruction)]))]
section
variable {n x p:Nat} {L:List ah} {S:List Nat} {l:ah}
theorem D5 (h:L[x]? =some l):cv (run aj (n+50)) Lb [some (.v (lst L)),some (.v (an L)),some (.v (ai x)),some (.cell 0)] [.lst (S.map ai)]=
  some (!(decide (x∈S))&&(og l.ins&&(place L (bg l.ins)).isSome),[.lst (S.map ai)]):=by
 unfold Lb
 simp (config:={decide:=false}) only [i3,iR,fD,cR,fE,fO,fC,fv,d6,du,c9,fq,dW,fp,fG,cQ,eX,hP,eY,fe,bL,iX,ch,cf,aW,dn,dq,bB,fw,fN,de,a0,bZ,dt,dg,fF,et,fH,en,dF,fA,fi,cy,cS,cB,qM,fP,dy,qX,fK,qR,fz,qS,bP,cE,dE,dK,bq,aV,dh,eZ,cL,fR,cG,c7,bY,b6,aK,br,aZ,iV,dz,c5,dv,cY,dp,O4,OZ,NA,Oh,NJ,NL,NW,NX,qN,qK,qE,qQ,fM,fL,c8,fJ,fB,cq,bN,dA,dB,cN,dm,cP,bH,cZ,bC,bE,bh,bu,bo,bp,aT,cj,cm,bI,bQ,bl,i6,f8,iH,fk,fm,dG,iU,i7,b7,dH,bA,dw,bv,b9,fu,dr,dj,c6,df,bt,dk,iF h,gP (xT _ _),gP (ir _ _),vE]
 cases decide (x∈S)<;>cases og l.ins<;>rfl
theorem EJ (h:L[x]? =some l) (hp:place L (bg l.ins)=some p) (hz:cU ((S.map ai).length+1)=true):aH (run aj (n+50)) Li [some (.v (lst L)),some (.v (an L)),some (.v (ai x)),some (.cell 0)] [.lst (S.map ai)]=
  some (.next,[some (.v (lst L)),some (.v (an L)),some (.v (ai p)),some (.cell 0)],[.lst ((S++[x]).map ai)]):=by
 unfold Li
 simp (config:={decide:=false}) only [i3,iR,fD,cR,fE,fO,fC,fv,d6,du,c9,fq,dW,fp,fG,cQ,eX,hP,eY,fe,bL,iX,ch,cf,aW,dn,dq,bB,fw,fN,de,a0,bZ,dt,dg,fF,et,fH,en,dF,fA,fi,cy,cS,cB,qM,fP,dy,qX,fK,qR,fz,qS,bP,cE,dE,dK,bq,aV,dh,eZ,cL,fR,cG,c7,bY,b6,aK,br,aZ,iV,dz,c5,dv,cY,dp,O4,OZ,NA,Oh,NJ,NL,NW,NX,qN,qK,qE,qQ,fM,fL,c8,fJ,fB,cq,bN,dA,dB,cN,dm,cP,bH,cZ,bC,bE,bh,bu,bo,bp,aT,cj,cm,bI,bQ,bl,i6,f8,iH,fk,fm,dG,iU,i7,b7,dH,bA,dw,bv,b9,fu,dr,dj,c6,df,bt,dk,iF h,gP (ir _ _),pn hp,hz,NS]
end
theorem IP {F:Nat→Nat} {N s:Nat} {test:Loc→ag→Nh (Bool×ag)} {body:Loc→ag→tF} {I:Nat→List Nat→Loc→ag→Prop} (B:Bd F N) (hs:s <N)
  (h:∀x S ρ σ,x <N→S.length≤N→I x S ρ σ→∃b,test ρ σ=some (b,σ)∧bif b then x∉S∧∃o ρ' σ',body ρ σ=some (o,ρ',σ')∧((o= .next∧I (F x) (S++[x]) ρ' σ')∨(o= .ret (.v (ai x))∧F x=x)) else (x∉S→F x=x)):
  ∀d k M ρ σ,d+k=N+1→d <M→GK F s k→I (it F k s) (kZ F s k) ρ σ→∃o ρ' σ',fW test body M ρ σ=some (o,ρ',σ')∧((o= .next∧∃S,I (lim F s) S ρ' σ')∨o= .ret (.v (ai (lim F s)))):=by
 intro d
 induction d with
 |zero=>
  intro k M _ _ hk _ hd _
  rw [Om] at hk
  refine Nf fun nG=> ?_
  subst hk
  refine nG ?_
  exact absurd (jT B.lt hs hd) (TL _)
 |succ d ih=>
  intro k M ρ σ hk hM hd hI
  obtain ⟨M,rfl⟩:∃j,M=j+1:=N9 (Px (ND (N5 _) hM))
  obtain ⟨b,e,q⟩:=h _ _ ρ σ (Gw B.lt hs k) (by rw [kZ,Nl,PF];exact jT B.lt hs hd) hI
  show∃o ρ' σ',(test ρ σ).bind _=_∧_
  rw [e]
  cases b with
  |false=>
   refine ⟨_,_,_,rfl,.inl ⟨rfl,kZ F s k,?_⟩⟩
   have:lim F s=it F k s:=Decidable.byCases (fun m:it F k s∈kZ F s k=>hd.in m) fun m=>hd.stop m (q m)
   exact this▸hI
  |true=>
   refine Nf fun nG=> ?_
   obtain ⟨m,o,ρ',σ',e2,q⟩:=q
   refine nG ?_
   show∃o ρ' σ',(body ρ σ).bind _=_∧_
   rw [e2]
   rcases q with ⟨rfl,q⟩|⟨rfl,q⟩
   ·rw [←CZ (F:=F) k s,←EF] at q
    exact ih (k+1) M ρ' σ' (by rw [←hk,O8,US]) (OK hM) (hd.more m) q
   ·exact ⟨_,_,_,rfl,.inr (Nt (fun z=>fg.ret (.v (ai z))) (hd.stop m q).symm)⟩
theorem GB {F:Nat→Nat} {N s:Nat} {test:Loc→ag→Nh (Bool×ag)} {body:Loc→ag→tF} {I:Nat→List Nat→Loc→ag→Prop} (B:Bd F N) (hs:s <N) (hN:N≤1000)
  (h:∀x S ρ σ,x <N→S.length≤N→I x S ρ σ→∃b,test ρ σ=some (b,σ)∧bif b then x∉S∧∃o ρ' σ',body ρ σ=some (o,ρ',σ')∧((o= .next∧I (F x) (S++[x]) ρ' σ')∨(o= .ret (.v (ai x))∧F x=x)) else (x∉S→F x=x))
  {ρ:Loc} {σ:ag} (hI:I s [] ρ σ):∃o ρ' σ',fW test body turns ρ σ=some (o,ρ',σ')∧((o= .next∧∃S,I (lim F s) S ρ' σ')∨o= .ret (.v (ai (lim F s)))):=
 IP B hs h (N+1) 0 turns ρ σ rfl (ND (NO hN) (by decide)) (fun a b _ h=>absurd h (PI b)) hI
theorem yn {S:List Nat} {N:Nat} (h:S.length≤N) (hl:N≤1000):cU ((S.map ai).length+1)=true:=by
 rw [Nl]
 exact eU (Ni (NO (Ni h hl)) (by decide))
theorem nz {s:Nat} {L:List ah} (hs:s <L.length) (hl:L.length≤1000):nU 60 15 [lst L,an L,ai s] (ai (lim (jF L) s)):=fun n=>by
 refine Nf fun nG=> ?_
 obtain ⟨o,ρ',σ',e,q⟩:=GB (test:=cv (run aj (n+58)) Lb) (body:=aH (run aj (n+58)) Li) (I:=fun x S ρ σ=>ρ=[some (.v (lst L)),some (.v (an L)),some (.v (ai x)),some (.cell 0)]∧σ=[.lst (S.map ai)])
  (mF L) hs hl (fun x S ρ σ hx hz ⟨h1,h2⟩=>by
   subst h1;subst h2
   have h:=Nr hx
   refine ⟨_,D5 h,?_⟩
   by_cases m:x∈S
   ·rw [Nw m];exact fun z=>(z m).elim
   rw [NR m]
   cases q:(og L[x].ins&&(place L (bg L[x].ins)).isSome) with
   |false=>exact fun _=>Ez h q
   |true=>
    have q:=Np.mp q
    obtain ⟨p,hp⟩:=Og.mp q.2
    exact ⟨m,_,_,_,EJ h hp (yn hz hl),.inl ⟨rfl,by rw [JK h q.1 hp],rfl⟩⟩)
  (ρ:=[some (.v (lst L)),some (.v (an L)),some (.v (ai s)),some (.cell 0)]) (σ:=[.lst []]) ⟨rfl,rfl⟩
 refine nG ?_
 have fin:∀{r},aH (run aj (n+59)) [.while_ Lb Li,.ret (.var 2)] [some (.v (lst L)),some (.v (an L)),some (.v (ai s)),some (.cell 0)] [.lst []]=some r→r.1= .ret (.v (ai (lim (jF L) s)))→(run aj (n+60)).c 15 [.v (lst L),.v (an L),.v (ai s)] []=some (.ok (.v (ai (lim (jF L) s))),[]):=fun {r} e h=>by
  refine Nf fun nG=> ?_
  obtain ⟨o,ρ,σ⟩:=r
  cases h
  refine nG ?_
  exact bV (n:=n+59) (fn:=nZ) (W:= .v _) rfl rfl (av (n:=n+59) (ρ':=[some (.v (lst L)),some (.v (an L)),some (.v (ai s)),some (.cell 0)]) (σ':=[.lst []]) (by kernel_rfl) e) rfl
 rcases q with ⟨rfl,S,rfl,rfl⟩|rfl
 ·exact fin (show (NK (fW _ _ _ _ _) _)=_ by rw [e];rfl) rfl
 ·exact fin (show (NK (fW _ _ _ _ _) _)=_ by rw [e];rfl) rfl
theorem CK {n:Nat} {c:CS} {cs:List CS} {ρ ρ':Loc} {σ σ':ag} (h:(run aj n).s c ρ σ=some (.next,ρ',σ')):aH (run aj n) (c::cs) ρ σ=aH (run aj n) cs ρ' σ':=by
 show ((run aj n).s c ρ σ).bind _=_
 rw [h];rfl
theorem iZ {E:Ev} {c:CS} {ρ:Loc} {σ:ag}:aH E [c] ρ σ=E.s c ρ σ:=by
 show (E.s c ρ σ).bind _=_
 cases E.s c ρ σ with
 |none=>rfl
 |some r=>obtain ⟨o,ρ,σ⟩:=r;cases o<;>rfl
noncomputable def Lh:CE:= .cmp (.var 2) .nin (.var 4)
noncomputable def Gm:List CS:=[.expr (.callS .append (.var 4) [(.var 2)]),
  .assign 5 (.attr (.idx (.var 0) (.var 2)) .instruction),
  .assign 6 (.callF 14 [(.var 3),(.callF 6 [(.var 5)])]),
  .ite (.and [(.cmp (.var 6) .eq (.cst (.int 1))),(.cmp (.callF 5 [(.var 5)]) .in_ (.var 1))])
   [.assign 2 (.callF 15 [(.var 0),(.var 1),(.idx (.var 1) (.callF 5 [(.var 5)]))])]
   [.ite (.cmp (.var 6) .eq (.cst (.int 0)))
    [.assign 2 (.callF 15 [(.var 0),(.var 1),(.bin .add (.var 2) (.cst (.int 1)))])]
    [.ret (.var 2)]]]
noncomputable def nO (L:List ah) (x:Nat) (c:Nh Cc) (r5 r6:Nh aA):Loc:=[some (.v (lst L)),some (.v (an L)),some (.v (ai x)),some (.v (.str (kB c))),some (.cell 0),r5,r6]
section
variable {n x p:Nat} {L:List ah} {S:List Nat} {l:ah} {c:Nh Cc} {r5 r6:Nh aA}
theorem EW:cv (run aj (n+100)) Lh (nO L x c r5 r6) [.lst (S.map ai)]=some (!(decide (x∈S)),[.lst (S.map ai)]):=by
 unfold Lh nO
 simp (config:={decide:=false}) only [i3,iR,fD,cR,fE,fO,fC,fv,d6,du,c9,fq,dW,fp,fG,cQ,eX,hP,eY,fe,bL,iX,ch,cf,aW,dn,dq,bB,fw,fN,de,a0,bZ,dt,dg,fF,et,fH,en,dF,fA,fi,cy,cS,cB,qM,fP,dy,qX,fK,qR,fz,qS,bP,cE,dE,dK,bq,aV,dh,eZ,cL,fR,cG,c7,bY,b6,aK,br,aZ,iV,dz,c5,dv,cY,dp,O4,OZ,NA,Oh,NJ,NL,NW,NX,qN,qK,qE,qQ,fM,fL,c8,fJ,fB,cq,bN,dA,dB,cN,dm,cP,bH,cZ,bC,bE,bh,bu,bo,bp,aT,cj,cm,bI,bQ,bl,i6,f8,iH,fk,fm,dG,iU,i7,b7,dH,bA,dw,bv,b9,fu,dr,dj,c6,df,bt,dk]
theorem wV {cs:List CS} (h:L[x]? =some l) (hz:cU ((S.map ai).length+1)=true):aH (run aj (n+100)) (.expr (.callS .append (.var 4) [(.var 2)]):: .assign 5 (.attr (.idx (.var 0) (.var 2)) .instruction):: .assign 6 (.callF 14 [(.var 3),(.callF 6 [(.var 5)])])::cs) (nO L x c r5 r6) [.lst (S.map ai)]=
  aH (run aj (n+100)) cs (nO L x c (some (.v (aS l.ins))) (some (.v (.int (jK c (eG l.ins)))))) [.lst ((S++[x]).map ai)]:=by
 rw [CK (n:=n+100) (ρ':=nO L x c r5 r6) (σ':=[.lst ((S++[x]).map ai)]),CK (n:=n+100) (ρ':=nO L x c (some (.v (aS l.ins))) r6) (σ':=[.lst ((S++[x]).map ai)]),CK (n:=n+100) (ρ':=nO L x c (some (.v (aS l.ins))) (some (.v (.int (jK c (eG l.ins)))))) (σ':=[.lst ((S++[x]).map ai)])]
 ·unfold nO
  simp (config:={decide:=false}) only [i3,iR,fD,cR,fE,fO,fC,fv,d6,du,c9,fq,dW,fp,fG,cQ,eX,hP,eY,fe,bL,iX,ch,cf,aW,dn,dq,bB,fw,fN,de,a0,bZ,dt,dg,fF,et,fH,en,dF,fA,fi,cy,cS,cB,qM,fP,dy,qX,fK,qR,fz,qS,bP,cE,dE,dK,bq,aV,dh,eZ,cL,fR,cG,c7,bY,b6,aK,br,aZ,iV,dz,c5,dv,cY,dp,O4,OZ,NA,Oh,NJ,NL,NW,NX,qN,qK,qE,qQ,fM,fL,c8,fJ,fB,cq,bN,dA,dB,cN,dm,cP,bH,cZ,bC,bE,bh,bu,bo,bp,aT,cj,cm,bI,bQ,bl,i6,f8,iH,fk,fm,dG,iU,i7,b7,dH,bA,dw,bv,b9,fu,dr,dj,c6,df,bt,dk,gP (ph _ _),xX (GJ _ _ _)]
 ·unfold nO
  simp (config:={decide:=false}) only [i3,iR,fD,cR,fE,fO,fC,fv,d6,du,c9,fq,dW,fp,fG,cQ,eX,hP,eY,fe,bL,iX,ch,cf,aW,dn,dq,bB,fw,fN,de,a0,bZ,dt,dg,fF,et,fH,en,dF,fA,fi,cy,cS,cB,qM,fP,dy,qX,fK,qR,fz,qS,bP,cE,dE,dK,bq,aV,dh,eZ,cL,fR,cG,c7,bY,b6,aK,br,aZ,iV,dz,c5,dv,cY,dp,O4,OZ,NA,Oh,NJ,NL,NW,NX,qN,qK,qE,qQ,fM,fL,c8,fJ,fB,cq,bN,dA,dB,cN,dm,cP,bH,cZ,bC,bE,bh,bu,bo,bp,aT,cj,cm,bI,bQ,bl,i6,f8,iH,fk,fm,dG,iU,i7,b7,dH,bA,dw,bv,b9,fu,dr,dj,c6,df,bt,dk,iF h]
 ·unfold nO
  simp (config:={decide:=false}) only [i3,iR,fD,cR,fE,fO,fC,fv,d6,du,c9,fq,dW,fp,fG,cQ,eX,hP,eY,fe,bL,iX,ch,cf,aW,dn,dq,bB,fw,fN,de,a0,bZ,dt,dg,fF,et,fH,en,dF,fA,fi,cy,cS,cB,qM,fP,dy,qX,fK,qR,fz,qS,bP,cE,dE,dK,bq,aV,dh,eZ,cL,fR,cG,c7,bY,b6,aK,br,aZ,iV,dz,c5,dv,cY,dp,O4,OZ,NA,Oh,NJ,NL,NW,NX,qN,qK,qE,qQ,fM,fL,c8,fJ,fB,cq,bN,dA,dB,cN,dm,cP,bH,cZ,bC,bE,bh,bu,bo,bp,aT,cj,cm,bI,bQ,bl,i6,f8,iH,fk,fm,dG,iU,i7,b7,dH,bA,dw,bv,b9,fu,dr,dj,c6,df,bt,dk,hz,NS]
theorem AH {b1 b2:Bool} (h1:decide (jK c (eG l.ins)=1)=b1) (h2:(place L (bg l.ins)).isSome=b2) {σ:ag}:cv (run aj (n+99)) (.and [(.cmp (.var 6) .eq (.cst (.int 1))),(.cmp (.callF 5 [(.var 5)]) .in_ (.var 1))]) (nO L x c (some (.v (aS l.ins))) (some (.v (.int (jK c (eG l.ins)))))) σ=some (b1&&b2,σ):=by
 unfold nO
 simp (config:={decide:=false}) only [i3,iR,fD,cR,fE,fO,fC,fv,d6,du,c9,fq,dW,fp,fG,cQ,eX,hP,eY,fe,bL,iX,ch,cf,aW,dn,dq,bB,fw,fN,de,a0,bZ,dt,dg,fF,et,fH,en,dF,fA,fi,cy,cS,cB,qM,fP,dy,qX,fK,qR,fz,qS,bP,cE,dE,dK,bq,aV,dh,eZ,cL,fR,cG,c7,bY,b6,aK,br,aZ,iV,dz,c5,dv,cY,dp,O4,OZ,NA,Oh,NJ,NL,NW,NX,qN,qK,qE,qQ,fM,fL,c8,fJ,fB,cq,bN,dA,dB,cN,dm,cP,bH,cZ,bC,bE,bh,bu,bo,bp,aT,cj,cm,bI,bQ,bl,i6,f8,iH,fk,fm,dG,iU,i7,b7,dH,bA,dw,bv,b9,fu,dr,dj,c6,df,bt,dk,gP (ir _ _),h1,vE,h2]
 cases b1<;>rfl
theorem GC {b:Bool} (h0:decide (jK c (eG l.ins)=0)=b) {σ:ag}:cv (run aj (n+98)) (.cmp (.var 6) .eq (.cst (.int 0))) (nO L x c (some (.v (aS l.ins))) (some (.v (.int (jK c (eG l.ins)))))) σ=some (b,σ):=by
 unfold nO
 simp (config:={decide:=false}) only [i3,iR,fD,cR,fE,fO,fC,fv,d6,du,c9,fq,dW,fp,fG,cQ,eX,hP,eY,fe,bL,iX,ch,cf,aW,dn,dq,bB,fw,fN,de,a0,bZ,dt,dg,fF,et,fH,en,dF,fA,fi,cy,cS,cB,qM,fP,dy,qX,fK,qR,fz,qS,bP,cE,dE,dK,bq,aV,dh,eZ,cL,fR,cG,c7,bY,b6,aK,br,aZ,iV,dz,c5,dv,cY,dp,O4,OZ,NA,Oh,NJ,NL,NW,NX,qN,qK,qE,qQ,fM,fL,c8,fJ,fB,cq,bN,dA,dB,cN,dm,cP,bH,cZ,bC,bE,bh,bu,bo,bp,aT,cj,cm,bI,bQ,bl,i6,f8,iH,fk,fm,dG,iU,i7,b7,dH,bA,dw,bv,b9,fu,dr,dj,c6,df,bt,dk,h0]
theorem IK (h:L[x]? =some l) (h1:decide (jK c (eG l.ins)=1)=true) (hp:place L (bg l.ins)=some p) (hl:L.length≤1000) (hz:cU ((S.map ai).length+1)=true):aH (run aj (n+100)) Gm (nO L x c r5 r6) [.lst (S.map ai)]=
  some (.next,nO L (lim (jF L) p) c (some (.v (aS l.ins))) (some (.v (.int (jK c (eG l.ins))))),[.lst ((S++[x]).map ai)]):=by
 unfold Gm
 rw [wV h hz,iZ,iR,cG,AH h1 (b2:=true) (by rw [hp];rfl)]
 show aH _ [_] _ _=_
 rw [iZ]
 unfold nO
 simp (config:={decide:=false}) only [i3,iR,fD,cR,fE,fO,fC,fv,d6,du,c9,fq,dW,fp,fG,cQ,eX,hP,eY,fe,bL,iX,ch,cf,aW,dn,dq,bB,fw,fN,de,a0,bZ,dt,dg,fF,et,fH,en,dF,fA,fi,cy,cS,cB,qM,fP,dy,qX,fK,qR,fz,qS,bP,cE,dE,dK,bq,aV,dh,eZ,cL,fR,cG,c7,bY,b6,aK,br,aZ,iV,dz,c5,dv,cY,dp,O4,OZ,NA,Oh,NJ,NL,NW,NX,qN,qK,qE,qQ,fM,fL,c8,fJ,fB,cq,bN,dA,dB,cN,dm,cP,bH,cZ,bC,bE,bh,bu,bo,bp,aT,cj,cm,bI,bQ,bl,i6,f8,iH,fk,fm,dG,iU,i7,b7,dH,bA,dw,bv,b9,fu,dr,dj,c6,df,bt,dk,gP (ir _ _),pn hp,sY (nz (fQ hp) hl _)]
theorem I5 (h:L[x]? =some l) (h1:decide (jK c (eG l.ins)=1)=false) (h0:decide (jK c (eG l.ins)=0)=true) (hp:x+1 <L.length) (hl:L.length≤1000) (hz:cU ((S.map ai).length+1)=true):aH (run aj (n+100)) Gm (nO L x c r5 r6) [.lst (S.map ai)]=
  some (.next,nO L (lim (jF L) (x+1)) c (some (.v (aS l.ins))) (some (.v (.int (jK c (eG l.ins))))),[.lst ((S++[x]).map ai)]):=by
 unfold Gm
 rw [wV h hz,iZ,iR,cG,AH h1 rfl]
 show aH _ [_] _ _=_
 rw [iZ,iR,cG,GC h0]
 unfold nO
 simp (config:={decide:=false}) only [i3,iR,fD,cR,fE,fO,fC,fv,d6,du,c9,fq,dW,fp,fG,cQ,eX,hP,eY,fe,bL,iX,ch,cf,aW,dn,dq,bB,fw,fN,de,a0,bZ,dt,dg,fF,et,fH,en,dF,fA,fi,cy,cS,cB,qM,fP,dy,qX,fK,qR,fz,qS,bP,cE,dE,dK,bq,aV,dh,eZ,cL,fR,cG,c7,bY,b6,aK,br,aZ,iV,dz,c5,dv,cY,dp,O4,OZ,NA,Oh,NJ,NL,NW,NX,qN,qK,qE,qQ,fM,fL,c8,fJ,fB,cq,bN,dA,dB,cN,dm,cP,bH,cZ,bC,bE,bh,bu,bo,bp,aT,cj,cm,bI,bQ,bl,i6,f8,iH,fk,fm,dG,iU,i7,b7,dH,bA,dw,bv,b9,fu,dr,dj,c6,df,bt,dk,yl,sY (nz hp hl _)]
theorem Hs (h:L[x]? =some l) (h1:(decide (jK c (eG l.ins)=1)&&(place L (bg l.ins)).isSome)=false) (h0:decide (jK c (eG l.ins)=0)=false) (hz:cU ((S.map ai).length+1)=true):aH (run aj (n+100)) Gm (nO L x c r5 r6) [.lst (S.map ai)]=
  some (.ret (.v (ai x)),nO L x c (some (.v (aS l.ins))) (some (.v (.int (jK c (eG l.ins))))),[.lst ((S++[x]).map ai)]):=by
 unfold Gm
 rw [wV h hz,iZ,iR,cG,AH rfl rfl,h1]
 show aH _ [_] _ _=_
 rw [iZ,iR,cG,GC h0]
 rfl
end
theorem Lx {L:List ah} {x p:Nat} {l:ah} {c:Nh Cc} (h:L[x]? =some l) (h1:jK c (eG l.ins)=1) (hp:place L (bg l.ins)=some p):gF L c x=lim (jF L) p:=by
 unfold gF
 rw [h]
 show (if jK c (eG l.ins)=1 then _ else _)=_
 rw [NG h1,hp]
theorem Mt {L:List ah} {x:Nat} {l:ah} {c:Nh Cc} (h:L[x]? =some l) (h1:jK c (eG l.ins)=0):gF L c x=lim (jF L) (x+1):=by
 unfold gF
 rw [h]
 show (if jK c (eG l.ins)=1 then _ else _)=_
 rw [NV (fun z=>nomatch (h1.symm.trans z:(0:Int)=1)),NG h1]
theorem KZ {L:List ah} {x:Nat} {l:ah} {c:Nh Cc} (h:L[x]? =some l) (h1:(decide (jK c (eG l.ins)=1)&&(place L (bg l.ins)).isSome)=false) (h0:¬jK c (eG l.ins)=0):gF L c x=x:=by
 unfold gF
 rw [h]
 show (if jK c (eG l.ins)=1 then _ else _)=_
 by_cases q:jK c (eG l.ins)=1
 ·rw [NG q]
  rw [Nw q] at h1
  cases e:place L (bg l.ins) with
  |none=>rfl
  |some p=>rw [e] at h1;cases h1
 ·rw [NV q,NV h0]
theorem xe {s:Nat} {L:List ah} {c:Nh Cc} (Sh:cK L) (hs:s <L.length) (hl:L.length≤1000):nU 105 16 [lst L,an L,ai s,.str (kB c)] (ai (fol L c s)):=fun n=>by
 refine Nf fun nG=> ?_
 obtain ⟨o,ρ',σ',e,q⟩:=GB (test:=cv (run aj (n+103)) Lh) (body:=aH (run aj (n+103)) Gm) (I:=fun x S ρ σ=>∃r5 r6,ρ=nO L x c r5 r6∧σ=[.lst (S.map ai)])
  (uR Sh c) ((mF L).lim_lt hs) hl (fun x S ρ σ hx hz ⟨r5,r6,h1,h2⟩=>by
   subst h1;subst h2
   have h:=Nr hx
   have hz:=yn hz hl
   refine ⟨_,EW,?_⟩
   by_cases m:x∈S
   ·rw [Nw m];exact fun z=>(z m).elim
   rw [NR m]
   refine ⟨m,?_⟩
   cases q:(decide (jK c (eG L[x].ins)=1)&&(place L (bg L[x].ins)).isSome) with
   |true=>
    have q:=Np.mp q
    obtain ⟨p,hp⟩:=Og.mp q.2
    exact ⟨_,_,_,IK h q.1 hp hl hz,.inl ⟨rfl,_,_,by rw [Lx h (Nu q.1) hp],rfl⟩⟩
   |false=>
    by_cases h0:jK c (eG L[x].ins)=0
    ·have:x+1 <L.length:=by
      rcases ON (Sl hx) with h'|h'
      ·exact h'
      ·rw [Sh.last _ _ h' h,show eG none=none from rfl,uD] at h0
       cases h0
     exact ⟨_,_,_,I5 h (NR fun z=>nomatch (h0.symm.trans z:(0:Int)=1)) (Nw h0) this hl hz,.inl ⟨rfl,_,_,by rw [Mt h h0],rfl⟩⟩
    ·exact ⟨_,_,_,Hs h q (NR h0) hz,.inr ⟨rfl,KZ h q h0⟩⟩)
  (ρ:=nO L (lim (jF L) s) c none none) (σ:=[.lst []]) ⟨none,none,rfl,rfl⟩
 refine nG ?_
 have e0:(run aj (n+104)).s (.assignT [(4,true),(2,false)] [(.lst []),(.callF 15 [(.var 0),(.var 1),(.var 2)])]) [some (.v (lst L)),some (.v (an L)),some (.v (ai s)),some (.v (.str (kB c))),none,none,none] []=some (.next,nO L (lim (jF L) s) c none none,[.lst []]):=by
  unfold nO
  simp (config:={decide:=false}) only [i3,iR,fD,cR,fE,fO,fC,fv,d6,du,c9,fq,dW,fp,fG,cQ,eX,hP,eY,fe,bL,iX,ch,cf,aW,dn,dq,bB,fw,fN,de,a0,bZ,dt,dg,fF,et,fH,en,dF,fA,fi,cy,cS,cB,qM,fP,dy,qX,fK,qR,fz,qS,bP,cE,dE,dK,bq,aV,dh,eZ,cL,fR,cG,c7,bY,b6,aK,br,aZ,iV,dz,c5,dv,cY,dp,O4,OZ,NA,Oh,NJ,NL,NW,NX,qN,qK,qE,qQ,fM,fL,c8,fJ,fB,cq,bN,dA,dB,cN,dm,cP,bH,cZ,bC,bE,bh,bu,bo,bp,aT,cj,cm,bI,bQ,bl,i6,f8,iH,fk,fm,dG,iU,i7,b7,dH,bA,dw,bv,b9,fu,dr,dj,c6,df,bt,dk,sY (nz hs hl _)]
  rfl
 have fin:∀{r},aH (run aj (n+104)) [.while_ Lh Gm,.ret (.var 2)] (nO L (lim (jF L) s) c none none) [.lst []]=some r→r.1= .ret (.v (ai (fol L c s)))→(run aj (n+105)).c 16 [.v (lst L),.v (an L),.v (ai s),.v (.str (kB c))] []=some (.ok (.v (ai (fol L c s))),[]):=fun {r} e h=>by
  refine Nf fun nG=> ?_
  obtain ⟨o,ρ,σ⟩:=r
  cases h
  refine nG ?_
  exact bV (n:=n+104) (fn:=nY) (W:= .v _) rfl rfl (av (n:=n+104) e0 e) rfl
 rcases q with ⟨rfl,S,r5,r6,rfl,rfl⟩|rfl
 ·exact fin (show (NK (fW _ _ _ _ _) _)=_ by rw [e];rfl) rfl
 ·exact fin (show (NK (fW _ _ _ _ _) _)=_ by rw [e];rfl) rfl
noncomputable def oq (k:Nat):Sg:=[48,116]++eI (k+1)
noncomputable def jk (L:List ah):List Sg:=aq L++named L++L.map fun l=>bg l.ins
structure bX (L:List ah):Prop where
 len:L.length≤20
 labs:(aq L).length≤100
 nodup:(aq L).Nodup
 sh:cK L
theorem bX.len' {L:List ah} (S:bX L):L.length≤1000:=Ni S.len (by decide)
theorem bX.rows {L:List ah} (S:bX L):∀l∈L.dropLast,∃i,l.ins=some i:=fun l m=>by
 obtain ⟨i,h,e⟩:=O5 m
 rw [Rt] at h
 obtain ⟨ls,x,q⟩:=S.sh.row i (Nat.add_lt_of_lt_sub h)
 have e2:L[i]? =some l:=by
  rw [←e,List.getElem_dropLast,Nr]
 rw [e2] at q
 cases q;exact ⟨x,rfl⟩
theorem AR (o:Nh cr):(BX o).length≤1:=by
 cases o with
 |none=>exact N5 _
 |some i=>cases i with
  |jump=>exact N5 _
  |ret=>exact N5 _
  |mov w i y=>cases y<;>first|exact N5 _|exact Nz _
theorem jr (L:List ah):(named L).length≤L.length:=by
 unfold named
 refine Ni ?_ (Ni (NZ Rt) (Qt _ 1))
 induction L.dropLast with
 |nil=>exact Nz _
 |cons a l ih=>
  rw [Pm,Nj,OX,OT]
  exact N6 ih (AR _)
theorem zD {L:List ah} (S:bX L):(jk L).length <200:=by
 unfold jk
 rw [Nj,Nj,Nl]
 exact ND (N6 (N6 S.labs (Ni (jr L) S.len)) S.len) (by decide)
noncomputable def F3 (s:Sg):Nat:=s.foldl (fun n c=>n*10+(c -48)) 0
theorem ou {f:Nat→Sg} {g:Sg→Nat} (h:(OV 200).all (fun k=>g (f k)==k)=true):((OV 200).map f).Nodup:=
 Rf.mpr (List.nodup_range.imp_of_mem fun a b n e=>n ((Nv (NC.mp h _ a)).symm.trans ((Nt g e).trans (Nv (NC.mp h _ b)))))
theorem sO:((OV 200).map oq).Nodup:=ou (g:=fun s=>F3 (s.drop 2) -1) (by kernel_rfl)
theorem fresh {T:List Sg} (h:T.length <200):∃k,k <200∧oq k∉T∧∀j,j <k→oq j∈T:=by
 have:∃k,k <200∧oq k∉T:=Nf fun no=>by
  have:=Ro sO fun x m=>let ⟨k,hk,e⟩:=Of.mp m;Nf fun q=>no ⟨k,Qg.mp hk,e▸q⟩
  rw [Nl,PF] at this
  exact absurd h (Pt.mpr this)
 refine Nf fun nG=> ?_
 obtain ⟨k,h1,h2⟩:=this
 refine nG ?_
 induction k using Vx with
 |_ k ih=>
  by_cases q:∀j,j <k→oq j∈T
  ·exact ⟨k,h1,h2,q⟩
  ·obtain ⟨j,q⟩:=Classical.not_forall.mp q
   obtain ⟨a,b⟩:=Classical.not_imp.mp q
   exact ih j a (Pu a h1) b
theorem xa:(OV 201).all (fun k=>cU (([48,116]:Sg).length+(eI k).length))=true:=by kernel_rfl
theorem Hr {k:Nat} (h:k <201):xo (k:Int)=some (.str (eI k)):=by
 unfold xo
 rw [Nw (Oi k),Nw (show (k:Int) <10000000000 by omega),O7,Bool.and_true,NG rfl]
theorem J1 (i:Int):vN .str_ [.int i]=xo i:=
 (show vN .str_ [.int i]=(V.int? (.int i)).bind xo from rfl).trans (SP i xo)
theorem x5 {k:Nat} (h:k <201):vN .str_ [ai k]=some (.str (eI k)):=(J1 _).trans (Hr h)
theorem G3 {k:Nat} (h:k <201):oC (.str [48,116]) (.str (eI k))=some (.str ([48,116]++eI k)):=by
 show (if cU (([48,116]:Sg).length+(eI k).length)=true then _ else _)=_
 rw [NG (NC.mp xa k (Qg.mpr h))]
noncomputable def Ky:CE:= .cmp (.bin .add (.cst (.str [48,116])) (.callB .str_ [(.var 4)])) .in_ (.var 3)
noncomputable def Iy (L:List ah) (e:Nat) (k:Nat):Loc:=[some (.v (lst L)),some (.v (ai e)),some (.v (.tup [])),some (.v (.lst ((jk L).map .str))),some (.v (ai (k+1))),none,none]
theorem eQ {n:Nat} {b:Bf} {args:List CE} {ρ:Loc} {σ σ':ag} {us:List V} {w:V} (h:rS (run aj n) args ρ σ=some (us,σ')) (k:vN b us=some w):(run aj (n+1)).e (.callB b args) ρ σ=some (.v w,σ'):=by
 show (rS (run aj n) args ρ σ).bind _=_
 rw [h]
 show (vN b us).map _=_
 rw [k];rfl
theorem aD {n i:Nat} {e:CE} {ρ:Loc} {σ σ':ag} {U:aA} {u:V} (hc:e.comp?=none) (h:(run aj n).e e ρ σ=some (U,σ')) (k:U.toV=some u):(run aj (n+1)).s (.assign i e) ρ σ=some (.next,ρ.set i (some (.v u)),σ'):=by
 rw [iR,bq,hc]
 show (((run aj n).e e ρ σ).bind _).bind _=_
 rw [h]
 show ((U.toV).bind _).bind _=_
 rw [k];rfl
theorem d9 {n:Nat} {c:CS} {cs:List CS} {ρ ρ':Loc} {σ σ':ag} {o:fg} (h:(run aj n).s c ρ σ=some (o,ρ',σ')) (k:o.goes=false):aH (run aj n) (c::cs) ρ σ=some (o,ρ',σ'):=by
 rw [cR,h]
 show (bif o.goes then _ else _)=_
 rw [k];rfl
theorem vt {n:Nat} {a b:CE} {ρ:Loc} {σ:ag} {x y:Bool} (h:cv (run aj n) a ρ σ=some (x,σ)) (k:x=false→cv (run aj n) b ρ σ=some (y,σ)):cv (run aj (n+1)) (.or [a,b]) ρ σ=some (x||y,σ):=by
 refine gy ?_
 rw [i3,hP,cB,h]
 cases x with
 |true=>rfl
 |false=>show (fc _ false [b] ρ σ).map _=_;rw [cy,k rfl];rfl
theorem rq {n:Nat} {a b:CE} {ρ:Loc} {σ:ag} {x y:Bool} (h:cv (run aj n) a ρ σ=some (x,σ)) (k:x=true→cv (run aj n) b ρ σ=some (y,σ)):cv (run aj (n+1)) (.and [a,b]) ρ σ=some (x&&y,σ):=by
 refine gy ?_
 rw [i3,eX,cS,h]
 cases x with
 |false=>rfl
 |true=>show (fc _ true [b] ρ σ).map _=_;rw [cy,k rfl];rfl
theorem vL {n:Nat} {a:CE} {ρ:Loc} {σ:ag} {x:Bool} (h:cv (run aj n) a ρ σ=some (x,σ)):cv (run aj (n+1)) (.not a) ρ σ=some (!x,σ):=by
 refine gy ?_
 rw [i3,eY,h];rfl
theorem cM {n:Nat} {a b:CE} {ρ:Loc} {σ σ1 σ2:ag} {U W:aA} {u w:V} (h1:(run aj n).e a ρ σ=some (U,σ1)) (h2:(run aj n).e b ρ σ1=some (W,σ2)) (k1:U.deref σ2=some u) (k2:W.deref σ2=some w):rS (run aj n) [a,b] ρ σ=some ([u,w],σ2):=by
 show (((run aj n).e a ρ σ).bind _).bind _=_
 rw [h1]
 show ((((run aj n).e b ρ σ1).bind _).bind _).bind _=_
 rw [h2]
 show ((U.deref σ2).bind _).bind _=_
 rw [k1]
 show (((W.deref σ2).bind _).bind _).bind _=_
 rw [k2];rfl
theorem bJ {n:Nat} {a b:CE} {o:um} {ρ:Loc} {σ:ag} {U W:aA} {u w:V} {r:Bool} (h1:(run aj n).e a ρ σ=some (U,σ)) (k1:U.deref σ=some u) (h2:(run aj n).e b ρ σ=some (W,σ)) (k2:W.deref σ=some w) (h:gD o u w=some r):cv (run aj (n+1)) (.cmp a o b) ρ σ=some (r,σ):=by
 refine gy ?_
 show (rS (run aj n) [a,b] ρ σ).bind _=_
 rw [cM h1 h2 k1 k2]
 show (gD o u w).map _=_
 rw [h];rfl
theorem bW {n:Nat} {o:Fa} {l r:CE} {ρ:Loc} {σ σ':ag} {x y w:V} (h:jC (run aj n) [l,r] ρ σ=some ([x,y],σ')) (k:oE o x y=some w):(run aj (n+1)).e (.bin o l r) ρ σ=some (.v w,σ'):=by
 show (jC (run aj n) [l,r] ρ σ).bind _=_
 rw [h]
 show (oE o x y).map _=_
 rw [k];rfl
theorem Jr {n e k:Nat} {L:List ah} (h:k <200):(run aj (n+50)).e (.bin .add (.cst (.str [48,116])) (.callB .str_ [(.var 4)])) (Iy L e k) []=some (.v (.str (oq k)),[]):=
 bW (n:=n+49) (x:= .str [48,116]) (y:= .str (eI (k+1))) (aI (U:= .v (.str [48,116])) (W:= .v (.str (eI (k+1)))) (σ1:=[]) rfl rfl (eQ (n:=n+48) (us:=[ai (k+1)]) rfl (x5 (PU h))) rfl) (G3 (PU h))
theorem yG {n e k:Nat} {L:List ah} {b:Bool} (h:k <200) (hb:decide (oq k∈jk L)=b):cv (run aj (n+60)) Ky (Iy L e k) []=some (b,[]):=by
 rw [←hb]
 exact gy (Kf (n:=n+59) (W:= .v (.lst ((jk L).map .str))) (Jr (n:=n+9) h) rfl rfl)
theorem A0 {n e k:Nat} {L:List ah} (hk:k <200) (h1:oq k∉jk L) (h2:∀j,j <k→oq j∈jk L):∀d j M,d+j=k→d <M→
  fW (cv (run aj (n+60)) Ky) (aH (run aj (n+60)) [.assign 4 (.bin .add (.var 4) (.cst (.int 1)))]) M (Iy L e j) []=some (.next,Iy L e k,[]):=by
 intro d
 induction d with
 |zero=>
  intro j M hj hM
  rw [Om] at hj
  subst hj
  obtain ⟨M,rfl⟩:∃j,M=j+1:=N9 (Px hM)
  show (cv _ Ky _ _).bind _=_
  rw [yG hk (NR h1)];rfl
 |succ d ih=>
  intro j M hj hM
  obtain ⟨M,rfl⟩:∃j,M=j+1:=N9 (Px (ND (N5 _) hM))
  have lj:j <k:=by rw [←hj,O8];exact O9 (P4 j d)
  show (cv _ Ky _ _).bind _=_
  rw [yG (Pu lj hk) (Nw (h2 j lj))]
  exact ih (j+1) M (by rw [←hj,O8,US]) (OK hM)
theorem y5 {L:List ah} {i:Nat} (h:i <L.length) (x:ah):L.take i++[x]++L.drop (i+1)=L.set i x:=by
 rw [QZ,NG h,NI];rfl
theorem tE {L:List ah} {i:Nat} (h:i <L.length) (hl:L.length≤1000) (x:ah):oC (lst (L.take i)) (.lst [ay x])=some (lst (L.take i++[x]))∧oC (lst (L.take i++[x])) (lst (L.drop (i+1)))=some (lst (L.set i x)):=by
 have e1:(L.take i).length≤1000:=Ni (Qb _ _) (Ni (NP h) hl)
 have e2:(L.drop (i+1)).length≤1000:=Ni (NZ O2) (Ni (Qt _ _) hl)
 refine ⟨qd (B:=[x]) (Ni (OB e1 1) (by decide)),?_⟩
 rw [qd (by rw [Nj];exact Ni (N6 (OB e1 1) e2) (by decide)),y5 h]
theorem HA {L:List ah} (S:bX L):vN .list_ [an L]=some (.lst ((aq L).map .str)):=by
 show (if cU (aq L).length=true then _ else _)=_
 rw [NG (eU (Ni S.labs (by decide)))];rfl
theorem Gv {a b:List Sg} (h:a.length+b.length≤1000):oC (.lst (a.map .str)) (.lst (b.map .str))=some (.lst ((a++b).map .str)):=by
 show (if cU ((a.map V.str).length+(b.map V.str).length)=true then _ else _)=_
 rw [Nl,Nl,NG (eU (Ni h (by decide))),NS]
theorem Be {b:List Sg} (h:b.length≤1000):oC (.lst []) (.lst (b.map .str))=some (.lst (b.map .str)):=Gv (a:=[]) (by rw [RD,Om];exact h)
theorem BB:vN .list_ [.tup []]=some (.lst []):=rfl
inductive WL (L:List ah) (e:Nat):List ah→Sg→Prop
 |old {nm:Sg} {ls:List Sg} {i:Nh cr}:L[e]? =some ⟨nm::ls,i⟩→WL L e L nm
 |new {k:Nat} {i:Nh cr}:L[e]? =some ⟨[],i⟩→oq k∉jk L→WL L e (L.set e ⟨[oq k],i⟩) (oq k)
theorem WL.len {L L':List ah} {e:Nat} {nm:Sg} (h:WL L e L' nm):L'.length=L.length:=by
 cases h with
 |old _=>rfl
 |new _ _=>exact Ot
theorem H8 {n e:Nat} {L:List ah} {nm:Sg} {ls:List Sg} {i:Nh cr} (h:L[e]? =some ⟨nm::ls,i⟩):(run aj (n+120)).c 17 [.v (lst L),.v (ai e),.v (.tup [])] []=some (.ok (.v (.tup [lst L,.str nm])),[]):=by
 refine bV (n:=n+119) (fn:=i4) (ρ:=[some (.v (lst L)),some (.v (ai e)),some (.v (.tup [])),none,none,none,none]) (σ2:=[]) (W:= .v _) rfl rfl ?_ rfl
 show aH (run aj (n+119)) (_::_) [some (.v (lst L)),some (.v (ai e)),some (.v (.tup [])),none,none,none,none] []=_
 refine d9 ?_ rfl
 have hg:decide ((0:Int) <((V.str nm::SQ V.str ls).length:Int))=true:=Nw (QL.mpr (OA _))
 have h0:iW (.tup (.str nm::ls.map .str)) (.int 0)=some (.str nm):=by
  show (k6 (ls.map V.str).length.succ 0).bind _=_
  unfold k6
  rw [NG (Rx 0),NG (QL.mpr (OA _))];rfl
 simp (config:={decide:=false}) only [i3,iR,fD,cR,fE,fO,fC,fv,d6,du,c9,fq,dW,fp,fG,cQ,eX,hP,eY,fe,bL,iX,ch,cf,aW,dn,dq,bB,fw,fN,de,a0,bZ,dt,dg,fF,et,fH,en,dF,fA,fi,cy,cS,cB,qM,fP,dy,qX,fK,qR,fz,qS,bP,cE,dE,dK,bq,aV,dh,eZ,cL,fR,cG,c7,bY,b6,aK,br,aZ,iV,dz,c5,dv,cY,dp,O4,OZ,NA,Oh,NJ,NL,NW,NX,qN,qK,qE,qQ,fM,fL,c8,fJ,fB,cq,bN,dA,dB,cN,dm,cP,bH,cZ,bC,bE,bh,bu,bo,bp,aT,cj,cm,bI,bQ,bl,i6,f8,iH,fk,fm,dG,iU,i7,b7,dH,bA,dw,bv,b9,fu,dr,dj,c6,df,bt,dk,iF h,GZ,hg,h0]
theorem HI {n e k:Nat} {L:List ah} {i:Nh cr} (S:bX L) (he:e <L.length) (h:L[e]? =some ⟨[],i⟩) (hk:k <200) (h1:oq k∉jk L) (h2:∀j,j <k→oq j∈jk L):
  (run aj (n+120)).c 17 [.v (lst L),.v (ai e),.v (.tup [])] []=some (.ok (.v (.tup [lst (L.set e ⟨[oq k],i⟩),.str (oq k)])),[]):=by
 have hn:=Ni (jr L) S.len
 have hs:(aq L++named L).length≤120:=by rw [Nj];exact N6 S.labs hn
 refine bV (n:=n+119) (fn:=i4) (ρ:=[some (.v (lst L)),some (.v (ai e)),some (.v (.tup [])),some (.v (.lst ((jk L).map .str))),some (.v (ai (k+1))),some (.v (.str (oq k))),none]) (σ2:=[]) (W:= .v _) rfl rfl ?_ rfl
 have s1:(run aj (n+119)).s (.ite (.cmp (.callB .len [(.attr (.idx (.var 0) (.var 1)) .labels)]) .gt (.cst (.int 0))) [.ret (.tup [(.var 0),(.idx (.attr (.idx (.var 0) (.var 1)) .labels) (.cst (.int 0)))])] []) [some (.v (lst L)),some (.v (ai e)),some (.v (.tup [])),none,none,none,none] []=
   some (.next,[some (.v (lst L)),some (.v (ai e)),some (.v (.tup [])),none,none,none,none],[]):=by
  simp (config:={decide:=false}) only [i3,iR,fD,cR,fE,fO,fC,fv,d6,du,c9,fq,dW,fp,fG,cQ,eX,hP,eY,fe,bL,iX,ch,cf,aW,dn,dq,bB,fw,fN,de,a0,bZ,dt,dg,fF,et,fH,en,dF,fA,fi,cy,cS,cB,qM,fP,dy,qX,fK,qR,fz,qS,bP,cE,dE,dK,bq,aV,dh,eZ,cL,fR,cG,c7,bY,b6,aK,br,aZ,iV,dz,c5,dv,cY,dp,O4,OZ,NA,Oh,NJ,NL,NW,NX,qN,qK,qE,qQ,fM,fL,c8,fJ,fB,cq,bN,dA,dB,cN,dm,cP,bH,cZ,bC,bE,bh,bu,bo,bp,aT,cj,cm,bI,bQ,bl,i6,f8,iH,fk,fm,dG,iU,i7,b7,dH,bA,dw,bv,b9,fu,dr,dj,c6,df,bt,dk,iF h,GZ,show decide ((0:Int) <(([]:List V).length:Int))=false from rfl]
 refine av s1 ?_
 have s2:(run aj (n+119)).s (.assignT [(3,false),(4,false)] [(.bin .add (.bin .add (.callB .list_ [(.var 2)]) (.callB .list_ [(.callF 10 [(.var 0)])])) (.callF 19 [(.var 0)])),(.cst (.int 1))]) [some (.v (lst L)),some (.v (ai e)),some (.v (.tup [])),none,none,none,none] []=
   some (.next,[some (.v (lst L)),some (.v (ai e)),some (.v (.tup [])),some (.v (.lst ((aq L++named L).map .str))),some (.v (.int 1)),none,none],[]):=by
  simp (config:={decide:=false}) only [i3,iR,fD,cR,fE,fO,fC,fv,d6,du,c9,fq,dW,fp,fG,cQ,eX,hP,eY,fe,bL,iX,ch,cf,aW,dn,dq,bB,fw,fN,de,a0,bZ,dt,dg,fF,et,fH,en,dF,fA,fi,cy,cS,cB,qM,fP,dy,qX,fK,qR,fz,qS,bP,cE,dE,dK,bq,aV,dh,eZ,cL,fR,cG,c7,bY,b6,aK,br,aZ,iV,dz,c5,dv,cY,dp,O4,OZ,NA,Oh,NJ,NL,NW,NX,qN,qK,qE,qQ,fM,fL,c8,fJ,fB,cq,bN,dA,dB,cN,dm,cP,bH,cZ,bC,bE,bh,bu,bo,bp,aT,cj,cm,bI,bQ,bl,i6,f8,iH,fk,fm,dG,iU,i7,b7,dH,bA,dw,bv,b9,fu,dr,dj,c6,df,bt,dk,BB,gP (ja S.nodup (Ni S.labs (by decide)) _),HA S,Be (b:=aq L) (Ni S.labs (by decide)),gP (sX S.rows (Ni hn (by decide)) _),Gv (a:=aq L) (b:=named L) (Ni (N6 S.labs hn) (by decide))]
 refine av s2 ?_
 have tg:=gY (n:=n+116) (elt:= .callF 5 [(.attr (.var 6) .instruction)]) (t:= .one 6) (it:= .seq (.var 0)) (ifs:=[]) (gs:=[]) (ρ:=[some (.v (lst L)),some (.v (ai e)),some (.v (.tup [])),some (.v (.lst ((aq L++named L).map .str))),some (.v (.int 1)),none,none]) (σ:=[]) (xs:=L) (enc:=ay) (g:=fun l=>[V.str (bg l.ins)]) (by kernel_rfl)
  (fun l _=>by
   obtain ⟨labs,o⟩:=l
   cases o with
   |none=>kernel_rfl
   |some i=>cases i<;>kernel_rfl) (by rw [iw,Nl,Nl];exact Ni S.len (by decide))
 rw [iw] at tg
 have s3:(run aj (n+119)).s (.assign 3 (.bin .add (.var 3) (.comp (.callF 5 [(.attr (.var 6) .instruction)]) [(.mk (.one 6) (.seq (.var 0)) [])]))) [some (.v (lst L)),some (.v (ai e)),some (.v (.tup [])),some (.v (.lst ((aq L++named L).map .str))),some (.v (.int 1)),none,none] []=
   some (.next,Iy L e 0,[]):=by
  have:=Df (n:=n+117) (l:= .var 3) (U:= .v (.lst ((aq L++named L).map .str))) rfl rfl tg rfl (by rw [Nl,Nl,Nl];exact Ni (N6 hs S.len) (by decide))
  rw [←NS] at this
  exact aD (n:=n+118) rfl this rfl
 refine av s3 ?_
 refine av (show (run aj (n+119)).s (.while_ Ky [.assign 4 (.bin .add (.var 4) (.cst (.int 1)))]) (Iy L e 0) []=_ from A0 (n:=n+58) hk h1 h2 k 0 turns rfl (Pu hk (by decide))) ?_
 refine av (show (run aj (n+119)).s (.assign 5 (.bin .add (.cst (.str [48,116])) (.callB .str_ [(.var 4)]))) (Iy L e k) []=some (.next,[some (.v (lst L)),some (.v (ai e)),some (.v (.tup [])),some (.v (.lst ((jk L).map .str))),some (.v (ai (k+1))),some (.v (.str (oq k))),none],[]) from aD (n:=n+118) rfl (Jr (n:=n+68) hk) rfl) (dY ?_)
 simp (config:={decide:=false}) only [i3,iR,fD,cR,fE,fO,fC,fv,d6,du,c9,fq,dW,fp,fG,cQ,eX,hP,eY,fe,bL,iX,ch,cf,aW,dn,dq,bB,fw,fN,de,a0,bZ,dt,dg,fF,et,fH,en,dF,fA,fi,cy,cS,cB,qM,fP,dy,qX,fK,qR,fz,qS,bP,cE,dE,dK,bq,aV,dh,eZ,cL,fR,cG,c7,bY,b6,aK,br,aZ,iV,dz,c5,dv,cY,dp,O4,OZ,NA,Oh,NJ,NL,NW,NX,qN,qK,qE,qQ,fM,fL,c8,fJ,fB,cq,bN,dA,dB,cN,dm,cP,bH,cZ,bC,bE,bh,bu,bo,bp,aT,cj,cm,bI,bQ,bl,i6,f8,iH,fk,fm,dG,iU,i7,b7,dH,bA,dw,bv,b9,fu,dr,dj,c6,df,bt,dk,iF h,tz (NP he),yl,lX he,(tE he S.len' ⟨[oq k],i⟩).1,(tE he S.len' ⟨[oq k],i⟩).2,show iB .line [.lst [.str (oq k)],aS i]=some (ay ⟨[oq k],i⟩) from rfl]
theorem uN {e:Nat} {L:List ah} (S:bX L) (he:e <L.length):∃L' nm,nU 120 17 [lst L,ai e,.tup []] (.tup [lst L',.str nm])∧WL L e L' nm:=by
 have h:=Nr he
 generalize L[e]=l at h
 obtain ⟨ls,i⟩:=l
 cases ls with
 |cons nm ls=>exact ⟨_,_,fun n=>H8 h,.old h⟩
 |nil=>
  obtain ⟨k,hk,h1,h2⟩:=fresh (zD S)
  exact ⟨_,_,fun n=>HI S he h hk h1 h2,.new h h1⟩
noncomputable def qF:cr→Bool
 | .jump m _=>match m with
  | .jmp=>true
  | .call=>true
  | .je=>true
  | .jne=>true
  | .jae=>true
  | .jb=>true
  | .jrcxz=>false
  | .loop=>false
  | .loope=>false
  | .loopne=>false
 | .ret=>false
 | .mov _ _ _=>false
inductive RT (L:List ah) (a:Nat):List ah→Prop
 |skip {ls:List Sg} {i:cr}:L[a]? =some ⟨ls,some i⟩→((place L i.tgt).isSome&&qF i)=false→RT L a L
 |same {ls:List Sg} {m:Nm} {t:Sg} {p:Nat}:L[a]? =some ⟨ls,some (.jump m t)⟩→place L t=some p→fol L m.cc p=p→RT L a L
 |led {ls ls':List Sg} {m:Nm} {t nm:Sg} {p:Nat} {L':List ah}:L[a]? =some ⟨ls,some (.jump m t)⟩→qF (.jump m t)=true→place L t=some p→fol L m.cc p≠p→WL L (fol L m.cc p) L' nm→L'[a]? =some ⟨ls',some (.jump m t)⟩→
   RT L a (L'.set a ⟨ls',some (.jump m nm)⟩)
noncomputable def kK (L:List ah) (r2 r3 r4 r5 r6 r7 r8:Nh aA):Loc:=[some (.v (lst L)),some (.v (.tup [])),r2,r3,r4,r5,r6,r7,r8]
theorem Jf (m:Nm) (t nm:Sg):nU 20 8 [aP (.jump m t),.str nm] (aP (.jump m nm)):=fun n=>by kernel_rfl
noncomputable def Ki:CE:= .or [(.cmp (.attr (.var 3) .name) .in_ (.tup [(.cst (.str [106,109,112])),(.cst (.str [99,97,108,108]))])),(.cmp (.var 5) .ne (.cst (.str [])))]
noncomputable def JW:CE:= .or [(.cmp (.callF 5 [(.var 3)]) .nin (.var 4)),(.not Ki)]
noncomputable def MQ:List CS:=[.unpack [0,8] (.callF 17 [(.var 0),(.var 7),(.var 1)]),
   .assign 0 (.bin .add (.bin .add (.slc (.var 0) none (some (.var 2))) (.lst [(.mk .line [(.attr (.idx (.var 0) (.var 2)) .labels),(.callF 8 [(.var 3),(.var 8)])])])) (.slc (.var 0) (some (.bin .add (.var 2) (.cst (.int 1)))) none))]
noncomputable def MB:List CS:=[.assignT [(3,false),(4,false)] [(.attr (.idx (.var 0) (.var 2)) .instruction),(.callF 10 [(.var 0)])],
  .assign 5 (.callF 6 [(.var 3)]),
  .ite JW [.cont] [],
  .assign 6 (.idx (.var 4) (.callF 5 [(.var 3)])),
  .assign 7 (.callF 16 [(.var 0),(.var 4),(.var 6),(.var 5)]),
  .ite (.cmp (.var 7) .ne (.var 6)) MQ []]
section
variable {n a p e:Nat} {L L':List ah} {i:cr} {ls ls':List Sg} {m:Nm} {t nm:Sg} {r2 r3 r4 r5 r6 r7 r8:Nh aA}
theorem JR (i:cr):cv (run aj (n+100)) Ki (kK L r2 (some (.v (aP i))) r4 (some (.v (.str (kB (eG (some i)))))) r6 r7 r8) []=some (qF i,[]):=by
 cases i with
 |jump m t=>cases m<;>kernel_rfl
 |ret=>kernel_rfl
 |mov=>kernel_rfl
theorem Mg (S:bX L) (h:L[a]? =some ⟨ls,some i⟩):(run aj (n+150)).s (.assignT [(3,false),(4,false)] [(.attr (.idx (.var 0) (.var 2)) .instruction),(.callF 10 [(.var 0)])]) (kK L (some (.v (ai a))) r3 r4 r5 r6 r7 r8) []=
  some (.next,kK L (some (.v (ai a))) (some (.v (aP i))) (some (.v (an L))) r5 r6 r7 r8,[]):=by
 unfold kK
 simp (config:={decide:=false}) only [i3,iR,fD,cR,fE,fO,fC,fv,d6,du,c9,fq,dW,fp,fG,cQ,eX,hP,eY,fe,bL,iX,ch,cf,aW,dn,dq,bB,fw,fN,de,a0,bZ,dt,dg,fF,et,fH,en,dF,fA,fi,cy,cS,cB,qM,fP,dy,qX,fK,qR,fz,qS,bP,cE,dE,dK,bq,aV,dh,eZ,cL,fR,cG,c7,bY,b6,aK,br,aZ,iV,dz,c5,dv,cY,dp,O4,OZ,NA,Oh,NJ,NL,NW,NX,qN,qK,qE,qQ,fM,fL,c8,fJ,fB,cq,bN,dA,dB,cN,dm,cP,bH,cZ,bC,bE,bh,bu,bo,bp,aT,cj,cm,bI,bQ,bl,i6,f8,iH,fk,fm,dG,iU,i7,b7,dH,bA,dw,bv,b9,fu,dr,dj,c6,df,bt,dk,iF h,gP (ja S.nodup (Ni S.labs (by decide)) _),aS]
theorem LF:(run aj (n+150)).s (.assign 5 (.callF 6 [(.var 3)])) (kK L r2 (some (.v (aP i))) r4 r5 r6 r7 r8) []=some (.next,kK L r2 (some (.v (aP i))) r4 (some (.v (.str (kB (eG (some i)))))) r6 r7 r8,[]):=
 aD (n:=n+149) rfl (aB (n:=n+148) (us:=[aP i]) (Us:=[.v (aP i)]) (by kernel_rfl) rfl (ph (some i) (n+128)) rfl) rfl
theorem J4 (b:Bool) (hb:(place L i.tgt).isSome=b):cv (run aj (n+149)) JW (kK L r2 (some (.v (aP i))) (some (.v (an L))) (some (.v (.str (kB (eG (some i)))))) r6 r7 r8) []=some (!(b&&qF i),[]):=by
 have e1:(run aj (n+147)).e (.callF 5 [(.var 3)]) (kK L r2 (some (.v (aP i))) (some (.v (an L))) (some (.v (.str (kB (eG (some i)))))) r6 r7 r8) []=some (.v (.str i.tgt),[]):=
  aB (n:=n+146) (us:=[aP i]) (Us:=[.v (aP i)]) (by kernel_rfl) rfl (ir (some i) (n+134)) rfl
 have e2:(run aj (n+147)).e (.var 4) (kK L r2 (some (.v (aP i))) (some (.v (an L))) (some (.v (.str (kB (eG (some i)))))) r6 r7 r8) []=some (.v (an L),[]):=rfl
 have e3:=vt (n:=n+148) (a:= .cmp (.callF 5 [(.var 3)]) .nin (.var 4)) (bJ (n:=n+147) (o:= .nin) e1 rfl e2 rfl (Nt (Pi (!·)) vE)) fun _=>vL (n:=n+147) (JR (n:=n+47) i)
 rw [hb,←Bool.not_and] at e3
 exact e3
theorem LB (h:place L i.tgt=some p):(run aj (n+150)).s (.assign 6 (.idx (.var 4) (.callF 5 [(.var 3)]))) (kK L r2 (some (.v (aP i))) (some (.v (an L))) r5 r6 r7 r8) []=
  some (.next,kK L r2 (some (.v (aP i))) (some (.v (an L))) r5 (some (.v (ai p))) r7 r8,[]):=by
 unfold kK
 simp (config:={decide:=false}) only [i3,iR,fD,cR,fE,fO,fC,fv,d6,du,c9,fq,dW,fp,fG,cQ,eX,hP,eY,fe,bL,iX,ch,cf,aW,dn,dq,bB,fw,fN,de,a0,bZ,dt,dg,fF,et,fH,en,dF,fA,fi,cy,cS,cB,qM,fP,dy,qX,fK,qR,fz,qS,bP,cE,dE,dK,bq,aV,dh,eZ,cL,fR,cG,c7,bY,b6,aK,br,aZ,iV,dz,c5,dv,cY,dp,O4,OZ,NA,Oh,NJ,NL,NW,NX,qN,qK,qE,qQ,fM,fL,c8,fJ,fB,cq,bN,dA,dB,cN,dm,cP,bH,cZ,bC,bE,bh,bu,bo,bp,aT,cj,cm,bI,bQ,bl,i6,f8,iH,fk,fm,dG,iU,i7,b7,dH,bA,dw,bv,b9,fu,dr,dj,c6,df,bt,dk,gP (ir (some i) _),show bg (some i)=i.tgt from rfl,↓show aP i=aS (some i) from rfl,pn h]
theorem LJ {c:Nh Cc} (S:bX L) (h:p <L.length):(run aj (n+150)).s (.assign 7 (.callF 16 [(.var 0),(.var 4),(.var 6),(.var 5)])) (kK L r2 r3 (some (.v (an L))) (some (.v (.str (kB c)))) (some (.v (ai p))) r7 r8) []=
  some (.next,kK L r2 r3 (some (.v (an L))) (some (.v (.str (kB c)))) (some (.v (ai p))) (some (.v (ai (fol L c p)))) r8,[]):=
 aD (n:=n+149) rfl (aB (n:=n+148) (us:=[lst L,an L,ai p,.str (kB c)]) (Us:=[.v (lst L),.v (an L),.v (ai p),.v (.str (kB c))]) (by kernel_rfl) rfl (xe S.sh h S.len' (n+43)) rfl) rfl
theorem Gl (b:Bool) (hb:decide ((e:Int)=(p:Int))=b):cv (run aj (n+149)) (.cmp (.var 7) .ne (.var 6)) (kK L r2 r3 r4 r5 (some (.v (ai p))) (some (.v (ai e))) r8) []=some (!b,[]):=by
 unfold kK ai
 simp (config:={decide:=false}) only [i3,iR,fD,cR,fE,fO,fC,fv,d6,du,c9,fq,dW,fp,fG,cQ,eX,hP,eY,fe,bL,iX,ch,cf,aW,dn,dq,bB,fw,fN,de,a0,bZ,dt,dg,fF,et,fH,en,dF,fA,fi,cy,cS,cB,qM,fP,dy,qX,fK,qR,fz,qS,bP,cE,dE,dK,bq,aV,dh,eZ,cL,fR,cG,c7,bY,b6,aK,br,aZ,iV,dz,c5,dv,cY,dp,O4,OZ,NA,Oh,NJ,NL,NW,NX,qN,qK,qE,qQ,fM,fL,c8,fJ,fB,cq,bN,dA,dB,cN,dm,cP,bH,cZ,bC,bE,bh,bu,bo,bp,aT,cj,cm,bI,bQ,bl,i6,f8,iH,fk,fm,dG,iU,i7,b7,dH,bA,dw,bv,b9,fu,dr,dj,c6,df,bt,dk,hb]
theorem LQ (hw:nU 120 17 [lst L,ai e,.tup []] (.tup [lst L',.str nm])):(run aj (n+149)).s (.unpack [0,8] (.callF 17 [(.var 0),(.var 7),(.var 1)])) (kK L r2 r3 r4 r5 r6 (some (.v (ai e))) r8) []=
  some (.next,kK L' r2 r3 r4 r5 r6 (some (.v (ai e))) (some (.v (.str nm))),[]):=by
 have q:eO (run aj (n+148)) (.callF 17 [(.var 0),(.var 7),(.var 1)]) (kK L r2 r3 r4 r5 r6 (some (.v (ai e))) r8) []=some (.tup [lst L',.str nm],[]):=
  cC (aB (n:=n+147) (us:=[lst L,ai e,.tup []]) (Us:=[.v (lst L),.v (ai e),.v (.tup [])]) (by kernel_rfl) rfl (hw (n+27)) rfl) rfl
 rw [iR,br,q];rfl
theorem Me (hz:L.length≤1000) (h:L[a]? =some ⟨ls',some (.jump m t)⟩):(run aj (n+149)).s (.assign 0 (.bin .add (.bin .add (.slc (.var 0) none (some (.var 2))) (.lst [(.mk .line [(.attr (.idx (.var 0) (.var 2)) .labels),(.callF 8 [(.var 3),(.var 8)])])])) (.slc (.var 0) (some (.bin .add (.var 2) (.cst (.int 1)))) none)))
   (kK L (some (.v (ai a))) (some (.v (aP (.jump m t)))) r4 r5 r6 r7 (some (.v (.str nm)))) []=
  some (.next,kK (L.set a ⟨ls',some (.jump m nm)⟩) (some (.v (ai a))) (some (.v (aP (.jump m t)))) r4 r5 r6 r7 (some (.v (.str nm))),[]):=by
 have ha:=(Nq.mp h).1
 have k:=tE ha hz ⟨ls',some (.jump m nm)⟩
 unfold kK
 simp (config:={decide:=false}) only [i3,iR,fD,cR,fE,fO,fC,fv,d6,du,c9,fq,dW,fp,fG,cQ,eX,hP,eY,fe,bL,iX,ch,cf,aW,dn,dq,bB,fw,fN,de,a0,bZ,dt,dg,fF,et,fH,en,dF,fA,fi,cy,cS,cB,qM,fP,dy,qX,fK,qR,fz,qS,bP,cE,dE,dK,bq,aV,dh,eZ,cL,fR,cG,c7,bY,b6,aK,br,aZ,iV,dz,c5,dv,cY,dp,O4,OZ,NA,Oh,NJ,NL,NW,NX,qN,qK,qE,qQ,fM,fL,c8,fJ,fB,cq,bN,dA,dB,cN,dm,cP,bH,cZ,bC,bE,bh,bu,bo,bp,aT,cj,cm,bI,bQ,bl,i6,f8,iH,fk,fm,dG,iU,i7,b7,dH,bA,dw,bv,b9,fu,dr,dj,c6,df,bt,dk,iF h,xX (Jf m t nm _),tz (NP ha),lX (a:=a+1) ha,yl,show iB .line [.tup (ls'.map .str),aP (.jump m nm)]=some (ay ⟨ls',some (.jump m nm)⟩) from rfl,k.1,k.2]
noncomputable def uK (L:List ah) (a:Nat) (L':List ah):Prop:=∀n r2 r3 r4 r5 r6 r7 r8,∃o r3' r4' r5' r6' r7' r8',bd (run aj (n+150)) (.one 2) MB (ai a) (kK L r2 r3 r4 r5 r6 r7 r8) []=some (o,kK L' (some (.v (ai a))) r3' r4' r5' r6' r7' r8',[])∧o.turns=true
theorem A4 {cs:List CS} {r:fg×Loc×ag} (S:bX L) (h:L[a]? =some ⟨ls,some i⟩) (b:Bool) (hb:(place L i.tgt).isSome=b) (hr:aH (run aj (n+150)) (.ite JW [.cont] []::cs) (kK L (some (.v (ai a))) (some (.v (aP i))) (some (.v (an L))) (some (.v (.str (kB (eG (some i)))))) r6 r7 r8) []=some r):
  aH (run aj (n+150)) (.assignT [(3,false),(4,false)] [(.attr (.idx (.var 0) (.var 2)) .instruction),(.callF 10 [(.var 0)])]:: .assign 5 (.callF 6 [(.var 3)]):: .ite JW [.cont] []::cs) (kK L (some (.v (ai a))) r3 r4 r5 r6 r7 r8) []=some r:=
 av (Mg S h) (av LF hr)
theorem DQ (S:bX L) (h:L[a]? =some ⟨ls,some i⟩) (hb:((place L i.tgt).isSome&&qF i)=false):uK L a L:=fun n r2 r3 r4 r5 r6 r7 r8=>
 ⟨.cont,_,_,_,_,_,_,A4 (n:=n) S h _ rfl (d9 (by rw [iR,cG,J4 _ rfl,hb];rfl) rfl),rfl⟩
theorem Cs {cs:List CS} {r:fg×Loc×ag} (S:bX L) (h:L[a]? =some ⟨ls,some (.jump m t)⟩) (hl:qF (.jump m t)=true) (hp:place L t=some p)
  (hr:aH (run aj (n+150)) cs (kK L (some (.v (ai a))) (some (.v (aP (.jump m t)))) (some (.v (an L))) (some (.v (.str (kB m.cc)))) (some (.v (ai p))) (some (.v (ai (fol L m.cc p)))) r8) []=some r):
  aH (run aj (n+150)) (.assignT [(3,false),(4,false)] [(.attr (.idx (.var 0) (.var 2)) .instruction),(.callF 10 [(.var 0)])]:: .assign 5 (.callF 6 [(.var 3)]):: .ite JW [.cont] []:: .assign 6 (.idx (.var 4) (.callF 5 [(.var 3)])):: .assign 7 (.callF 16 [(.var 0),(.var 4),(.var 6),(.var 5)])::cs) (kK L (some (.v (ai a))) r3 r4 r5 r6 r7 r8) []=some r:=
 A4 S h _ rfl (av (ρ':=kK L (some (.v (ai a))) (some (.v (aP (.jump m t)))) (some (.v (an L))) (some (.v (.str (kB m.cc)))) r6 r7 r8) (σ':=[]) (by rw [iR,cG,J4 _ rfl,show (place L (cr.jump m t).tgt).isSome=true from (Nt Option.isSome hp).trans rfl,hl];rfl)
  (av (LB (i:= .jump m t) hp) (av (LJ S (fQ hp)) hr)))
theorem BM {b:Bool} (h:decide (e=p)=b):decide ((e:Int)=(p:Int))=b:=by rw [←h];exact OW.mpr Int.ofNat_inj
theorem Ef (S:bX L) (h:L[a]? =some ⟨ls,some (.jump m t)⟩) (hl:qF (.jump m t)=true) (hp:place L t=some p) (he:fol L m.cc p=p):uK L a L:=fun n r2 r3 r4 r5 r6 r7 r8=>
 ⟨.next,_,_,_,_,_,_,Cs (n:=n) S h hl hp (bk (by rw [iR,cG,Gl true (BM (Nw he))];rfl)),rfl⟩
theorem Hb (S:bX L) (h:L[a]? =some ⟨ls,some (.jump m t)⟩) (hl:qF (.jump m t)=true) (hp:place L t=some p) (he:fol L m.cc p≠p) (hw:nU 120 17 [lst L,ai (fol L m.cc p),.tup []] (.tup [lst L',.str nm])) (hn:L'.length=L.length) (h':L'[a]? =some ⟨ls',some (.jump m t)⟩):
  uK L a (L'.set a ⟨ls',some (.jump m nm)⟩):=fun n r2 r3 r4 r5 r6 r7 r8=>
 ⟨.next,_,_,_,_,_,_,Cs (n:=n) S h hl hp (bk (by
  rw [iR,cG,Gl false (BM (NR he))]
  show aH _ MQ _ _=_
  exact av (LQ hw) (bk (Me (by rw [hn];exact S.len') h')))),rfl⟩
theorem WL.row (w:WL L e L' nm) {l:ah} (h:L[a]? =some l):∃ls',L'[a]? =some ⟨ls',l.ins⟩:=by
 cases w with
 |old _=>exact ⟨_,h⟩
 |new q _=>
  by_cases z:e=a
  ·subst z
   rw [q] at h
   cases h
   exact ⟨_,Ob (Nq.mp q).1⟩
  ·exact ⟨_,(Oe z).trans h⟩
theorem En (S:bX L) (ha:a+1 <L.length):∃L',RT L a L'∧uK L a L':=by
 refine Nf fun nG=> ?_
 obtain ⟨ls,i,h⟩:=S.sh.row a ha
 refine nG ?_
 cases hb:((place L i.tgt).isSome&&qF i) with
 |false=>exact ⟨L,.skip h hb,DQ S h hb⟩
 |true=>
  obtain ⟨h1,hl⟩:=Np.mp hb
  obtain ⟨p,hp⟩:=Og.mp h1
  cases i with
  |ret=>cases hl
  |mov=>cases hl
  |jump m t=>
   by_cases he:fol L m.cc p=p
   ·exact ⟨L,.same h hp he,Ef S h hl hp he⟩
   ·obtain ⟨L',nm,hw,w⟩:=uN S ((uR S.sh m.cc).lim_lt ((mF L).lim_lt (fQ hp)))
    obtain ⟨ls',h'⟩:=w.row h
    exact ⟨_,.led h hl hp he w h',Hb S h hl hp he hw w.len h'⟩
end
set_option genCtorIdx true in
inductive Itm|lab (x:Sg)|lp (n:Nm) (t:Sg)|mv (w:Bool) (i:Int) (y:Sg)|call (t:Sg)
noncomputable def qH:cr→List Itm
 | .jump m t=>match m with
  | .jmp=>[]
  | .call=>[.call t]
  | .je=>[]
  | .jne=>[]
  | .jae=>[]
  | .jb=>[]
  | .jrcxz=>[.lp .jrcxz t]
  | .loop=>[.lp .loop t]
  | .loope=>[.lp .loope t]
  | .loopne=>[.lp .loopne t]
 | .ret=>[]
 | .mov w i y=>[.mv w i y]
noncomputable def kf:Nh cr→List Itm
 |none=>[]
 |some i=>qH i
noncomputable def M5:Nm→Bool
 | .jmp=>false
 | .call=>false
 | .je=>false
 | .jne=>false
 | .jae=>false
 | .jb=>false
 |_=>true
theorem nD {p:Itm} {o:Nh cr} {P:Prop} (h:p∈kf o) (K1:∀m t,o=some (.jump m t)→p= .lp m t→M5 m=true→P) (K2:∀t,o=some (.jump .call t)→p= .call t→P) (K3:∀w x y,o=some (.mov w x y)→p= .mv w x y→P):P:=by
 cases o with
 |none=>cases h
 |some i=>cases i with
  |ret=>cases h
  |mov w x y=>exact K3 w x y rfl (NU.mp h)
  |jump m t=>cases m<;>first|(cases h;done)|exact K2 t rfl (NU.mp h)|exact K1 _ t rfl (NU.mp h) rfl
noncomputable def jG (l:ah):List Itm:=l.labs.map .lab++kf l.ins
noncomputable def items (L:List ah):List Itm:=L.flatMap jG
noncomputable def Itm.lab?:Itm→Nh Sg
 | .lab x=>some x
 |_=>none
noncomputable def Itm.lp?:Itm→Nh Nm
 | .lp n _=>some n
 |_=>none
noncomputable def Lj (P:List Itm) (n:Nm) (x:Sg) (w:Bool) (i:Int) (y:Sg):Prop:=[.lp n x,.mv w i y,.lab x].Sublist P∨[.lab x,.mv w i y,.lp n x].Sublist P
structure kQ (P0 P:List Itm):Prop where
 labs:(P.filterMap Itm.lab?).Nodup
 lps:(P.filterMap Itm.lp?).Nodup
 call:∀t,.call t∈P→ .lab t∉P
 old:∀t,.call t∈P→ .call t∈P0
 span:∀n x w i y,Lj P n x w i y→Lj P0 n x w i y
 mvs:∀w i y,.mv w i y∈P→ .mv w i y∈P0
 nil: .lab []∉P
section
variable {P0 P P' U V:List Itm} {L L' A B:List ah} {l l':ah} {a:Nat}
theorem kQ.sub (C:kQ P0 P) (h:P'.Sublist P):kQ P0 P' where
 labs:=C.labs.sublist (h.filterMap _)
 lps:=C.lps.sublist (h.filterMap _)
 call:=fun t m q=>C.call t (h.mem m) (h.mem q)
 old:=fun t m=>C.old t (h.mem m)
 span:=fun n x w i y b=>C.span n x w i y (b.imp (·.trans h) (·.trans h))
 mvs:=fun w i y m=>C.mvs w i y (h.mem m)
 nil:=fun m=>C.nil (h.mem m)
theorem xS {f:Itm} {s:List Itm} (h:s.Sublist (U++f::V)) (n:f∉s):s.Sublist (U++V):=by
 obtain ⟨s1,s2,rfl,h1,h2⟩:=QX.mp h
 refine h1.append ?_
 cases h2 with
 |cons _ h2=>exact h2
 |cons_cons _ h2=>exact (n (Nx.mpr (.inr (.head _)))).elim
theorem kD {f g:Itm} (h:g∈U++f::V):g=f∨g∈U++V:=by
 rcases Nx.mp h with h|h
 ·exact .inr (Nx.mpr (.inl h))
 ·exact (NN.mp h).imp id fun h=>Nx.mpr (.inr h)
theorem kQ.new {f:Sg} (C:kQ P0 (U++V)) (h1: .lab f∉U++V) (h2: .call f∉U++V) (h3:∀n,.lp n f∉U++V) (h4:f≠[]):kQ P0 (U++ .lab f::V) where
 labs:=by
  have:=C.labs
  rw [Ow] at this ⊢
  refine (List.perm_middle (a:=f) (l₁:=U.filterMap Itm.lab?) (l₂:=V.filterMap Itm.lab?)).nodup_iff.mpr (Pc.mpr ⟨fun m=>h1 ?_,this⟩)
  rw [←Ow] at m
  obtain ⟨g,m1,m2⟩:=Pb.mp m
  cases g with
  |lab x=>cases m2;exact m1
  |lp=>cases m2
  |mv=>cases m2
  |call=>cases m2
 lps:=by have:=C.lps;rw [Ow] at this ⊢;exact this
 call:=fun t m q=>by
  have m:=(kD m).resolve_left (fun z=>nomatch z)
  rcases kD q with z|q
  ·cases z;exact h2 m
  ·exact C.call t m q
 old:=fun t m=>C.old t ((kD m).resolve_left fun z=>nomatch z)
 span:=fun n x w i y b=>by
  have ne:x≠f:=fun z=>by
   subst z
   have:Itm.lp n x∈U++ .lab x::V:=b.elim (fun s=>s.mem (.head _)) fun s=>s.mem (.tail _ (.tail _ (.head _)))
   exact h3 n ((kD this).resolve_left fun z=>nomatch z)
  have no:∀{a b c:Itm},a≠ .lab f→b≠ .lab f→c≠ .lab f→Itm.lab f∉[a,b,c]:=fun p q r m=>by
   rcases NN.mp m with e|m
   ·exact p e.symm
   ·rcases NN.mp m with e|m
    ·exact q e.symm
    ·exact r (NU.mp m).symm
  have nl:Itm.lab x≠ .lab f:=fun z=>ne (Itm.lab.inj z)
  exact C.span n x w i y (b.imp (fun s=>xS s (no (fun z=>nomatch z) (fun z=>nomatch z) nl)) fun s=>xS s (no nl (fun z=>nomatch z) fun z=>nomatch z))
 mvs:=fun w i y m=>C.mvs w i y ((kD m).resolve_left fun z=>nomatch z)
 nil:=fun m=>(kD m).elim (fun z=>h4 (Itm.lab.inj z).symm) C.nil
theorem aJ:items (A++B)=items A++items B:=TZ
theorem aR:items (l::A)=jG l++items A:=Pm
theorem Bq (l:ah):(jG l).filterMap Itm.lab?=l.labs:=by
 obtain ⟨ls,o⟩:=l
 unfold jG
 rw [Ow,List.filterMap_map]
 have:(kf o).filterMap Itm.lab?=[]:=by
  cases o with
  |none=>rfl
  |some i=>cases i with
   |jump m t=>cases m<;>rfl
   |ret=>rfl
   |mov=>rfl
 rw [this,NH]
 exact List.filterMap_some
theorem cF:(items L).filterMap Itm.lab?=aq L:=by
 induction L with
 |nil=>rfl
 |cons l L ih=>rw [aR,Ow,Bq,ih];rfl
theorem eT {x:Sg}: .lab x∈items L↔x∈aq L:=by
 rw [←cF,Pb]
 refine ⟨fun m=>⟨_,m,rfl⟩,fun ⟨g,m,e⟩=> ?_⟩
 cases g with
 |lab y=>cases e;exact m
 |lp=>cases e
 |mv=>cases e
 |call=>cases e
theorem zd {g:Itm} (h:L[a]? =some l) (m:g∈kf l.ins):g∈items L:=
 Pf.mpr ⟨l,NF h,Nx.mpr (.inr m)⟩
theorem gQ (h:L[a]? =some l):L=L.take a++l::L.drop (a+1):=by
 obtain ⟨ha,e⟩:=Nq.mp h
 rw [←e,Rg,Qr]
theorem pL (h:L[a]? =some l):L.set a l'=L.take a++l'::L.drop (a+1):=by
 rw [QZ,NG (Nq.mp h).1]
theorem im (h:L[a]? =some l) (e:jG l'=jG l):items (L.set a l')=items L:=by
 rw [pL h,aJ,aR,e,←aR,←aJ,←gQ h]
noncomputable def lM (L L':List ah):Prop:=L'.map (fun l=>l.ins.isSome)=L.map fun l=>l.ins.isSome
theorem lM.len (h:lM L L'):L'.length=L.length:=by
 have:=Nt PR h
 rw [Nl,Nl] at this;exact this
theorem lM.at (h:lM L L') (i:Nat):L'[i]?.map (fun l=>l.ins.isSome)=L[i]?.map fun l=>l.ins.isSome:=by
 have:=Nt (·[i]?) h
 simp only [OF] at this;exact this
theorem lM.shape (h:lM L L') (S:cK L):cK L' where
 pos:=h.len▸S.pos
 row:=fun i hi=>by
  obtain ⟨ls,x,e⟩:=S.row i (h.len▸hi)
  have q:=h.at i
  rw [e] at q
  cases e2:L'[i]? with
  |none=>rw [e2] at q;cases q
  |some l=>
   rw [e2] at q
   obtain ⟨ls,o⟩:=l
   cases o with
   |none=>cases q
   |some x=>exact ⟨_,_,rfl⟩
 last:=fun i l hi e=>by
  have q:=h.at i
  rw [e] at q
  cases e2:L[i]? with
  |none=>rw [e2] at q;cases q
  |some l'=>
   rw [e2,RG,RG,S.last i l' (h.len▸hi) e2] at q
   obtain ⟨ls,o⟩:=l
   cases o with
   |none=>rfl
   |some x=>cases q
theorem lU (h:L[a]? =some l) (e:l'.ins.isSome=l.ins.isSome):lM L (L.set a l'):=by
 unfold lM
 rw [UT,e]
 refine UU fun j=> ?_
 by_cases z:a=j
 ·subst z
  have la:=(Nq.mp h).1
  rw [Ob (by rw [Nl];exact la),OF,h];rfl
 ·rw [Oe z]
noncomputable def Tg (L:List ah):Prop:=∀l∈L,∀m t,l.ins=some (.jump m t)→t≠[]
theorem Tg.set (T:Tg L) (h:∀m t,l'.ins=some (.jump m t)→t≠[]):Tg (L.set a l'):=fun l m=>
 (List.mem_or_eq_of_mem_set m).elim (T l) fun e=>e▸h
structure Inv (P0:List Itm) (L:List ah):Prop where
 core:kQ P0 (items L)
 sh:cK L
 tg:Tg L
 len:L.length≤20
theorem Inv.nodup (I:Inv P0 L):(aq L).Nodup:=cF (L:=L)▸I.core.labs
theorem Inv.small (I:Inv P0 L) (h:(aq L).length≤100):bX L:=⟨I.len,h,I.nodup,I.sh⟩
noncomputable def wt:Nh cr→Nat
 |some (.jump m _)=>match m with
  | .jmp=>2
  | .je=>3
  | .jne=>3
  | .jae=>3
  | .jb=>3
  | .call=>1
  | .jrcxz=>1
  | .loop=>1
  | .loope=>1
  | .loopne=>1
 |some .ret=>1
 |some (.mov _ _ _)=>1
 |none=>1
noncomputable def wts (L:List ah):Nat:=(L.map fun l=>wt l.ins).sum
theorem bR:wts (A++B)=wts A+wts B:=by unfold wts;rw [NS,List.sum_append]
theorem bD:wts (l::A)=wt l.ins+wts A:=rfl
theorem ye (h:L[a]? =some l) (e:wt l'.ins=wt l.ins):wts (L.set a l')=wts L:=by
 rw [pL h,bR,bD,e,←bD,←bR,←gQ h]
theorem As (o:Nh cr):1≤wt o:=by
 cases o with
 |none=>exact Nz 1
 |some i=>cases i with
  |jump m t=>cases m<;>first|exact Nz 1|exact NQ 1|exact P4 1 2
  |ret=>exact Nz 1
  |mov=>exact Nz 1
end
section
variable {P0:List Itm} {L L' L2:List ah} {l l':ah} {a e p:Nat} {nm:Sg} {c d:Nh Cc}
theorem yY {x:Sg}:∀{L L':List ah},L'.map (·.labs)=L.map (·.labs)→place L' x=place L x:=by
 intro L
 induction L with
 |nil=>intro L' h;cases L' with
  |nil=>rfl
  |cons=>cases h
 |cons l L ih=>intro L' h;cases L' with
  |nil=>cases h
  |cons l' L'=>
   have h:=OO h
   unfold place
   rw [show l'.labs=l.labs from h.1,ih h.2]
theorem oo (h:L[a]? =some l):jF L a=bif og l.ins then (place L (bg l.ins)).getD a else a:=by
 unfold jF
 rw [h]
theorem lT (h:L[a]? =some l):gF L c a=if jK c (eG l.ins)=1 then ((place L (bg l.ins)).map (lim (jF L))).getD a else if jK c (eG l.ins)=0 then lim (jF L) (a+1) else a:=by
 unfold gF
 rw [h]
 show (if _ then _ else _)=_
 cases place L (bg l.ins)<;>rfl
structure iK (L L':List ah):Prop where
 ins:∀j:Nat,L'[j]?.map (·.ins)=L[j]?.map (·.ins)
 plc:∀l∈L,place L' (bg l.ins)=place L (bg l.ins)
theorem iK.at (A:iK L L') (h:L[a]? =some l):∃ls,L'[a]? =some ⟨ls,l.ins⟩:=by
 have:=A.ins a
 rw [h] at this
 cases q:L'[a]? with
 |none=>rw [q] at this;cases this
 |some l2=>
  rw [q] at this
  obtain ⟨ls,o⟩:=l2
  have:o=l.ins:=Ng this
  subst this
  exact ⟨ls,rfl⟩
theorem iK.none (A:iK L L') (h:L[a]? =Sb):L'[a]? =Sb:=by
 have:=A.ins a
 rw [h] at this
 cases q:L'[a]? with
 |none=>rfl
 |some l2=>rw [q] at this;cases this
theorem iK.jF (A:iK L L'):jF L'=jF L:=funext fun x=>by
 cases h:L[x]? with
 |none=>unfold Internal.jF;rw [h,A.none h]
 |some l=>
  obtain ⟨ls,h'⟩:=A.at h
  rw [oo h,oo h',A.plc l (NF h)]
theorem iK.gF (A:iK L L'):gF L' c=gF L c:=funext fun x=>by
 cases h:L[x]? with
 |none=>unfold Internal.gF;rw [h,A.none h]
 |some l=>
  obtain ⟨ls,h'⟩:=A.at h
  rw [lT h,lT h',A.plc l (NF h),A.jF]
theorem iK.fol (A:iK L L'):fol L' c p=fol L c p:=by unfold Internal.fol;rw [A.gF,A.jF]
theorem JL {x:Nat} (h:lim (jF L) x=x) (a:kH (gF L c) x e):lim (jF L) e=e:=by
 induction a with
 |here _=>exact h
 | @step y e _ _ ih=>
  refine ih ?_
  cases q:L[y]? with
  |none=>unfold gF;rw [q];exact h
  |some l=>
   rw [lT q]
   split
   ·cases place L (bg l.ins) with
    |none=>exact h
    |some p=>exact (mF L).idem p
   ·split
    ·exact (mF L).idem _
    ·exact h
theorem GD (S:cK L):lim (jF L) (fol L c p)=fol L c p:=JL ((mF L).idem p) ((uR S c).lim _)
theorem Dg (S:cK L):fol L c (fol L c p)=fol L c p:=by
 unfold fol
 rw [show lim (jF L) (lim (gF L c) (lim (jF L) p))=_ from GD S]
 exact (uR S c).idem _
theorem Bj (x:Nat):fol L none x=lim (jF L) x:=by
 refine (kH.here (.fix ?_)).eq
 cases q:L[lim (jF L) x]? with
 |none=>unfold gF;rw [q]
 |some l=>exact KZ q rfl (fun z=>nomatch (show (-1:Int)=0 from z))
theorem Gr (h:jK c d=1):c=d:=by
 cases c with
 |none=>cases d<;>cases h
 |some c=>cases d with
  |none=>cases h
  |some d=>cases c<;>cases d<;>first|rfl|cases h
theorem x0 {t:Sg} (h:t≠[]):og (some (.jump .jmp t))=true:=by
 show (!decide (t=[]))=true
 rw [NR h];rfl
theorem Em {ls:List Sg} {m:Nm} {t:Sg} (S:cK L) (h:L[a]? =some ⟨ls,some (.jump m t)⟩) (ht:t≠[]) (hn:nm≠[]) (hp:place L t=some p) (he:e=fol L m.cc p) (hq:place L nm=some e)
  (h2:L'=L.set a ⟨ls,some (.jump m nm)⟩) (x:Nat):fol L' c x=fol L c x:=by
 have la:=(Nq.mp h).1
 have hs:L'[a]? =some ⟨ls,some (.jump m nm)⟩:=h2▸Ob la
 have ho:∀y,y≠a→L'[y]? =L[y]? :=fun y z=>h2▸Oe (TO z)
 have pl:∀x,place L' x=place L x:=fun x=>yY (by
  rw [h2,UT]
  refine UU fun j=> ?_
  by_cases z:a=j
  ·subst z
   rw [Ob (by rw [Nl];exact la),OF,h];rfl
  ·rw [Oe z])
 have jo:∀y,y≠a→jF L' y=jF L y:=fun y z=>by
  cases q:L[y]? with
  |none=>unfold jF;rw [q,ho y z,q]
  |some l=>rw [oo q,oo ((ho y z).trans q),pl]
 have J:∀x,lim (jF L') x=lim (jF L) x:=by
  by_cases hm:m= .jmp
  ·subst hm
   refine kH.key (mF L) (t:=a) ?_ jo
   rw [oo hs,oo h,x0 ht,x0 hn,pl,show bg (some (.jump .jmp nm))=nm from rfl,show bg (some (.jump .jmp t))=t from rfl,hp,hq]
   exact he.trans (Bj p)
  ·have:jF L'=jF L:=funext fun y=>by
    by_cases z:y=a
    ·have:∀t,og (some (.jump m t))=false:=fun t=>by cases m<;>first|rfl|exact (hm rfl).elim
     rw [z,oo hs,oo h,this,this];rfl
    ·exact jo y z
   rw [this];exact fun _=>rfl
 have Je:lim (jF L) e=e:=he▸GD S
 have go:∀y,y≠a→gF L' c y=gF L c y:=fun y z=>by
  cases q:L[y]? with
  |none=>unfold gF;rw [q,ho y z,q]
  |some l=>rw [lT q,lT ((ho y z).trans q),pl,J,funext J]
 have G:∀x,lim (gF L' c) x=lim (gF L c) x:=by
  by_cases hw:jK c m.cc=1
  ·refine kH.key (uR S c) (t:=a) ?_ go
   rw [lT hs,lT h,show eG (some (.jump m nm))=m.cc from rfl,show eG (some (.jump m t))=m.cc from rfl,NG hw,NG hw,pl,show bg (some (.jump m nm))=nm from rfl,show bg (some (.jump m t))=t from rfl,hp,hq]
   show lim (jF L') e=lim (gF L c) (lim (jF L) p)
   rw [J,Je,he,←Gr hw];rfl
  ·have:gF L' c=gF L c:=funext fun y=>by
    by_cases z:y=a
    ·rw [z,lT hs,lT h,show eG (some (.jump m nm))=m.cc from rfl,show eG (some (.jump m t))=m.cc from rfl,NV hw,NV hw,J]
    ·exact go y z
   rw [this];exact fun _=>rfl
 unfold fol
 rw [J,G]
theorem zb {L:List ah} {l:ah} (m:l∈L):bg l.ins∈jk L:=Nx.mpr (.inr (OS m))
theorem WL.same (w:WL L e L' nm):lM L L':=by
 cases w with
 |old _=>rfl
 |new h _=>exact lU h rfl
theorem WL.place (w:WL L e L' nm) (hn:(aq L').Nodup):place L' nm=some e:=by
 cases w with
 |old h=>exact mh hn h (.head _)
 |new h _=>exact mh hn (Ob (Nq.mp h).1) (.head _)
theorem sB {L:List ah} {x:Sg} {l l':ah} {a:Nat} (h:L[a]? =some l) (q:∀y,y=x→(y∈l'.labs↔y∈l.labs)):Internal.place (L.set a l') x=Internal.place L x:=by
 induction L generalizing a with
 |nil=>cases h
 |cons b L ih=>
  cases a with
  |zero=>
   cases h
   show (if x∈l'.labs then some 0 else _)=if x∈l.labs then some 0 else _
   by_cases z:x∈l.labs
   ·rw [NG z,NG ((q x rfl).mpr z)]
   ·rw [NV z,NV fun w=>z ((q x rfl).mp w)]
  |succ a=>
   show (if x∈b.labs then some 0 else _)=if x∈b.labs then some 0 else _
   rw [ih h]
theorem WL.alike (w:WL L e L' nm):iK L L' where
 ins:=fun j=>by
  cases w with
  |old _=>rfl
  |new h _=>
   by_cases z:e=j
   ·subst z
    rw [Ob (Nq.mp h).1,h];rfl
   ·rw [Oe z]
 plc:=fun l m=>by
  cases w with
  |old _=>rfl
  |new h q=>exact sB h fun y z=>⟨fun w=>absurd (zb m) (by rw [←z,NU.mp w];exact q),fun w=>nomatch w⟩
theorem tJ {g:Itm} {x:Sg} (m:g∈items L) (h:g= .call x∨∃n,g= .lp n x):x∈L.map fun l=>bg l.ins:=by
 refine Nf fun nG=> ?_
 obtain ⟨l,m1,m2⟩:=Pf.mp m
 have fin:bg l.ins=x→Rr:=fun e=>nG (Of.mpr ⟨l,m1,e⟩)
 refine nD ((Nx.mp m2).resolve_left fun z=> ?_) (fun m t e1 e2 _=> ?_) (fun t e1 e2=> ?_) fun w i y _ e2=> ?_
 ·obtain ⟨y,_,e⟩:=Of.mp z
  rw [←e] at h
  exact h.elim (fun z=>nomatch z) fun ⟨_,z⟩=>nomatch z
 ·rw [e2] at h
  exact h.elim (fun z=>nomatch z) fun ⟨_,z⟩=>fin (by rw [e1];exact (Itm.lp.inj z).2)
 ·rw [e2] at h
  exact h.elim (fun z=>fin (by rw [e1];exact Itm.call.inj z)) fun ⟨_,z⟩=>nomatch z
 ·rw [e2] at h
  exact h.elim (fun z=>nomatch z) fun ⟨_,z⟩=>nomatch z
noncomputable abbrev nlab (L:List ah):Nat:=(aq L).length
theorem WL.inv (w:WL L e L' nm) (I:Inv P0 L):Inv P0 L'∧nlab L'≤nlab L+1∧wts L'=wts L∧nm≠[]:=by
 have sm:=w.same
 cases w with
 | @old nm ls i h=>exact ⟨I,NQ _,rfl,fun z=>I.core.nil (eT.mpr (oN h (z▸ .head _)))⟩
 | @new k i h q=>
  have q1:oq k∉aq L:=fun m=>q (Nx.mpr (.inl (Nx.mpr (.inl m))))
  have q2:oq k∉L.map fun l=>bg l.ins:=fun m=>q (Nx.mpr (.inr m))
  have e1:items L=items (L.take e)++(kf i++items (L.drop (e+1))):=(Nt items (gQ h)).trans (by rw [aJ,aR];rfl)
  have e2:items (L.set e ⟨[oq k],i⟩)=items (L.take e)++ .lab (oq k)::(kf i++items (L.drop (e+1))):=(Nt items (pL h)).trans (by rw [aJ,aR];rfl)
  refine ⟨⟨?_,sm.shape I.sh,I.tg.set fun m t z=>I.tg _ (NF h) m t z,sm.len▸I.len⟩,?_,ye h rfl,fun z=>nomatch z⟩
  ·rw [e2]
   have C:=I.core
   rw [e1] at C
   exact C.new (fun m=>q1 (eT.mp (e1▸m))) (fun m=>q2 (tJ (e1▸m) (.inl rfl))) (fun n m=>q2 (tJ (e1▸m) (.inr ⟨n,rfl⟩))) (fun z=>nomatch z)
  ·rw [nlab,nlab,←cF,←cF,e1,e2,Ow,Ow,Nj,Nj]
   exact Nz _
noncomputable def iz (L:List ah) (a:Nat):Prop:=∀ls m t p,L[a]? =some ⟨ls,some (.jump m t)⟩→qF (.jump m t)=true→place L t=some p→fol L m.cc p=p
structure MX (P0:List Itm) (L:List ah) (a:Nat) (L':List ah):Prop where
 inv:Inv P0 L'
 len:L'.length=L.length
 nlab:nlab L'≤nlab L+1
 wts:wts L'=wts L
 fix:iz L' a
 keep:∀j,j≠a→iz L j→iz L' j
 id:iz L a→L'=L
theorem RT.keep (r:RT L a L') (I:Inv P0 L):MX P0 L a L':=by
 cases r with
 |skip h hb=>
  refine ⟨I,rfl,NQ _,rfl,fun ls m t p q hl hp=> ?_,fun j _ f=>f,fun _=>rfl⟩
  rw [h] at q
  cases q
  rw [show place L (cr.jump m t).tgt=some p from hp,hl] at hb
  cases hb
 |same h hp he=>
  refine ⟨I,rfl,NQ _,rfl,fun ls m t p q hl hp'=> ?_,fun j _ f=>f,fun _=>rfl⟩
  rw [h] at q
  cases q
  rw [hp] at hp'
  cases hp'
  exact he
 | @led ls ls' m t nm p L1 h hl hp he w h'=>
  obtain ⟨I1,n1,w1,hn⟩:=w.inv I
  have A:=w.alike
  have la:=(Nq.mp h').1
  have ht:t≠[]:=I.tg _ (NF h) m t rfl
  have hm:m≠ .call:=fun z=>by
   subst z
   obtain ⟨l,q1,q2⟩:=iC hp
   exact I.core.call t (zd h (.head _)) (eT.mpr (oN q1 q2))
  have hp1:place L1 t=some p:=(A.plc _ (NF h)).trans hp
  have hq:=w.place I1.nodup
  have F:∀c x,fol (L1.set a ⟨ls',some (.jump m nm)⟩) c x=fol L c x:=fun c x=>(Em (c:=c) I1.sh h' ht hn hp1 A.fol.symm hq rfl x).trans A.fol
  have pl:∀x,Internal.place (L1.set a ⟨ls',some (.jump m nm)⟩) x=Internal.place L1 x:=fun x=>sB h' fun _ _=>Iff.rfl
  have silent:∀t,qH (.jump m t)=[]:=fun t=>by cases m<;>first|rfl|exact (hm rfl).elim|cases hl
  have si:jG ⟨ls',some (.jump m nm)⟩=jG ⟨ls',some (.jump m t)⟩:=Nt (ls'.map Itm.lab++ ·) ((silent nm).trans (silent t).symm)
  refine ⟨⟨?_,(lU (l':=⟨ls',some (.jump m nm)⟩) h' rfl).shape I1.sh,I1.tg.set fun m' t' z=>by cases z;exact hn,by rw [Ot];exact I1.len⟩,(Ot).trans w.len,?_,(ye h' (by cases m<;>rfl)).trans w1,?_,?_,fun f=>(he (f _ _ _ _ h hl hp)).elim⟩
  ·rw [im h' si];exact I1.core
  ·have:aq (L1.set a ⟨ls',some (.jump m nm)⟩)=aq L1:=by rw [←cF,←cF,im h' si]
   rw [Internal.nlab,this];exact n1
  ·intro ls2 m2 t2 p2 q _ hp2
   rw [Ob la] at q
   cases q
   rw [pl,hq] at hp2
   cases hp2
   rw [F];exact Dg I.sh
  ·intro j hj f ls2 m2 t2 p2 q hl2 hp2
   rw [Oe (TO hj)] at q
   have:=A.ins j
   rw [q] at this
   cases e3:L[j]? with
   |none=>rw [e3] at this;cases this
   |some l=>
    rw [e3] at this
    obtain ⟨ls3,o⟩:=l
    have z:some (cr.jump m2 t2)=o:=Ng this
    subst z
    rw [F]
    refine f _ _ _ _ e3 hl2 ?_
    exact (A.plc _ (NF e3)).symm.trans ((pl _).symm.trans hp2)
end
structure Jl (P0:List Itm) (L L':List ah) (k:Nat):Prop where
 inv:Inv P0 L'
 len:L'.length=L.length
 nlab:nlab L'≤nlab L+k
 wts:wts L'=wts L
 id:(∀j,iz L j)→L'=L
theorem Jl.cons {P0:List Itm} {L L1 L2:List ah} {a k:Nat} (x:MX P0 L a L1) (y:Jl P0 L1 L2 k):Jl P0 L L2 (k+1):=
 ⟨y.inv,y.len.trans x.len,Ni y.nlab (Ni (OB x.nlab k) (NZ ((Oq _ 1 k).trans (Nt (Internal.nlab L+ ·) (OT 1 k))))),y.wts.trans x.wts,fun f=>
  have e:=x.id (f a)
  (y.id (e▸f)).trans e⟩
noncomputable def xH (L:List ah) (xs:List Nat) (L':List ah):Prop:=∀n r2 r3 r4 r5 r6 r7 r8,∃r2' r3' r4' r5' r6' r7' r8',fy (bd (run aj (n+150)) (.one 2) MB) (xs.map ai) (kK L r2 r3 r4 r5 r6 r7 r8) []=some (.next,kK L' r2' r3' r4' r5' r6' r7' r8',[])
theorem xH.cons {L L1 L2:List ah} {a:Nat} {xs:List Nat} (x:uK L a L1) (y:xH L1 xs L2):xH L (a::xs) L2:=fun n r2 r3 r4 r5 r6 r7 r8=>by
 refine Nf fun nG=> ?_
 obtain ⟨o,_,_,_,_,_,_,e,t⟩:=x n r2 r3 r4 r5 r6 r7 r8
 refine nG ?_
 rw [NA,aQ,e]
 show∃r2' r3' r4' r5' r6' r7' r8',(bif o.turns then _ else _)=_
 rw [t]
 exact y n _ _ _ _ _ _ _
theorem DG {P0:List Itm}:∀k a (L:List ah),a+k+1=L.length→Inv P0 L→nlab L+k≤100→(∀j,j <a→iz L j)→∃L',Jl P0 L L' k∧(∀j,j <a+k→iz L' j)∧xH L (PS a k) L':=by
 intro k
 induction k with
 |zero=>exact fun a L _ I _ f=>⟨L,⟨I,rfl,Nz _,rfl,fun _=>rfl⟩,f,fun n r2 r3 r4 r5 r6 r7 r8=>⟨_,_,_,_,_,_,_,rfl⟩⟩
 |succ k ih=>
  intro a L hk I hn f
  have ha:a+1 <L.length:=by rw [←hk];exact Pq (PH (OA k)) 1
  refine Nf fun nG=> ?_
  obtain ⟨L1,r,rr⟩:=En (I.small (Ni (Oa _ _) hn)) ha
  have K:=r.keep I
  have e3:a+(k+1)=a+1+k:=(Oq a k 1).symm.trans (O8 a k).symm
  obtain ⟨L2,R,f2,rr2⟩:=ih (a+1) L1 (by rw [K.len,←hk,e3]) K.inv (Ni (OB K.nlab k) (Ni (NZ ((Oq _ 1 k).trans (Nt (nlab L+ ·) (OT 1 k)))) hn)) fun j hj=>by
   rcases ON (OE hj) with h|h
   ·exact K.keep j (Q4 h) (f j h)
   ·subst h;exact K.fix
  refine nG ?_
  exact ⟨L2,.cons K R,fun j hj=>f2 j (e3▸hj),.cons rr rr2⟩
theorem cK.fixed {L:List ah} (S:cK L) {k:Nat} (hk:k+1=L.length) (f:∀j,j <k→iz L j):∀j,iz L j:=fun j=>by
 rcases Qk j k with h|h
 ·exact f j h
 ·exact fun ls m t p q=>absurd (S.next q) (Pt.mpr (hk▸NO h))
theorem uL {n:Nat} {L:List ah} {ρ:Loc} {σ:ag} (h:ρ[0]? =some (some (.v (lst L)))):(run aj (n+2)).e (.callB .len [(.var 0)]) ρ σ=some (.v (ai L.length),σ):=by
 refine eQ (n:=n+1) (us:=[lst L]) ?_ J6
 show (((ρ[0]?.join.map _).bind _).bind _)=_
 rw [h];rfl
theorem GE {n k:Nat} {L:List ah} {ρ:Loc} {σ:ag} (h:ρ[0]? =some (some (.v (lst L)))) (hk:L.length=k+1) (hz:L.length≤1000):dN (run aj (n+3)) (.range [(.bin .sub (.callB .len [(.var 0)]) (.cst (.int 1)))]) ρ σ=some ((PS 0 k).map ai,σ):=by
 have e1:(run aj (n+3)).e (.bin .sub (.callB .len [(.var 0)]) (.cst (.int 1))) ρ σ=some (.v (ai k),σ):=
  bW (n:=n+2) (aI (σ1:=σ) (W:= .v (.int 1)) (uL h) rfl rfl rfl) (by rw [hk,AL _ (OA k)];rfl)
 rw [oX]
 show ((((NK ((run aj (n+3)).e _ _ _) _).bind _).bind _))=_
 rw [e1]
 show (iD [ai k]).map _=_
 rw [ug (Ni (NQ k) (Ni (NZ hk.symm) hz)),Ry];rfl
theorem yv {n k c:Nat} {L:List ah} {ρ:Loc} {σ:ag} (h:ρ[0]? =some (some (.v (lst L)))) (hk:L.length+1=k+c) (hz:k≤1000):dN (run aj (n+3)) (.range [(.bin .sub (.callB .len [(.var 0)]) (.cst (.int (c:Int)))),(.neg 1),(.neg 1)]) ρ σ=some ((OV k).reverse.map ai,σ):=by
 have e:(L.length:Int) -(c:Int)=(k:Int) -1:=by
  have:(L.length:Int)+1=(k:Int)+c:=Nt Nat.cast hk
  omega
 have e1:(run aj (n+3)).e (.bin .sub (.callB .len [(.var 0)]) (.cst (.int (c:Int)))) ρ σ=some (.v (.int ((k:Int) -1)),σ):=
  bW (n:=n+2) (aI (σ1:=σ) (W:= .v (.int c)) (uL h) rfl rfl rfl) (by rw [←e];rfl)
 rw [oX]
 show ((((NK ((run aj (n+3)).e _ _ _) _).bind _).bind _))=_
 rw [e1]
 show (iD [.int ((k:Int) -1),.int (-1),.int (-1)]).map _=_
 rw [wA hz];rfl
theorem tX {P0:List Itm} {L:List ah} (I:Inv P0 L) (hn:nlab L+L.length≤100):∃L',nU 160 18 [lst L,.tup []] (lst L')∧Jl P0 L L' L.length∧∀j,iz L' j:=by
 refine Nf fun nG=> ?_
 obtain ⟨k,hk⟩:∃k,L.length=k+1:=N9 (Px I.sh.pos)
 obtain ⟨L',R,f,rr⟩:=DG k 0 L (by rw [Om,hk]) I (Ni (NT (hk▸NQ k) _) hn) fun j h=>absurd h (PI j)
 refine nG ?_
 refine ⟨L',fun n=> ?_,⟨R.inv,R.len,Ni R.nlab (NT (hk▸NQ k) _),R.wts,R.id⟩,R.inv.sh.fixed (R.len.trans hk).symm fun j h=>f j ((Om k).symm▸h)⟩
 refine Nf fun nG=> ?_
 obtain ⟨r2,r3,r4,r5,r6,r7,r8,e⟩:=rr (n+8) none none none none none none none
 refine nG ?_
 exact bV (n:=n+159) (fn:=kT) (W:= .v _) (ρ:=kK L' r2 r3 r4 r5 r6 r7 r8) (σ2:=[]) rfl rfl (av (n:=n+159) (show (run aj (n+159)).s (.for_ (.one 2) (.range [(.bin .sub (.callB .len [(.var 0)]) (.cst (.int 1)))]) MB) (kK L none none none none none none none) []=_ from gp (n:=n+158) (GE (n:=n+155) rfl hk (Ni I.len (by decide))) e) (dY (n:=n+158) rfl)) rfl
section
variable {n a k c:Nat} {L:List ah} {ρ:Loc} {σ σ':ag}
theorem fj {e i:CE} {u w x:V} {σ':ag} (h:rS (run aj n) [e,i] ρ σ=some ([u,x],σ')) (k:iW u x=some w):(run aj (n+1)).e (.idx e i) ρ σ=some (.v w,σ'):=by
 show (rS (run aj n) [e,i] ρ σ).bind _=_
 rw [h]
 show (iW u x).map _=_
 rw [k];rfl
theorem gG {e:CE} {f:gU} {U:aA} {u w:V} (h:(run aj n).e e ρ σ=some (U,σ')) (kU:U.toV=some u) (k:kS u f=some w):(run aj (n+1)).e (.attr e f) ρ σ=some (.v w,σ'):=by
 show (eO (run aj n) e ρ σ).bind _=_
 rw [cC h kU]
 show (kS u f).map _=_
 rw [k];rfl
theorem Kq {e:CE} {us:List V} {u:V} (h:(run aj n).e e ρ σ=some (.cell c,σ)) (hk:σ[c]? =some (.lst (us++[u]))):(run aj (n+1)).e (.callS .pop e []) ρ σ=some (.v u,σ.set c (.lst us)):=by
 show ((run aj n).e e ρ σ).bind _=_
 rw [h]
 show ((σ[c]?).bind V.lst?).bind _=_
 rw [hk]
 show ((us++[u]).getLast?).map (fun x=>(aA.v x,σ.set c (.lst (us++[u]).dropLast)))=_
 rw [Rz,TM];rfl
theorem IB {x i e:CE} {us:List V} {u:V} (h1:eO (run aj n) e ρ σ=some (u,σ)) (h2:(run aj n).e x ρ σ=some (.cell c,σ)) (h3:eO (run aj n) i ρ σ=some (ai a,σ)) (h4:σ[c]? =some (.lst us)) (ha:a <us.length):
  (run aj (n+1)).s (.setIdx x i e) ρ σ=some (.next,ρ,σ.set c (.lst (us.set a u))):=by
 show (eO (run aj n) e ρ σ).bind _=_
 rw [h1]
 show ((run aj n).e x ρ σ).bind _=_
 rw [h2]
 show (eO (run aj n) i ρ σ).bind _=_
 rw [h3]
 show (σ[c]?).bind _=_
 rw [h4]
 show (if (decide (0≤(a:Int))&&decide ((a:Int) <us.length))=true then _ else _:Nh V).map _=_
 rw [Nw (Oi a),Nw (Ps.mpr ha),Bool.and_true,NG rfl,O7];rfl
theorem bc {t:CE} {A B:List CS} {b:Bool} {r:fg×Loc×ag} (h:cv (run aj n) t ρ σ=some (b,σ')) (k:aH (run aj n) (bif b then A else B) ρ σ'=some r):(run aj (n+1)).s (.ite t A B) ρ σ=some r:=by
 rw [iR,cG,h];exact k
theorem GY {m:List Bool} {b:Bool} (h:m[a]? =some b):iW (.lst (m.map .bool)) (ai a)=some (.bool b):=by
 have hi:a <m.length:=(Nq.mp h).1
 have hp:k6 (m.map V.bool).length (a:Int)=some a:=by
  unfold k6
  rw [NG (Oi a),Nl,NG (Ps.mpr hi)];rfl
 show (k6 (m.map V.bool).length (a:Int)).bind _=_
 rw [hp]
 show (m.map V.bool)[a]? =_
 rw [OF,h];rfl
theorem uT {i:Nat} {l:ah} (h0:ρ[0]? =some (some (.v (lst L)))) (hi:ρ[i]? =some (some (.v (ai a)))) (h:L[a]? =some l):(run aj (n+2)).e (.idx (.var 0) (.var i)) ρ σ=some (.v (ay l),σ):=by
 have v0:(run aj (n+1)).e (.var 0) ρ σ=some (.v (lst L),σ):=by show ρ[0]?.join.map _=_;rw [h0];rfl
 have vi:(run aj (n+1)).e (.var i) ρ σ=some (.v (ai a),σ):=by show ρ[i]?.join.map _=_;rw [hi];rfl
 exact fj (n:=n+1) (cM v0 vi rfl rfl) (iF h)
theorem lz {i:Nat} {l:ah} (h0:ρ[0]? =some (some (.v (lst L)))) (hi:ρ[i]? =some (some (.v (ai a)))) (h:L[a]? =some l):(run aj (n+3)).e (.attr (.idx (.var 0) (.var i)) .instruction) ρ σ=some (.v (aS l.ins),σ):=
 gG (n:=n+2) (uT h0 hi h) rfl rfl
theorem mN {j:Nat} {o:Nh cr} (h:ρ[j]? =some (some (.v (aS o)))):(run aj (n+20)).e (.callF 5 [(.var j)]) ρ σ=some (.v (.str (bg o)),σ):=by
 have v:(run aj (n+19)).e (.var j) ρ σ=some (.v (aS o),σ):=by show ρ[j]?.join.map _=_;rw [h];rfl
 exact aB (n:=n+19) (us:=[aS o]) (Us:=[.v (aS o)]) (by rw [a0,v];rfl) rfl (ir o (n+7)) rfl
noncomputable def g9 (L:List ah) (a:Nat):List Nat:=match L[a]? with
 |some l=>(match l.ins with
  |some i=>(place L i.tgt).toList++bif fV i then [a+1] else []
  |none=>[])
 |none=>[]
noncomputable def wU (L:List ah):Nat→List Bool→List Nat→List Bool
 |0,m,_=>m
 |k+1,m,todo=>match todo.getLast? with
  |none=>m
  |some a=>bif (m[a]?).getD true then wU L k m todo.dropLast else wU L k (m.set a true) (todo.dropLast++g9 L a)
theorem DD:∀k (m:List Bool) todo,(wU L k m todo).length=m.length:=by
 intro k
 induction k with
 |zero=>exact fun _ _=>rfl
 |succ k ih=>
  intro m todo
  unfold wU
  cases todo.getLast? with
  |none=>rfl
  |some a=>
   show (bif (m[a]?).getD true then wU L k m todo.dropLast else wU L k (m.set a true) (todo.dropLast++g9 L a)).length=_
   cases (m[a]?).getD true with
   |true=>exact ih m _
   |false=>exact (ih _ _).trans Ot
noncomputable def lB (L:List ah) (r5 r6 r7:Nh aA):Loc:=[some (.v (lst L)),some (.v (.tup [])),some (.v (an L)),some (.cell 0),some (.cell 1),r5,r6,r7,none]
noncomputable def hY (m:List Bool) (todo:List Nat):ag:=[.lst (m.map .bool),.lst (todo.map ai)]
noncomputable def Jd:List CS:=[.assign 6 (.callS .pop (.var 4) []),
  .ite (.idx (.var 3) (.var 6)) [.cont] [],
  .setIdx (.var 3) (.var 6) (.cst (.bool true)),
  .assign 7 (.attr (.idx (.var 0) (.var 6)) .instruction),
  .ite (.cmp (.var 7) .is_ (.cst .none)) [.cont] [],
  .ite (.cmp (.callF 5 [(.var 7)]) .in_ (.var 2)) [.expr (.callS .append (.var 4) [(.idx (.var 2) (.callF 5 [(.var 7)]))])] [],
  .ite (.callF 9 [(.var 7)]) [.expr (.callS .append (.var 4) [(.bin .add (.var 6) (.cst (.int 1)))])] []]
variable {m:List Bool} {T:List Nat} {r5 r6 r7:Nh aA} {l:ah} {i:cr}
theorem A9 {cs:List CS} {r:fg×Loc×ag} (h:aH (run aj (n+60)) cs (lB L r5 (some (.v (ai a))) r7) (hY m T)=some r):aH (run aj (n+60)) (.assign 6 (.callS .pop (.var 4) [])::cs) (lB L r5 r6 r7) (hY m (T++[a]))=some r:=by
 have p:(run aj (n+59)).e (.callS .pop (.var 4) []) (lB L r5 r6 r7) (hY m (T++[a]))=some (.v (ai a),hY m T):=
  Kq (n:=n+58) (c:=1) (us:=T.map ai) (u:=ai a) rfl (show some (V.lst ((T++[a]).map ai))=some (V.lst (T.map ai++[ai a])) from Nt (fun z=>some (V.lst z)) NS)
 exact av (aD (n:=n+59) rfl p rfl) h
theorem ya {b:Bool} (h:m[a]? =some b):cv (run aj (n+59)) (.idx (.var 3) (.var 6)) (lB L r5 (some (.v (ai a))) r7) (hY m T)=some (b,hY m T):=
 gy (fj (n:=n+58) (cM (U:= .cell 0) (W:= .v (ai a)) rfl rfl rfl rfl) (GY h))
theorem IM (h:m[a]? =some true):aH (run aj (n+60)) Jd (lB L r5 r6 r7) (hY m (T++[a]))=some (.cont,lB L r5 (some (.v (ai a))) r7,hY m T):=
 A9 (d9 (bc (n:=n+59) (ya h) rfl) rfl)
theorem HD (h:a <m.length):(run aj (n+60)).s (.setIdx (.var 3) (.var 6) (.cst (.bool true))) (lB L r5 (some (.v (ai a))) r7) (hY m T)=some (.next,lB L r5 (some (.v (ai a))) r7,hY (m.set a true) T):=by
 rw [IB (n:=n+59) (a:=a) (c:=0) (us:=m.map .bool) (u:= .bool true) rfl rfl rfl rfl (by rw [Nl];exact h),←UT];rfl
theorem CD {cs:List CS} {r:fg×Loc×ag} (h:m[a]? =some false) (hl:L[a]? =some l) (k:aH (run aj (n+60)) cs (lB L r5 (some (.v (ai a))) (some (.v (aS l.ins)))) (hY (m.set a true) T)=some r):
  aH (run aj (n+60)) (.assign 6 (.callS .pop (.var 4) []):: .ite (.idx (.var 3) (.var 6)) [.cont] []:: .setIdx (.var 3) (.var 6) (.cst (.bool true)):: .assign 7 (.attr (.idx (.var 0) (.var 6)) .instruction)::cs) (lB L r5 r6 r7) (hY m (T++[a]))=some r:=
 A9 (av (bc (n:=n+59) (ya h) rfl) (av (HD (Nq.mp h).1) (av (aD (n:=n+59) (U:= .v (aS l.ins)) rfl (lz (n:=n+56) rfl rfl hl) rfl) k)))
theorem Hi (h:m[a]? =some false) (hl:L[a]? =some l) (hi:l.ins=none):aH (run aj (n+60)) Jd (lB L r5 r6 r7) (hY m (T++[a]))=some (.cont,lB L r5 (some (.v (ai a))) (some (.v .none)),hY (m.set a true) T):=
 CD h hl (by rw [hi];exact d9 (bc (n:=n+59) (bJ (n:=n+58) (o:= .is_) (U:= .v .none) (W:= .v .none) rfl rfl rfl rfl rfl) rfl) rfl)
theorem K0 (hz:T.length <1000):(run aj (n+60)).s (.ite (.cmp (.callF 5 [(.var 7)]) .in_ (.var 2)) [.expr (.callS .append (.var 4) [(.idx (.var 2) (.callF 5 [(.var 7)]))])] []) (lB L r5 r6 (some (.v (aP i)))) (hY m T)=
  some (.next,lB L r5 r6 (some (.v (aP i))),hY m (T++(place L i.tgt).toList)):=by
 have e1:(run aj (n+58)).e (.callF 5 [(.var 7)]) (lB L r5 r6 (some (.v (aP i)))) (hY m T)=some (.v (.str i.tgt),hY m T):=mN (n:=n+38) (o:=some i) rfl
 refine bc (n:=n+59) (bJ (n:=n+58) (o:= .in_) e1 rfl (W:= .v (an L)) rfl rfl vE) ?_
 cases hp:place L i.tgt with
 |none=>show some (fg.next,_,hY m T)=some (fg.next,_,hY m (T++[]));rw [NH]
 |some p=>
  refine bk ?_
  rw [j4 (n:=n+57) (k:=1) (ws:=T.map ai) (us:=T.map ai) (u:=ai p) (σ1:=hY m T) (σ2:=hY m T) rfl rfl (cC (fj (n:=n+56) (cM (U:= .v (an L)) (W:= .v (.str i.tgt)) rfl (mN (n:=n+36) (o:=some i) rfl) rfl rfl) (pn hp)) rfl) rfl (by rw [Nl];exact Ni hz (by decide))]
  show some (fg.next,_,[V.lst (m.map .bool),V.lst (T.map ai++[ai p])])=some (fg.next,_,[V.lst (m.map .bool),V.lst ((T++[p]).map ai)])
  rw [NS];rfl
theorem KU (hz:T.length <1000):(run aj (n+60)).s (.ite (.callF 9 [(.var 7)]) [.expr (.callS .append (.var 4) [(.bin .add (.var 6) (.cst (.int 1)))])] []) (lB L r5 (some (.v (ai a))) (some (.v (aP i)))) (hY m T)=
  some (.next,lB L r5 (some (.v (ai a))) (some (.v (aP i))),hY m (T++bif fV i then [a+1] else [])):=by
 refine bc (n:=n+59) (gy (aB (n:=n+58) (us:=[aP i]) (Us:=[.v (aP i)]) rfl rfl (tc i (n+28)) rfl)) ?_
 cases fV i with
 |false=>show some (fg.next,_,hY m T)=some (fg.next,_,hY m (T++[]));rw [NH]
 |true=>
  refine bk ?_
  rw [j4 (n:=n+57) (k:=1) (ws:=T.map ai) (us:=T.map ai) (u:=ai (a+1)) (σ1:=hY m T) (σ2:=hY m T) rfl rfl (cC (bW (n:=n+56) (o:= .add) (l:= .var 6) (r:= .cst (.int 1)) (x:=ai a) (y:= .int 1) rfl (yl a)) rfl) rfl (by rw [Nl];exact Ni hz (by decide))]
  show some (fg.next,_,[V.lst (m.map .bool),V.lst (T.map ai++[ai (a+1)])])=some (fg.next,_,[V.lst (m.map .bool),V.lst ((T++[a+1]).map ai)])
  rw [NS];rfl
theorem Im {ls:List Sg} (h:m[a]? =some false) (hl:L[a]? =some ⟨ls,some i⟩) (hz:T.length <999):aH (run aj (n+60)) Jd (lB L r5 r6 r7) (hY m (T++[a]))=
  some (.next,lB L r5 (some (.v (ai a))) (some (.v (aP i))),hY (m.set a true) (T++g9 L a)):=by
 have es:g9 L a=(place L i.tgt).toList++bif fV i then [a+1] else []:=by unfold g9;rw [hl]
 rw [es,←NI]
 refine CD h hl (av (bc (n:=n+59) (b:=false) (bJ (n:=n+58) (o:= .is_) (U:= .v (aP i)) (W:= .v .none) rfl rfl rfl rfl (bo i)) rfl) (av (K0 (UV hz)) (bk (KU ?_))))
 rw [Nj]
 exact ND (NT (QY) _) (PU hz)
end
theorem Aa (L:List ah) (a:Nat):(g9 L a).length≤2:=by
 unfold g9
 cases L[a]? with
 |none=>exact N5 _
 |some l=>
  obtain ⟨ls,o⟩:=l
  cases o with
  |none=>exact N5 _
  |some i=>
   show ((place L i.tgt).toList++bif fV i then [a+1] else []).length≤2
   rw [Nj]
   have h2:(bif fV i then [a+1] else []).length≤1:=by cases fV i with
    |false=>exact N5 _
    |true=>exact Nz _
   exact N6 QY h2
theorem Bl {L:List ah} (S:cK L) {a x:Nat} (m:x∈g9 L a):x <L.length:=by
 unfold g9 at m
 cases h:L[a]? with
 |none=>rw [h] at m;cases m
 |some l=>
  rw [h] at m
  obtain ⟨ls,o⟩:=l
  cases o with
  |none=>cases m
  |some i=>
   rcases Nx.mp (show x∈(place L i.tgt).toList++bif fV i then [a+1] else [] from m) with m|m
   ·exact fQ (Option.mem_toList.mp m)
   ·cases q:fV i with
    |false=>rw [q] at m;cases m
    |true=>rw [q] at m;rw [NU.mp m];exact S.next h
noncomputable def mP (m:List Bool):Nat:=m.countP fun b=> !b
theorem xn {m:List Bool} {a:Nat} (h:m[a]? =some false):mP (m.set a true)+1=mP m:=by
 obtain ⟨ha,e⟩:=Nq.mp h
 unfold mP
 have hp:0 <m.countP fun b=> !b:=List.countP_pos_iff.mpr ⟨false,NF h,rfl⟩
 rw [List.countP_set ha,e]
 exact Nat.succ_pred_eq_of_pos hp
theorem Cm (L:List ah) (k a:Nat) (m:List Bool) (T:List Nat):wU L (k+1) m (T++[a])=bif (m[a]?).getD true then wU L k m T else wU L k (m.set a true) (T++g9 L a):=by
 conv=>lhs;unfold wU
 rw [Rz]
 show (bif (m[a]?).getD true then wU L k m (T++[a]).dropLast else wU L k (m.set a true) ((T++[a]).dropLast++g9 L a))=_
 rw [TM]
theorem AD {n:Nat} {L:List ah} (S:cK L):∀k M (m:List Bool) T r5 r6 r7,T.length+3*mP m≤k→k <M→k <900→m.length=L.length→(∀x∈T,x <L.length)→
  ∃r6' r7',fW (cv (run aj (n+60)) (.cmp (.callB .len [(.var 4)]) .gt (.cst (.int 0)))) (aH (run aj (n+60)) Jd) M (lB L r5 r6 r7) (hY m T)=some (.next,lB L r5 r6' r7',hY (wU L k m T) []):=by
 have test:∀(b:Bool) (m:List Bool) (T:List Nat) r5 r6 r7,decide (0 <T.length)=b→cv (run aj (n+60)) (.cmp (.callB .len [(.var 4)]) .gt (.cst (.int 0))) (lB L r5 r6 r7) (hY m T)=some (b,hY m T):=fun b m T r5 r6 r7 h=>
  bJ (n:=n+59) (o:= .gt) (U:= .v (.int T.length)) (W:= .v (.int 0)) (eQ (n:=n+58) (us:=[.lst (T.map ai)]) rfl (show some (V.int ((T.map ai).length:Nat))=_ by rw [Nl])) rfl rfl rfl (by rw [cN,←h];exact Nt some (OW.mpr QL))
 intro k
 induction k with
 |zero=>
  intro M m T r5 r6 r7 hk hM _ _ _
  obtain ⟨M,rfl⟩:∃j,M=j+1:=N9 (Px hM)
  have:T=[]:=Ru (Nat.le_zero.mp (Ni (Oa _ _) hk))
  subst this
  refine ⟨r6,r7,?_⟩
  show (cv _ _ _ _).bind _=_
  rw [test false m [] r5 r6 r7 rfl];rfl
 |succ k ih=>
  intro M m T r5 r6 r7 hk hM h9 hm hT
  obtain ⟨M,rfl⟩:∃j,M=j+1:=N9 (Px (ND (N5 _) hM))
  rcases Qq T with rfl|⟨T,a,rfl⟩
  ·refine ⟨r6,r7,?_⟩
   show (cv _ _ _ _).bind _=_
   rw [test false m [] r5 r6 r7 rfl];rfl
  ·rw [PY] at hk hT ⊢
   have hl:(T++[a]).length=T.length+1:=Nj
   have ha:a <L.length:=hT a (Nx.mpr (.inr (.head _)))
   have hT':∀x∈T,x <L.length:=fun x m=>hT x (Nx.mpr (.inl m))
   rw [Cm]
   rw [hl] at hk
   show∃r6' r7',(cv _ _ _ _).bind _=_
   rw [test true m (T++[a]) r5 r6 r7 (by rw [hl];exact Nw (OA _))]
   show∃r6' r7',(aH _ Jd _ _).bind _=_
   have hz:T.length <899:=OK (ND (Ni (Oa _ _) hk) h9)
   have hM':=OK hM
   have h9':=O0 h9
   have hma:a <m.length:=hm▸ha
   cases q:m[a]? with
   |none=>exact absurd hma (Pt.mpr (List.getElem?_eq_none_iff.mp q))
   |some b=>
    cases b with
    |true=>
     rw [IM q]
     exact ih M m T r5 _ _ (PP (by rw [←O8];exact hk)) hM' h9' hm hT'
    |false=>
     have hf:=xn q
     have hk':(T++g9 L a).length+3*mP (m.set a true)≤k:=by
      rw [Nj]
      have:=Aa L a
      omega
     have hT2:∀x∈T++g9 L a,x <L.length:=fun x m=>(Nx.mp m).elim (hT' x) (Bl S)
     have hl:=Nr ha
     generalize L[a]=l at hl
     obtain ⟨ls,o⟩:=l
     cases o with
     |none=>
      have e0:g9 L a=[]:=by unfold g9;rw [hl]
      rw [e0,NH] at hk' hT2
      rw [Hi q hl rfl]
      show∃r6' r7',_=some (fg.next,lB L r5 r6' r7',hY (wU L k (m.set a true) (T++g9 L a)) [])
      rw [e0,NH]
      exact ih M (m.set a true) T r5 _ _ hk' hM' h9' (Ot.trans hm) hT2
     |some i=>
      rw [Im q hl (Od hz (by decide))]
      exact ih M (m.set a true) _ r5 _ _ hk' hM' h9' (Ot.trans hm) hT2
noncomputable def Ma:List CS:=[.ite (.cmp (.var 5) .in_ (.var 2)) [.expr (.callS .append (.var 4) [(.idx (.var 2) (.var 5))])] []]
theorem FE {n:Nat} {L:List ah} {m:List Bool} {T:List Nat} {r5 r6 r7:Nh aA} {x:Sg} (hz:T.length <1000):bd (run aj (n+60)) (.one 5) Ma (.str x) (lB L r5 r6 r7) (hY m T)=some (.next,lB L (some (.v (.str x))) r6 r7,hY m (T++(place L x).toList)):=by
 show aH (run aj (n+60)) Ma (lB L (some (.v (.str x))) r6 r7) (hY m T)=_
 refine bk (bc (n:=n+59) (bJ (n:=n+58) (o:= .in_) (U:= .v (.str x)) (W:= .v (an L)) rfl rfl rfl rfl vE) ?_)
 cases hp:place L x with
 |none=>show some (fg.next,_,hY m T)=some (fg.next,_,hY m (T++[]));rw [NH]
 |some p=>
  refine bk ?_
  rw [j4 (n:=n+57) (k:=1) (ws:=T.map ai) (us:=T.map ai) (u:=ai p) (σ1:=hY m T) (σ2:=hY m T) rfl rfl (cC (fj (n:=n+56) (cM (U:= .v (an L)) (W:= .v (.str x)) rfl rfl rfl rfl) (pn hp)) rfl) rfl (by rw [Nl];exact Ni hz (by decide))]
  show some (fg.next,_,[V.lst (m.map .bool),V.lst (T.map ai++[ai p])])=some (fg.next,_,[V.lst (m.map .bool),V.lst ((T++[p]).map ai)])
  rw [NS];rfl
theorem Bu {n:Nat} {L:List ah} {m:List Bool} {r6 r7:Nh aA}:∀(xs:List Sg) (T:List Nat) r5,T.length+xs.length <1000→
  ∃r5',fy (bd (run aj (n+60)) (.one 5) Ma) (xs.map .str) (lB L r5 r6 r7) (hY m T)=some (.next,lB L r5' r6 r7,hY m (T++xs.filterMap (place L))):=by
 intro xs
 induction xs with
 |nil=>exact fun T r5 _=>⟨r5,by rw [List.filterMap_nil,NH];rfl⟩
 |cons x xs ih=>
  intro T r5 hz
  obtain ⟨r5',e⟩:=ih (T++(place L x).toList) (some (.v (.str x))) (by
   rw [Nj]
   exact ND (OB (NT QY _) _) (by rw [Oq,OT 1];exact hz))
  refine ⟨r5',?_⟩
  rw [NA,aQ,FE (ND (Oa _ _) hz)]
  show fy _ _ _ _=_
  rw [e,NI]
  cases q:place L x with
  |none=>rw [Sq q];rfl
  |some p=>rw [Sr q];rfl
noncomputable def gu (L:List ah):List Bool:=wU L 100 (L.map fun _=>false) ([0]++(named L).filterMap (place L))
theorem wW (L:List ah):mP (L.map fun _=>false)=L.length:=by
 induction L with
 |nil=>rfl
 |cons l L ih=>exact (List.countP_cons_of_pos (p:=fun b=> !b) rfl).trans (Nt (· +1) ih)
theorem zI {L:List ah} (S:bX L):l7 70 21 [lst L,.tup []] (.lst ((gu L).map .bool)):=fun n=>by
 have hn:=Ni (jr L) S.len
 refine Nf fun nG=> ?_
 obtain ⟨r5,e1⟩:=Bu (n:=n+8) (L:=L) (m:=L.map fun _=>false) (r6:=none) (r7:=none) (named L) [0] none (ND (NT hn _) (by decide))
 obtain ⟨r6,r7,e2⟩:=AD (n:=n+8) S.sh 100 turns (L.map fun _=>false) ([0]++(named L).filterMap (place L)) r5 none none
  (by
   rw [wW,Nj]
   have h1:=Ss (place L) (named L)
   have h2:=S.len
   have h3:[0].length=1:=rfl
   omega) (by decide) (by decide) (Nl _) fun x m=>(Nx.mp m).elim (fun m=>by rw [NU.mp m];exact S.sh.pos) fun m=>let ⟨y,_,q⟩:=Pb.mp m;fQ q
 refine nG ?_
 have c1:(run aj (n+68)).e (.comp (.cst (.bool false)) [(.mk (.one 8) (.seq (.var 0)) [])]) [some (.v (lst L)),some (.v (.tup [])),some (.v (an L)),none,none,none,none,none,none] []=some (.own (.lst ((L.map fun _=>false).map .bool)),[]):=by
  have h:=gY (n:=n+67) (elt:= .cst (.bool false)) (t:= .one 8) (it:= .seq (.var 0)) (ifs:=[]) (gs:=[]) (ρ:=[some (.v (lst L)),some (.v (.tup [])),some (.v (an L)),none,none,none,none,none,none]) (σ:=[]) (xs:=L) (enc:=ay) (g:=fun _=>[V.bool false]) (by kernel_rfl) (fun l _=>by kernel_rfl) (by rw [f9,Nl];exact Ni S.len (by decide))
  rw [f9] at h
  rw [OG];exact h
 have s1:(run aj (n+69)).s (.assign 2 (.callF 10 [(.var 0)])) [some (.v (lst L)),some (.v (.tup [])),none,none,none,none,none,none,none] []=some (.next,[some (.v (lst L)),some (.v (.tup [])),some (.v (an L)),none,none,none,none,none,none],[]):=
  aD (n:=n+68) rfl (aB (n:=n+67) (us:=[lst L]) (Us:=[.v (lst L)]) rfl rfl (ja S.nodup (Ni S.labs (by decide)) (n+27)) rfl) rfl
 have s2:(run aj (n+69)).s (.assignT [(3,true),(4,true)] [(.comp (.cst (.bool false)) [(.mk (.one 8) (.seq (.var 0)) [])]),(.lst [(.cst (.int 0))])]) [some (.v (lst L)),some (.v (.tup [])),some (.v (an L)),none,none,none,none,none,none] []=some (.next,lB L none none none,hY (L.map fun _=>false) [0]):=by
  rw [iR,aK,iH,c1];rfl
 have hi:dN (run aj (n+68)) (.seq (.bin .add (.callB .list_ [(.var 1)]) (.callF 19 [(.var 0)]))) (lB L none none none) (hY (L.map fun _=>false) [0])=some ((named L).map .str,hY (L.map fun _=>false) [0]):=by
  rw [uf,cC (bW (n:=n+67) (o:= .add) (aI (σ1:=hY (L.map fun _=>false) [0]) (U:= .v (.lst [])) (eQ (n:=n+66) (us:=[.tup []]) rfl BB) rfl (aB (n:=n+66) (us:=[lst L]) (Us:=[.v (lst L)]) rfl rfl (sX S.rows (Ni hn (by decide)) (n+26)) rfl) rfl) (Be (Ni hn (by decide)))) rfl]
  rfl
 exact bV (n:=n+69) (fn:=qb) (W:= .cell 0) (ρ:=lB L r5 r6 r7) (σ2:=hY (gu L) []) rfl rfl
  (av s1 (av s2 (av (gp (n:=n+68) hi e1) (av (n:=n+69) (show (run aj (n+69)).s (.while_ (.cmp (.callB .len [(.var 4)]) .gt (.cst (.int 0))) Jd) _ _=_ from e2) (dY (n:=n+68) rfl))))) rfl
noncomputable def kY (m:List Bool) (p:ah×Nat):Bool:=(m[p.2]?).getD false||p.1.ins.isNone
noncomputable def gC (L:List ah):List ah:=((L.zipIdx 0).filter (kY (gu L))).map (·.1)
theorem KV (o:Nh cr):DR (aS o) .none=some o.isNone:=by
 cases o with
 |none=>rfl
 |some i=>exact bo i
theorem mU {p:ah×Nat→Bool}:∀xs:List (ah×Nat),(xs.flatMap fun x=>if p x then [ay x.1] else [])=((xs.filter p).map (·.1)).map ay
 |[]=>rfl
 |x::xs=>by
  rw [Pm,mU xs,Ve]
  cases p x<;>rfl
noncomputable def Kk (L:List ah) (m:List Bool) (r3 r4:Nh aA):Loc:=[some (.v (lst L)),some (.v (.tup [])),some (.v (.lst (m.map .bool))),r3,r4]
theorem EL {n k:Nat} {L:List ah} {m:List Bool} {l:ah} (h:k <m.length):cv (run aj (n+60)) (.or [(.idx (.var 2) (.var 3)),(.cmp (.attr (.var 4) .instruction) .is_ (.cst .none))]) (Kk L m (some (.v (ai k))) (some (.v (ay l)))) []=some (kY m (l,k),[]):=by
 have h':=Nr h
 have e:kY m (l,k)=(m[k]||l.ins.isNone):=by unfold kY;rw [h'];rfl
 rw [e]
 exact vt (n:=n+59) (gy (fj (n:=n+58) (cM (U:= .v (.lst (m.map .bool))) (W:= .v (ai k)) rfl rfl rfl rfl) (GY h'))) fun _=>bJ (n:=n+58) (o:= .is_) (U:= .v (aS l.ins)) (W:= .v .none) rfl rfl rfl rfl (KV l.ins)
theorem wC (L:List ah):(gu L).length=L.length:=(DD _ _ _).trans (Nl _)
theorem uy {L:List ah} (S:bX L):l7 80 22 [lst L,.tup []] (lst (gC L)):=fun n=>by
 have h:=gY (n:=n+77) (elt:= .var 4) (t:= .two 3 4) (it:= .enum (.var 0)) (ifs:=[(.or [(.idx (.var 2) (.var 3)),(.cmp (.attr (.var 4) .instruction) .is_ (.cst .none))])]) (gs:=[]) (ρ:=Kk L (gu L) none none) (σ:=[]) (xs:=L.zipIdx 0) (enc:=pr) (g:=fun p=>if kY (gu L) p then [ay p.1] else [])
  (show some (jm 0 (L.map ay),([]:ag))=_ by rw [mA]) (fun p m=>by
   obtain ⟨l,k⟩:=p
   have hk:k <(gu L).length:=by
    have:=(Vy m).2.1
    rw [wC];rw [Om] at this;exact this
   show (NK (NK (cv (run aj (n+77)) _ (Kk L (gu L) (some (.v (ai k))) (some (.v (ay l)))) []) _) _)=_
   rw [EL (n:=n+17) hk]
   cases kY (gu L) (l,k)<;>rfl)
  (by rw [mU,Nl,Nl];exact Ni (To _ _) (by rw [List.length_zipIdx];exact Ni S.len (by decide)))
 rw [mU] at h
 have s1:(run aj (n+79)).s (.assign 2 (.callF 21 [(.var 0),(.var 1)])) [some (.v (lst L)),some (.v (.tup [])),none,none,none] []=some (.next,Kk L (gu L) none none,[]):=
  aD (n:=n+78) rfl (aB (n:=n+77) (us:=[lst L,.tup []]) (Us:=[.v (lst L),.v (.tup [])]) rfl rfl (zI S (n+7)) rfl) rfl
 exact bV (n:=n+79) (fn:=jM) (W:= .own _) (ρ:=Kk L (gu L) none none) rfl rfl (av s1 (dY (n:=n+78) h)) rfl
structure eK (P0:List Itm) (L L':List ah):Prop where
 inv:Inv P0 L'
 nlab:nlab L'≤nlab L
 or:L'=L∨wts L' <wts L
section
variable {P0:List Itm} {L L' L2 A B:List ah} {l x y z:ah}
theorem eK.refl (I:Inv P0 L):eK P0 L L:=⟨I,Nz _,.inl rfl⟩
theorem eK.trans (p:eK P0 L L') (q:eK P0 L' L2):eK P0 L L2:=⟨q.inv,Ni q.nlab p.nlab,by
 rcases q.or with h|h
 ·exact h▸p.or
 ·rcases p.or with e|e
  ·subst e;exact .inr h
  ·exact .inr (Pu h e)⟩
theorem jl (h:L'.Sublist L):(items L').Sublist (items L):=by
 induction h with
 |slnil=>exact .slnil
 |cons a _ ih=>rw [aR];exact ih.trans (N8 _ _)
 |cons_cons a _ ih=>rw [aR,aR];exact (Pn _).append ih
theorem Fh (h:L'.Sublist L):wts L'+L.length≤wts L+L'.length:=by
 induction h with
 |slnil=>exact Nz _
 | @cons L' L a _ ih=>
  rw [bD,OX,←Oq,OT (wt a.ins)]
  exact Ni (N6 ih (As a.ins)) (NZ (R8 _ _ _))
 | @cons_cons L' L a _ ih=>
  rw [bD,bD,OX,OX,←Oq,←Oq]
  exact NO (by rw [Oq,Oq];exact NT ih _)
theorem gB (h:(items L').Sublist (items L)):nlab L'≤nlab L:=by
 unfold nlab
 rw [←cF,←cF]
 exact (h.filterMap _).length_le
theorem cK.mk' (hl:l.ins=none) (hA:∀x∈A,x.ins.isSome=true):cK (A++[l]) where
 pos:=by rw [Nj];exact OA _
 row:=fun i h=>by
  rw [Nj] at h
  have h:=OK h
  have q:=hA A[i] (U7 h)
  rw [Ov h,Nr h]
  generalize A[i]=x at q
  obtain ⟨ls,o⟩:=x
  cases o with
  |none=>cases q
  |some i=>exact ⟨_,_,rfl⟩
 last:=fun i x h e=>by
  rw [Nj] at h
  have h:=PO h
  subst h
  rw [Ox (Nz _),PQ] at e
  cases e;exact hl
theorem cK.ex (S:cK L):∃A l,L=A++[l]∧l.ins=none∧∀x∈A,x.ins.isSome=true:=by
 rcases Qq L with h|⟨A,l,h⟩
 ·subst h;exact absurd S.pos (Ou 0)
 ·rw [PY] at h
  subst h
  refine ⟨A,l,rfl,S.last A.length l (by rw [Nj];rfl) (by rw [Ox (Nz _),PQ];rfl),fun x m=> ?_⟩
  obtain ⟨i,hi,e⟩:=O5 m
  obtain ⟨ls,y,q⟩:=S.row i (by rw [Nj];exact PU hi)
  rw [Ov hi,Nr hi,e] at q
  cases q;rfl
theorem eK.sub (I:Inv P0 L) (h:L'.Sublist L) (S:cK L'):eK P0 L L' where
 inv:=⟨I.core.sub (jl h),S,fun l m=>I.tg l (h.mem m),Ni h.length_le I.len⟩
 nlab:=gB (jl h)
 or:=by
  rcases ON h.length_le with q|q
  ·refine .inr (Nat.lt_of_add_lt_add_right (n:=L.length) (ND (Fh h) (QF q _)))
  ·exact .inl (h.eq_of_length q)
theorem oy (I:Inv P0 L):eK P0 L (gC L):=by
 have hs:(gC L).Sublist L:=by
  have:=(T0 (p:=kY (gu L)) (l:=L.zipIdx 0)).map (·.1)
  rw [List.zipIdx_map_fst] at this
  exact this
 refine eK.sub I hs ?_
 obtain ⟨A,l,rfl,hl,hA⟩:=I.sh.ex
 unfold gC
 rw [List.zipIdx_append,List.filter_append,NS]
 have e:([l].zipIdx (0+A.length)).filter (kY (gu (A++[l])))=[(l,0+A.length)]:=by
  have:kY (gu (A++[l])) (l,0+A.length)=true:=by unfold kY;rw [hl];exact Bool.or_true _
  exact (List.filter_cons_of_pos this).trans rfl
 rw [e]
 refine .mk' hl fun x m=> ?_
 obtain ⟨p,m1,rfl⟩:=Of.mp m
 exact hA _ (List.fst_mem_of_mem_zipIdx (QM.mp m1).1)
end
section
variable {P0:List Itm} {L L' L2 A B:List ah} {x y z:ah} {a b n:Nat} {ρ:Loc} {σ:ag}
theorem pJ (h:L[a]? =some x) (h':L[a+1]? =some y):L=L.take a++x::y::L.drop (a+2):=by
 have e:=gQ h
 have e2:L.drop (a+1)=y::L.drop (a+2):=by
  refine Nf fun nG=> ?_
  obtain ⟨ha,q⟩:=Nq.mp h'
  refine nG ?_
  rw [←q,Rg]
 rw [e2] at e;exact e
noncomputable def cut (L:List ah) (a:Nat) (z:ah):List ah:=L.take a++z::L.drop (a+2)
theorem zL (h:L[a]? =some x) (h':L[a+1]? =some y) (S:cK L) (e:z.ins.isSome=y.ins.isSome):cK (cut L a z):=by
 have e1:=pJ h h'
 have ha:(L.take a).length=a:=OM (NP (Nq.mp h).1)
 have S1:cK (L.take a++y::L.drop (a+2)):=by
  refine Nf fun nG=> ?_
  obtain ⟨C,l,q,hl,hC⟩:=S.ex
  refine nG ?_
  have lc:a <C.length:=by
   have:=(Nq.mp h').1
   rw [q,Nj] at this
   exact OK this
  have:L.eraseIdx a=L.take a++y::L.drop (a+2):=by
   conv=>lhs;rw [e1]
   rw [List.eraseIdx_append_of_length_le (NZ ha),ha,PQ];rfl
  rw [←this,q,List.eraseIdx_append_of_lt_length lc]
  exact .mk' hl fun x m=>hC x (List.mem_of_mem_eraseIdx m)
 exact lM.shape (L:=L.take a++y::L.drop (a+2)) (by unfold lM cut;rw [NS,NS,NA,NA,e]) S1
theorem mi (h:L[a]? =some x) (h':L[a+1]? =some y):(cut L a z).length+1=L.length:=by
 conv=>rhs;rw [pJ h h']
 unfold cut
 rw [Nj,Nj];rfl
theorem EY (h:L[a]? =some x) (h':L[a+1]? =some y) {l:ah} (m:l∈cut L a z):l=z∨l∈L:=by
 rcases Nx.mp m with m|m
 ·exact .inr (Pa m)
 ·exact (NN.mp m).imp id Os
theorem eK.drop (I:Inv P0 L) (h:L[a]? =some x) (h':L[a+1]? =some y):eK P0 L (cut L a ⟨x.labs++y.labs,y.ins⟩):=by
 have e:=pJ h h'
 have hs:(items (cut L a ⟨x.labs++y.labs,y.ins⟩)).Sublist (items L):=by
  conv=>rhs;rw [e]
  unfold cut
  rw [aJ,aJ,aR,aR,aR,jG,jG,jG,NS,NI,NI,NI,NI]
  exact (Pn _).append ((Pn _).append (N8 _ _))
 refine ⟨⟨I.core.sub hs,zL h h' I.sh rfl,fun l m=> ?_,Ni (NQ _) (Ni (NZ (mi h h')) I.len)⟩,gB hs,.inr ?_⟩
 ·rcases EY h h' m with rfl|m
  ·exact I.tg y (NF h')
  ·exact I.tg l m
 ·conv=>rhs;rw [e]
  unfold cut
  rw [bR,bR,bD,bD,bD]
  exact QF (Nat.lt_add_of_pos_left (As _)) _
theorem eK.set (I:Inv P0 L) (h:L[a]? =some x) (hi:jG z=jG x) (hs:z.ins.isSome=x.ins.isSome) (ht:∀m t,z.ins=some (.jump m t)→t≠[]) (hw:wt z.ins <wt x.ins):eK P0 L (L.set a z) where
 inv:=⟨by rw [im h hi];exact I.core,(lU h hs).shape I.sh,I.tg.set ht,by rw [Ot];exact I.len⟩
 nlab:=gB (by rw [im h hi];exact Pn _)
 or:= .inr (by
  conv=>rhs;rw [gQ h]
  rw [pL h,bR,bR,bD,bD]
  exact QF (Pq hw _) _)
theorem AK {e1 e2 e3:CE} (h0:ρ[0]? =some (some (.v (lst L)))) (h1:(run aj n).e e1 ρ σ=some (.v (ai a),σ)) (h2:(run aj n).e e2 ρ σ=some (.v (ay z),σ)) (h3:(run aj (n+1)).e e3 ρ σ=some (.v (ai b),σ)) (ha:a≤L.length) (hb:b≤L.length) (hz:L.length≤1000):
  (run aj (n+3)).e (.bin .add (.bin .add (.slc (.var 0) none (some e1)) (.lst [e2])) (.slc (.var 0) (some e3) none)) ρ σ=some (.v (lst (L.take a++z::L.drop b)),σ):=by
 have v0:∀m,eO (run aj (m+1)) (.var 0) ρ σ=some (lst L,σ):=fun m=>cC (show ρ[0]?.join.map _=_ by rw [h0];rfl) rfl
 have s1:(run aj (n+1)).e (.slc (.var 0) none (some e1)) ρ σ=some (.v (lst (L.take a)),σ):=by
  rw [i3,dW]
  cases n with
  |zero=>cases h1
  |succ n=>
   rw [v0]
   show (NK (Pi _ (eO _ e1 ρ σ)) _)=_
   rw [cC h1 rfl]
   show (i8 (lst L) none (some (ai a))).map (fun v=>(aA.v v,σ))=_
   rw [tz ha];rfl
 have s2:(run aj (n+1)).e (.lst [e2]) ρ σ=some (.own (.lst [ay z]),σ):=by
  rw [i3,d6,et,a0,h2];rfl
 have s3:(run aj (n+2)).e (.slc (.var 0) (some e3) none) ρ σ=some (.v (lst (L.drop b)),σ):=by
  rw [i3,dW,v0]
  show (NK (Pi _ (eO _ e3 ρ σ)) _)=_
  rw [cC h3 rfl]
  show (i8 (lst L) (some (ai b)) none).map (fun v=>(aA.v v,σ))=_
  rw [lX hb];rfl
 have l1:(L.take a).length≤1000:=Ni (Qb _ _) (Ni ha hz)
 have l2:(L.drop b).length≤1000:=Ni (NZ O2) (Ni (Qt _ _) hz)
 have:=bW (n:=n+2) (o:= .add) (aI (bW (n:=n+1) (o:= .add) (aI s1 rfl s2 rfl) (qd (A:=L.take a) (B:=[z]) (Ni (OB l1 1) (by decide)))) rfl s3 rfl)
  (qd (A:=L.take a++[z]) (B:=L.drop b) (by rw [Nj];exact Ni (N6 (OB l1 1) l2) (by decide)))
 rw [NI] at this
 exact this
theorem GQ {p q:List Sg} (h:p.length+q.length≤1000):oC (.tup (p.map .str)) (.tup (q.map .str))=some (.tup ((p++q).map .str)):=by
 show (if cU ((p.map V.str).length+(q.map V.str).length)=true then _ else _)=_
 rw [Nl,Nl,NG (eU (Ni h (by decide))),NS]
theorem K6 (S:bX L) (h:L[a]? =some x) (h':L[a+1]? =some y):x.labs.length+y.labs.length≤1000:=by
 have:=S.labs
 rw [pJ h h',jc,Nj] at this
 have e:aq (x::y::L.drop (a+2))=x.labs++(y.labs++aq (L.drop (a+2))):=rfl
 rw [e,Nj,Nj] at this
 omega
theorem fU {i:Nat} (h:ρ[i]? =some (some (.v (ai a)))) (c:Nat):(run aj (n+2)).e (.bin .add (.var i) (.cst (.int (c:Int)))) ρ σ=some (.v (ai (a+c)),σ):=
 bW (n:=n+1) (o:= .add) (aI (σ1:=σ) (U:= .v (ai a)) (W:= .v (.int c)) (show ρ[i]?.join.map _=_ by rw [h];rfl) rfl rfl rfl) (K8 a c)
theorem q9 (S:bX L) (h:L[a]? =some x) (h':L[a+1]? =some y):nU 20 23 [lst L,ai a] (lst (cut L a ⟨x.labs++y.labs,y.ins⟩)):=fun n=>by
 have la:=(Nq.mp h').1
 have s1:(run aj (n+19)).s (.assign 2 (.idx (.var 0) (.bin .add (.var 1) (.cst (.int 1))))) [some (.v (lst L)),some (.v (ai a)),none] []=some (.next,[some (.v (lst L)),some (.v (ai a)),some (.v (ay y))],[]):=
  aD (n:=n+18) rfl (fj (n:=n+17) (cM (U:= .v (lst L)) (W:= .v (ai (a+1))) rfl (fU (n:=n+15) rfl 1) rfl rfl) (iF h')) rfl
 have m:(run aj (n+15)).e (.mk .line [(.bin .add (.attr (.idx (.var 0) (.var 1)) .labels) (.attr (.var 2) .labels)),(.attr (.var 2) .instruction)]) [some (.v (lst L)),some (.v (ai a)),some (.v (ay y))] []=some (.v (ay ⟨x.labs++y.labs,y.ins⟩),[]):=
  qL (n:=n+14) (aI (bW (n:=n+13) (o:= .add) (aI (gG (n:=n+12) (uT (n:=n+10) rfl rfl h) rfl rfl) rfl (W:= .v (.tup (y.labs.map .str))) rfl rfl) (GQ (K6 S h h'))) rfl (W:= .v (aS y.ins)) rfl rfl) rfl
 exact bV (n:=n+19) (fn:=ql) (W:= .v _) rfl rfl (av s1 (dY (n:=n+18) (AK (n:=n+15) (e1:= .var 1) rfl rfl m (fU (n:=n+14) rfl 2) (NP (O0 la)) la S.len'))) rfl
end
section
variable {P0:List Itm} {L L' L2 A:List ah} {x y z:ah} {a b n:Nat} {ρ:Loc} {σ:ag} {i:cr}
structure Ei (P0:List Itm) (f:Nat) (B:List CS) (St:List ah→Loc→Prop) (L:List ah) (a:Nat) (L':List ah):Prop where
 pass:eK P0 L L'
 len:L.length≤L'.length+1
 ok:∀n ρ,St L ρ→∃o ρ',bd (run aj (n+f)) (.one 1) B (ai a) ρ []=some (o,ρ',[])∧o.turns=true∧St L' ρ'
theorem nr {f c:Nat} {B:List CS} {St:List ah→Loc→Prop} (turn:∀L a,Inv P0 L→nlab L≤100→a+c <L.length→∃L',Ei P0 f B St L a L'):
  ∀k L,Inv P0 L→nlab L≤100→k=0∨k+c≤L.length→∃L',eK P0 L L'∧∀n ρ,St L ρ→∃ρ',fy (bd (run aj (n+f)) (.one 1) B) ((OV k).reverse.map ai) ρ []=some (.next,ρ',[])∧St L' ρ':=by
 intro k
 induction k with
 |zero=>exact fun L I _ _=>⟨L,.refl I,fun n ρ s=>⟨ρ,rfl,s⟩⟩
 |succ k ih=>
  intro L I hn hk
  have hk:k+1+c≤L.length:=hk.resolve_left (SR k)
  refine Nf fun nG=> ?_
  obtain ⟨L1,T⟩:=turn L k I hn (Od (Pq (OD k) c) hk)
  obtain ⟨L2,p,ok⟩:=ih L1 T.pass.inv (Ni T.pass.nlab hn) (.inr (PP (Ni (NZ (O8 k c).symm) (Ni hk T.len))))
  refine nG ?_
  refine ⟨L2,T.pass.trans p,fun n ρ s=> ?_⟩
  refine Nf fun nG=> ?_
  obtain ⟨o,ρ1,e,t,s1⟩:=T.ok n ρ s
  refine nG ?_
  rw [Tk,TY,List.reverse_singleton,List.singleton_append,NA,aQ,e]
  show∃ρ',(bif o.turns then _ else _)=_∧_
  rw [t]
  exact ok n ρ1 s1
noncomputable def GT:cr→Bool
 | .jump m _=>match m with
  | .jmp=>true
  | .jrcxz=>true
  | .je=>true
  | .jne=>true
  | .jae=>true
  | .jb=>true
  | .call=>false
  | .loop=>false
  | .loope=>false
  | .loopne=>false
 | .ret=>false
 | .mov _ _ _=>false
noncomputable def Ly:CE:= .or [(.cmp (.attr (.var 2) .name) .in_ (.tup [(.cst (.str [106,109,112])),(.cst (.str [106,114,99,120,122]))])),(.cmp (.callF 6 [(.var 2)]) .ne (.cst (.str [])))]
noncomputable def MT:List CS:=[.assign 2 (.attr (.idx (.var 0) (.var 1)) .instruction),
  .ite (.cmp (.callF 5 [(.var 2)]) .nin (.attr (.idx (.var 0) (.bin .add (.var 1) (.cst (.int 1)))) .labels)) [.cont] [],
  .ite Ly [.assign 0 (.callF 23 [(.var 0),(.var 1)])] []]
noncomputable def Dv (L:List ah) (r1 r2:Nh aA):Loc:=[some (.v (lst L)),r1,r2]
theorem JS (i:cr) {r1:Nh aA}:cv (run aj (n+50)) Ly (Dv L r1 (some (.v (aP i)))) []=some (GT i,[]):=by
 cases i with
 |jump m t=>cases m<;>kernel_rfl
 |ret=>kernel_rfl
 |mov=>kernel_rfl
theorem MA {r2:Nh aA} {l:ah} (h:L[a]? =some l):(run aj (n+60)).s (.assign 2 (.attr (.idx (.var 0) (.var 1)) .instruction)) (Dv L (some (.v (ai a))) r2) []=some (.next,Dv L (some (.v (ai a))) (some (.v (aS l.ins))),[]):=
 aD (n:=n+59) rfl (lz (n:=n+56) rfl rfl h) rfl
theorem wF {j:Nat} (h0:ρ[0]? =some (some (.v (lst L)))) (hj:ρ[j]? =some (some (.v (ai a)))) (c:Nat) (h:L[a+c]? =some y):(run aj (n+4)).e (.attr (.idx (.var 0) (.bin .add (.var j) (.cst (.int (c:Int))))) .labels) ρ σ=some (.v (.tup (y.labs.map .str)),σ):=
 gG (n:=n+3) (fj (n:=n+2) (cM (U:= .v (lst L)) (show ρ[0]?.join.map _=_ by rw [h0];rfl) (fU (n:=n) hj c) rfl rfl) (iF h)) rfl rfl
theorem JO (o:Nh cr) (h:L[a+1]? =some y):cv (run aj (n+59)) (.cmp (.callF 5 [(.var 2)]) .nin (.attr (.idx (.var 0) (.bin .add (.var 1) (.cst (.int 1)))) .labels)) (Dv L (some (.v (ai a))) (some (.v (aS o)))) []=some (!decide (bg o∈y.labs),[]):=
 bJ (n:=n+58) (o:= .nin) (mN (n:=n+38) rfl) rfl (wF (n:=n+54) rfl rfl 1 h) rfl (by rw [bH,bl];rfl)
theorem EB (I:Inv P0 L) (hn:nlab L≤100) (ha:a+1 <L.length):∃L',Ei P0 60 MT (fun L ρ=>∃r1 r2,ρ=Dv L r1 r2) L a L':=by
 refine Nf fun nG=> ?_
 obtain ⟨ls,i,h⟩:=I.sh.row a ha
 refine nG ?_
 have h':=Nr ha
 generalize L[a+1]=y at h'
 have S:=I.small hn
 have run3:∀n r1 r2 {r},aH (run aj (n+60)) [.ite (.cmp (.callF 5 [(.var 2)]) .nin (.attr (.idx (.var 0) (.bin .add (.var 1) (.cst (.int 1)))) .labels)) [.cont] [],.ite Ly [.assign 0 (.callF 23 [(.var 0),(.var 1)])] []] (Dv L (some (.v (ai a))) (some (.v (aP i)))) []=some r→bd (run aj (n+60)) (.one 1) MT (ai a) (Dv L r1 r2) []=some r:=
  fun n r1 r2 r e=>av (MA (r2:=r2) h) e
 by_cases hm:i.tgt∈y.labs
 ·have go2:∀n,(run aj (n+60)).s (.ite (.cmp (.callF 5 [(.var 2)]) .nin (.attr (.idx (.var 0) (.bin .add (.var 1) (.cst (.int 1)))) .labels)) [.cont] []) (Dv L (some (.v (ai a))) (some (.v (aP i)))) []=some (.next,Dv L (some (.v (ai a))) (some (.v (aP i))),[]):=fun n=>
   bc (n:=n+59) (JO (some i) h') (by rw [show decide (bg (some i)∈y.labs)=true from Nw hm];rfl)
  cases hb:GT i with
  |true=>exact ⟨_,.drop I h h',NZ (mi h h').symm,fun n ρ ⟨r1,r2,e⟩=>e▸⟨.next,_,run3 n r1 r2 (av (go2 n) (bk (bc (n:=n+59) (JS i) (by
    rw [hb];exact bk (aD (n:=n+58) rfl (aB (n:=n+57) (us:=[lst L,ai a]) (Us:=[.v (lst L),.v (ai a)]) rfl rfl (q9 S h h' (n+37)) rfl) rfl))))),rfl,_,_,rfl⟩⟩
  |false=>exact ⟨L,.refl I,NQ _,fun n ρ ⟨r1,r2,e⟩=>e▸⟨.next,_,run3 n r1 r2 (av (go2 n) (bk (bc (n:=n+59) (JS i) (by rw [hb];rfl)))),rfl,_,_,rfl⟩⟩
 ·exact ⟨L,.refl I,NQ _,fun n ρ ⟨r1,r2,e⟩=>e▸⟨.cont,_,run3 n r1 r2 (d9 (bc (n:=n+59) (JO (some i) h') (by rw [show decide (bg (some i)∈y.labs)=false from NR hm];rfl)) rfl),rfl,_,_,rfl⟩⟩
theorem Hd (I:Inv P0 L) (hn:nlab L≤100):∃L',nU 70 24 [lst L] (lst L')∧eK P0 L L':=by
 refine Nf fun nG=> ?_
 obtain ⟨k,hk⟩:∃k,L.length=k+1:=N9 (Px I.sh.pos)
 obtain ⟨L',p,ok⟩:=nr (c:=1) (fun L a I hn ha=>EB I hn ha) k L I hn (.inr (NZ hk.symm))
 refine nG ?_
 refine ⟨L',fun n=> ?_,p⟩
 refine Nf fun nG=> ?_
 obtain ⟨ρ',e,r1,r2,q⟩:=ok (n+8) (Dv L none none) ⟨_,_,rfl⟩
 subst q
 refine nG ?_
 exact bV (n:=n+69) (fn:=gw) (W:= .v _) rfl rfl (av (n:=n+69) (gp (n:=n+68) (yv (n:=n+65) (c:=2) (L:=L) rfl (Nt (· +1) hk) (Ni (NQ k) (Ni (NZ hk.symm) (Ni I.len (by decide))))) e) (dY (n:=n+68) rfl)) rfl
end
section
variable {P0:List Itm} {L L' L2 A:List ah} {x y z:ah} {a b n k:Nat} {ρ:Loc} {σ:ag} {i:cr}
theorem uF (h:ρ[0]? =some (some (.v (lst L)))) (hp:0 <L.length) (hz:L.length≤1000):∃k,(k=0∨k+2≤L.length)∧∀n,dN (run aj (n+3)) (.range [(.bin .sub (.callB .len [(.var 0)]) (.cst (.int 3))),(.neg 1),(.neg 1)]) ρ σ=some ((OV k).reverse.map ai,σ):=by
 refine Nf fun nG=> ?_
 obtain ⟨j,hj⟩:∃j,L.length=j+1:=N9 (Px hp)
 refine nG ?_
 cases j with
 |zero=>
  refine ⟨0,.inl rfl,fun n=> ?_⟩
  have e1:(run aj (n+3)).e (.bin .sub (.callB .len [(.var 0)]) (.cst (.int 3))) ρ σ=some (.v (.int (-2)),σ):=
   bW (n:=n+2) (o:= .sub) (aI (σ1:=σ) (W:= .v (.int 3)) (uL h) rfl rfl rfl) (by rw [hj];rfl)
  rw [oX]
  show ((((NK ((run aj (n+3)).e _ _ _) _).bind _).bind _))=_
  rw [e1];rfl
 |succ j=>exact ⟨j,.inr (NZ hj.symm),fun n=>yv (c:=3) (L:=L) h (Nt (· +1) hj) (Ni (NQ j) (Ni (NQ _) (Ni (NZ hj.symm) hz)))⟩
theorem kj {i j:Nat} {p q:CE} {U W:aA} {u w:V} (h1:(run aj n).e p ρ σ=some (U,σ)) (k1:U.toV=some u) (h2:(run aj n).e q ρ σ=some (W,σ)) (k2:W.toV=some w):(run aj (n+1)).s (.assignT [(i,false),(j,false)] [p,q]) ρ σ=some (.next,(ρ.set i (some (.v u))).set j (some (.v w)),σ):=by
 rw [iR,aK,f8,h1]
 show NK (NK (U.toV) fun u=>(wb (run aj n) [(j,false)] [q] ρ σ).map fun q=>(aA.v u::q.1,q.2)) _=_
 rw [k1,f8,h2]
 show NK (Pi _ (NK (W.toV) fun u=>(wb (run aj n) [] [] ρ σ).map fun q=>(aA.v u::q.1,q.2))) _=_
 rw [k2];rfl
theorem sf {b:Bool} (h:(!b)=false):b=true:=by
 cases b with
 |true=>rfl
 |false=>cases h
theorem JY {p q r:CE} {u v w:Bool} (h1:cv (run aj n) p ρ σ=some (u,σ)) (h2:u=false→cv (run aj n) q ρ σ=some (v,σ)) (h3:u=false→v=false→cv (run aj n) r ρ σ=some (w,σ)):cv (run aj (n+1)) (.or [p,q,r]) ρ σ=some (u||(v||w),σ):=by
 refine gy ?_
 rw [i3,hP,cB,h1]
 cases u with
 |true=>rfl
 |false=>
  show (fc _ false [q,r] ρ σ).map _=_
  rw [cB,h2 rfl]
  cases v with
  |true=>rfl
  |false=>show (fc _ false [r] ρ σ).map _=_;rw [cy,h3 rfl rfl];rfl
theorem vY {p q r:CE} {U:aA} {u w v:V} (h1:(run aj n).e p ρ σ=some (U,σ)) (k1:U.toV=some u) (h2:jC (run aj n) [q,r] ρ σ=some ([w,v],σ)):jC (run aj n) [p,q,r] ρ σ=some ([u,w,v],σ):=by
 have h:(kL (run aj n) [q,r] ρ σ).bind (fun r=>(toVs r.1).bind fun us=>some (us,r.2))=some ([w,v],σ):=h2
 show (((run aj n).e p ρ σ).bind _).bind _=_
 rw [h1]
 show ((kL (run aj n) [q,r] ρ σ).bind _).bind _=_
 cases e:kL (run aj n) [q,r] ρ σ with
 |none=>rw [e] at h;cases h
 |some t=>
  rw [e] at h
  obtain ⟨Us,σ'⟩:=t
  have h:(toVs Us).bind (fun us=>some (us,σ'))=some ([w,v],σ):=h
  show (toVs (U::Us)).bind _=_
  show ((U.toV).bind _).bind _=_
  rw [k1]
  show ((toVs Us).bind _).bind _=_
  cases e2:toVs Us with
  |none=>rw [e2] at h;cases h
  |some us=>rw [e2] at h;cases h;rfl
noncomputable def Cc.nm:Cc→Nm
 | .e=> .je| .ne=> .jne| .ae=> .jae| .b=> .jb
theorem MD (c:Cc):([106]++c.s:Sg)=c.nm.s:=by cases c<;>rfl
theorem HM {m:Nm} {c:Cc} (h:m.cc=some c):m=c.nm:=by cases m<;>cases h<;>rfl
theorem tT (c:Nh Cc):decide (kB c=[])=c.isNone:=by
 cases c with
 |none=>rfl
 |some c=>cases c<;>rfl
theorem yc {o:Nh cr} {c:Cc} (h:eG o=some c):∃t,o=some (.jump c.nm t):=by
 cases o with
 |none=>cases h
 |some i=>cases i with
  |jump m t=>exact ⟨t,by rw [HM (show m.cc=some c from h)]⟩
  |ret=>cases h
  |mov=>cases h
theorem oQ {o:Nh cr} (h:og o=true):∃t,o=some (.jump .jmp t):=by
 cases o with
 |none=>cases h
 |some i=>cases i with
  |jump m t=>cases m<;>first|exact ⟨t,rfl⟩|cases h
  |ret=>cases h
  |mov=>cases h
theorem Cv {j:Nat} {o:Nh cr} (h:ρ[j]? =some (some (.v (aS o)))):(run aj (n+30)).e (.callF 6 [(.var j)]) ρ σ=some (.v (.str (kB (eG o))),σ):=by
 have v:(run aj (n+29)).e (.var j) ρ σ=some (.v (aS o),σ):=by show ρ[j]?.join.map _=_;rw [h];rfl
 exact aB (n:=n+29) (us:=[aS o]) (Us:=[.v (aS o)]) (by rw [a0,v];rfl) rfl (ph o (n+9)) rfl
theorem yF {e:CE} {p:List Sg} (h:(run aj n).e e ρ σ=some (.v (.tup (p.map .str)),σ)):cv (run aj (n+2)) (.cmp (.callB .len [e]) .gt (.cst (.int 0))) ρ σ=some (!p.isEmpty,σ):=by
 cases n with
 |zero=>cases h
 |succ n=>
 refine bJ (n:=n+2) (o:= .gt) (U:= .v (.int (p.length:Nat))) (W:= .v (.int 0)) (eQ (n:=n+1) (us:=[.tup (p.map .str)]) ?_ (show some (V.int ((p.map V.str).length:Nat))=_ by rw [Nl])) rfl rfl rfl ?_
 ·rw [en,a0,h];rfl
 ·cases p with
  |nil=>rfl
  |cons s p=>exact Nt some (Nw (QL.mpr (OA _)))
noncomputable def kF (L:List ah) (r1 r2 r3 r4 r5:Nh aA):Loc:=[some (.v (lst L)),r1,r2,r3,r4,r5]
noncomputable def LL:CE:= .or [(.cmp (.var 4) .eq (.cst (.str []))),(.not (.callF 7 [(.var 3)])),(.cmp (.callB .len [(.attr (.idx (.var 0) (.bin .add (.var 1) (.cst (.int 1)))) .labels)]) .gt (.cst (.int 0)))]
noncomputable def Mu:List CS:=[.assign 5 (.mk .ins [(.bin .add (.cst (.str [106])) (.callF 2 [(.var 4)])),(.attr (.var 3) .operands),(.cst (.str []))]),
   .assign 0 (.bin .add (.bin .add (.slc (.var 0) none (some (.var 1))) (.lst [(.mk .line [(.attr (.idx (.var 0) (.var 1)) .labels),(.var 5)])])) (.slc (.var 0) (some (.bin .add (.var 1) (.cst (.int 2)))) none))]
noncomputable def Mw:List CS:=[.assignT [(2,false),(3,false)] [(.attr (.idx (.var 0) (.var 1)) .instruction),(.attr (.idx (.var 0) (.bin .add (.var 1) (.cst (.int 1)))) .instruction)],
  .assign 4 (.callF 6 [(.var 2)]),
  .ite LL [.cont] [],
  .ite (.cmp (.callF 5 [(.var 2)]) .in_ (.attr (.idx (.var 0) (.bin .add (.var 1) (.cst (.int 2)))) .labels)) Mu []]
variable {r1 r2 r3 r4 r5:Nh aA} {c:Cc} {t:Sg}
theorem E4 {j:Nat} (h0:ρ[0]? =some (some (.v (lst L)))) (hj:ρ[j]? =some (some (.v (ai a)))) (c:Nat) (h:L[a+c]? =some y):(run aj (n+4)).e (.attr (.idx (.var 0) (.bin .add (.var j) (.cst (.int (c:Int))))) .instruction) ρ σ=some (.v (aS y.ins),σ):=
 gG (n:=n+3) (fj (n:=n+2) (cM (U:= .v (lst L)) (show ρ[0]?.join.map _=_ by rw [h0];rfl) (fU (n:=n) hj c) rfl rfl) (iF h)) rfl rfl
theorem LA (h:L[a]? =some x) (h':L[a+1]? =some y):(run aj (n+80)).s (.assignT [(2,false),(3,false)] [(.attr (.idx (.var 0) (.var 1)) .instruction),(.attr (.idx (.var 0) (.bin .add (.var 1) (.cst (.int 1)))) .instruction)]) (kF L (some (.v (ai a))) r2 r3 r4 r5) []=
  some (.next,kF L (some (.v (ai a))) (some (.v (aS x.ins))) (some (.v (aS y.ins))) r4 r5,[]):=
 kj (n:=n+79) (lz (n:=n+76) rfl rfl h) rfl (E4 (n:=n+75) rfl rfl 1 h') rfl
theorem K4 (h':L[a+1]? =some y):cv (run aj (n+79)) LL (kF L (some (.v (ai a))) r2 (some (.v (aS y.ins))) (some (.v (.str (kB (eG x.ins))))) r5) []=some ((eG x.ins).isNone||(!og y.ins|| !y.labs.isEmpty),[]):=
 JY (n:=n+78) (bJ (n:=n+77) (o:= .eq) (U:= .v (.str (kB (eG x.ins)))) (W:= .v (.str [])) rfl rfl rfl rfl (by rw [cq,bE,tT]))
  (fun _=>vL (n:=n+77) (gy (aB (n:=n+76) (us:=[aS y.ins]) (Us:=[.v (aS y.ins)]) rfl rfl (xT y.ins (n+51)) rfl)))
  fun _ _=>yF (n:=n+76) (wF (n:=n+72) rfl rfl 1 h')
theorem LK:(run aj (n+79)).s (.assign 5 (.mk .ins [(.bin .add (.cst (.str [106])) (.callF 2 [(.var 4)])),(.attr (.var 3) .operands),(.cst (.str []))])) (kF L r1 r2 (some (.v (aP (.jump .jmp t)))) (some (.v (.str c.s))) r5) []=
  some (.next,kF L r1 r2 (some (.v (aP (.jump .jmp t)))) (some (.v (.str c.s))) (some (.v (aP (.jump c.opp.nm t)))),[]):=by
 have e1:(run aj (n+77)).e (.bin .add (.cst (.str [106])) (.callF 2 [(.var 4)])) (kF L r1 r2 (some (.v (aP (.jump .jmp t)))) (some (.v (.str c.s))) r5) []=some (.v (.str c.opp.nm.s),[]):=by
  rw [←MD]
  exact bW (n:=n+76) (o:= .add) (aI (U:= .v (.str [106])) rfl rfl (aB (n:=n+75) (us:=[.str c.s]) (Us:=[.v (.str c.s)]) rfl rfl (GU c (n+45)) rfl) rfl) (by cases c<;>rfl)
 exact aD (n:=n+78) rfl (qL (n:=n+77) (vY e1 rfl (show jC (run aj (n+77)) [(.attr (.var 3) .operands),(.cst (.str []))] _ []=some ([.tup [.inst .rel [.str [114,101,108],.int 0,.str t]],.str []],[]) from rfl)) rfl) rfl
theorem Mo (h:L[a]? =some x) (h':a+2≤L.length) (hz:L.length≤1000):(run aj (n+79)).s (.assign 0 (.bin .add (.bin .add (.slc (.var 0) none (some (.var 1))) (.lst [(.mk .line [(.attr (.idx (.var 0) (.var 1)) .labels),(.var 5)])])) (.slc (.var 0) (some (.bin .add (.var 1) (.cst (.int 2)))) none))) (kF L (some (.v (ai a))) r2 r3 r4 (some (.v (aP i)))) []=
  some (.next,kF (cut L a ⟨x.labs,some i⟩) (some (.v (ai a))) r2 r3 r4 (some (.v (aP i))),[]):=
 aD (n:=n+78) rfl (AK (n:=n+75) (e1:= .var 1) rfl rfl (qL (n:=n+74) (aI (gG (n:=n+73) (uT (n:=n+71) rfl rfl h) rfl rfl) rfl (W:= .v (aP i)) rfl rfl) rfl) (fU (n:=n+74) rfl 2) (PG (PG h')) h' hz) rfl
theorem eK.turn (I:Inv P0 L) {ls:List Sg} {t':Sg} (h:L[a]? =some ⟨ls,some (.jump c.nm t)⟩) (h':L[a+1]? =some ⟨[],some (.jump .jmp t')⟩):eK P0 L (cut L a ⟨ls,some (.jump c.opp.nm t')⟩):=by
 have p:=eK.drop I h h'
 have hc:(cut L a ⟨ls++[],some (.jump .jmp t')⟩)[a]? =some ⟨ls++[],some (.jump .jmp t')⟩:=by
  unfold cut
  rw [Ox (Qb _ _),OM (NP (Nq.mp h).1),PQ];rfl
 have e:cut L a ⟨ls,some (.jump c.opp.nm t')⟩=(cut L a ⟨ls++[],some (.jump .jmp t')⟩).set a ⟨ls,some (.jump c.opp.nm t')⟩:=by
  unfold cut
  rw [List.set_append_right _ _ (Qb _ _),OM (NP (Nq.mp h).1),PQ];rfl
 have hi:jG ⟨ls,some (.jump c.opp.nm t')⟩=jG ⟨ls++[],some (.jump .jmp t')⟩:=by
  rw [NH];cases c<;>rfl
 have I':Inv P0 (cut L a ⟨ls,some (.jump c.opp.nm t')⟩):=by
  rw [e]
  exact ⟨by rw [im hc hi];exact p.inv.core,(lU (l':=⟨ls,some (.jump c.opp.nm t')⟩) hc rfl).shape p.inv.sh,p.inv.tg.set fun m t e=>by cases e;exact I.tg _ (NF h') _ _ rfl,by rw [Ot];exact p.inv.len⟩
 refine ⟨I',Ni (gB (by rw [e,im hc hi];exact Pn _)) p.nlab,.inr ?_⟩
 conv=>rhs;rw [pJ h h']
 unfold cut
 rw [bR,bR,bD,bD,bD]
 refine QF ?_ _
 rw [←Oq]
 exact Pq (by cases c<;>exact PH (n:=3) (k:=2) (OA 1)) _
theorem Fi (I:Inv P0 L) (hn:nlab L≤100) (ha:a+2 <L.length):∃L',Ei P0 80 Mw (fun L ρ=>∃r1 r2 r3 r4 r5,ρ=kF L r1 r2 r3 r4 r5) L a L':=by
 have ha1:=O0 ha
 have h:=Nr (O0 ha1)
 generalize L[a]=x at h
 have h':=Nr ha1
 generalize L[a+1]=y at h'
 have h2:=Nr ha
 generalize L[a+2]=z at h2
 have run4:∀n r1 r2 r3 r4 r5 {r},aH (run aj (n+80)) [.ite LL [.cont] [],.ite (.cmp (.callF 5 [(.var 2)]) .in_ (.attr (.idx (.var 0) (.bin .add (.var 1) (.cst (.int 2)))) .labels)) Mu []] (kF L (some (.v (ai a))) (some (.v (aS x.ins))) (some (.v (aS y.ins))) (some (.v (.str (kB (eG x.ins))))) r5) []=some r→bd (run aj (n+80)) (.one 1) Mw (ai a) (kF L r1 r2 r3 r4 r5) []=some r:=
  fun n r1 r2 r3 r4 r5 r e=>av (LA h h') (av (aD (n:=n+79) rfl (Cv (n:=n+49) rfl) rfl) e)
 cases hb:((eG x.ins).isNone||(!og y.ins|| !y.labs.isEmpty)) with
 |true=>exact ⟨L,.refl I,NQ _,fun n ρ ⟨r1,r2,r3,r4,r5,e⟩=>e▸⟨.cont,_,run4 n r1 r2 r3 r4 r5 (d9 (bc (n:=n+79) (K4 h') (by rw [hb];rfl)) rfl),rfl,_,_,_,_,_,rfl⟩⟩
 |false=>
  refine Nf fun nG=> ?_
  obtain ⟨b1,b2⟩:=PB.mp hb
  obtain ⟨b2,b3⟩:=PB.mp b2
  obtain ⟨c,hc⟩:∃c,eG x.ins=some c:=by
   cases q:eG x.ins with
   |none=>rw [q] at b1;cases b1
   |some c=>exact ⟨c,rfl⟩
  obtain ⟨t,ht⟩:=yc hc
  obtain ⟨t',ht'⟩:=oQ (sf b2)
  have hl:=Rk.mp (sf b3)
  obtain ⟨ls,o⟩:=x
  obtain ⟨ly,o'⟩:=y
  cases ht;cases ht';cases hl
  refine nG ?_
  have go2:∀n r1 r2 r3 r4 r5 {r},aH (run aj (n+80)) [.ite (.cmp (.callF 5 [(.var 2)]) .in_ (.attr (.idx (.var 0) (.bin .add (.var 1) (.cst (.int 2)))) .labels)) Mu []] (kF L (some (.v (ai a))) (some (.v (aP (.jump c.nm t)))) (some (.v (aP (.jump .jmp t')))) (some (.v (.str (kB (eG (some (.jump c.nm t))))))) r5) []=some r→bd (run aj (n+80)) (.one 1) Mw (ai a) (kF L r1 r2 r3 r4 r5) []=some r:=
   fun n r1 r2 r3 r4 r5 r e=>run4 n r1 r2 r3 r4 r5 (av (bc (n:=n+79) (K4 (x:=⟨ls,some (.jump c.nm t)⟩) h') (by rw [hb];rfl)) e)
  have test:∀n r5,cv (run aj (n+79)) (.cmp (.callF 5 [(.var 2)]) .in_ (.attr (.idx (.var 0) (.bin .add (.var 1) (.cst (.int 2)))) .labels)) (kF L (some (.v (ai a))) (some (.v (aP (.jump c.nm t)))) (some (.v (aP (.jump .jmp t')))) (some (.v (.str (kB (eG (some (.jump c.nm t))))))) r5) []=some (decide (t∈z.labs),[]):=fun n r5=>
   bJ (n:=n+78) (o:= .in_) (mN (n:=n+58) (o:=some (.jump c.nm t)) rfl) rfl (wF (n:=n+74) rfl rfl 2 h2) rfl (bl _ _)
  by_cases hm:t∈z.labs
  ·refine ⟨_,eK.turn (c:=c) I h h',NZ (mi h h').symm,fun n ρ ⟨r1,r2,r3,r4,r5,e⟩=>e▸⟨.next,_,go2 n r1 r2 r3 r4 r5 (bk (bc (n:=n+79) (test n r5) (by
    rw [Nw hm,show kB (eG (some (.jump c.nm t)))=c.s from Nt kB hc]
    exact av LK (bk (Mo (i:= .jump c.opp.nm t') h (NP ha) (I.small hn).len'))))),rfl,_,_,_,_,_,rfl⟩⟩
  ·exact ⟨L,.refl I,NQ _,fun n ρ ⟨r1,r2,r3,r4,r5,e⟩=>e▸⟨.next,_,go2 n r1 r2 r3 r4 r5 (bk (bc (n:=n+79) (test n r5) (by rw [NR hm];rfl))),rfl,_,_,_,_,_,rfl⟩⟩
theorem Bw (I:Inv P0 L) (hn:nlab L≤100):∃L',nU 90 25 [lst L] (lst L')∧eK P0 L L':=by
 refine Nf fun nG=> ?_
 obtain ⟨k,hk,hi⟩:=uF (L:=L) (ρ:=kF L none none none none none) (σ:=[]) rfl I.sh.pos (I.small hn).len'
 obtain ⟨L',p,ok⟩:=nr (c:=2) (fun L a I hn ha=>Fi I hn ha) k L I hn hk
 refine nG ?_
 refine ⟨L',fun n=> ?_,p⟩
 refine Nf fun nG=> ?_
 obtain ⟨ρ',e,r1,r2,r3,r4,r5,q⟩:=ok (n+8) (kF L none none none none none) ⟨_,_,_,_,_,rfl⟩
 subst q
 refine nG ?_
 exact bV (n:=n+89) (fn:=jI) (W:= .v _) rfl rfl (av (n:=n+89) (gp (n:=n+88) (hi (n+85)) e) (dY (n:=n+88) rfl)) rfl
end
section
variable {P0:List Itm} {L L' L2 A:List ah} {x y z:ah} {a b n k:Nat} {ρ:Loc} {σ:ag} {i:cr} {r1 r2 r3 r4 r5:Nh aA} {c:Cc} {t:Sg}
noncomputable def MW:CE:= .or [(.cmp (.var 2) .eq (.cst (.str []))),(.cmp (.callB .len [(.attr (.var 3) .labels)]) .gt (.cst (.int 0)))]
noncomputable def MY:List CS:=[.assign 0 (.callF 23 [(.var 0),(.bin .add (.var 1) (.cst (.int 1)))])]
noncomputable def LW:List CS:=[.assign 5 (.mk .ins [(.cst (.str [106,109,112])),(.attr (.attr (.var 3) .instruction) .operands),(.cst (.str []))]),
    .assign 0 (.bin .add (.bin .add (.slc (.var 0) none (some (.bin .add (.var 1) (.cst (.int 1))))) (.lst [(.mk .line [(.lst []),(.var 5)])])) (.slc (.var 0) (some (.bin .add (.var 1) (.cst (.int 2)))) none))]
noncomputable def M1:List CS:=[.assign 4 (.callF 14 [(.callF 2 [(.var 2)]),(.callF 6 [(.attr (.var 3) .instruction)])]),
  .ite (.cmp (.var 4) .eq (.cst (.int 0))) MY [.ite (.cmp (.var 4) .eq (.cst (.int 1))) LW []]]
noncomputable def ME:List CS:= .assignT [(2,false),(3,false)] [(.callF 6 [(.attr (.idx (.var 0) (.var 1)) .instruction)]),(.idx (.var 0) (.bin .add (.var 1) (.cst (.int 1))))]:: .ite MW [.cont] []::M1
theorem Ko (h:L[a]? =some x) (h':L[a+1]? =some y):(run aj (n+80)).s (.assignT [(2,false),(3,false)] [(.callF 6 [(.attr (.idx (.var 0) (.var 1)) .instruction)]),(.idx (.var 0) (.bin .add (.var 1) (.cst (.int 1))))]) (kF L (some (.v (ai a))) r2 r3 r4 r5) []=
  some (.next,kF L (some (.v (ai a))) (some (.v (.str (kB (eG x.ins))))) (some (.v (ay y))) r4 r5,[]):=
 kj (n:=n+79) (aB (n:=n+78) (us:=[aS x.ins]) (Us:=[.v (aS x.ins)]) (by rw [a0,lz (n:=n+75) rfl rfl h];rfl) rfl (ph x.ins (n+58)) rfl) rfl
  (fj (n:=n+78) (cM (U:= .v (lst L)) (W:= .v (ai (a+1))) rfl (fU (n:=n+76) rfl 1) rfl rfl) (iF h')) rfl
theorem Kl {o:Nh Cc}:cv (run aj (n+79)) MW (kF L r1 (some (.v (.str (kB o)))) (some (.v (ay y))) r4 r5) []=some (o.isNone|| !y.labs.isEmpty,[]):=
 vt (n:=n+78) (bJ (n:=n+77) (o:= .eq) (U:= .v (.str (kB o))) (W:= .v (.str [])) rfl rfl rfl rfl (by rw [cq,bE,tT])) fun _=>yF (n:=n+76) (gG (n:=n+75) (U:= .v (ay y)) rfl rfl rfl)
theorem Lq:(run aj (n+80)).s (.assign 4 (.callF 14 [(.callF 2 [(.var 2)]),(.callF 6 [(.attr (.var 3) .instruction)])])) (kF L r1 (some (.v (.str c.s))) (some (.v (ay y))) r4 r5) []=
  some (.next,kF L r1 (some (.v (.str c.s))) (some (.v (ay y))) (some (.v (.int (jK (some c.opp) (eG y.ins))))) r5,[]):=by
 have e1:(run aj (n+78)).e (.callF 2 [(.var 2)]) (kF L r1 (some (.v (.str c.s))) (some (.v (ay y))) r4 r5) []=some (.v (.str c.opp.s),[]):=aB (n:=n+77) (us:=[.str c.s]) (Us:=[.v (.str c.s)]) rfl rfl (GU c (n+47)) rfl
 have e2:(run aj (n+78)).e (.callF 6 [(.attr (.var 3) .instruction)]) (kF L r1 (some (.v (.str c.s))) (some (.v (ay y))) r4 r5) []=some (.v (.str (kB (eG y.ins))),[]):=aB (n:=n+77) (us:=[aS y.ins]) (Us:=[.v (aS y.ins)]) rfl rfl (ph y.ins (n+57)) rfl
 exact aD (n:=n+79) rfl (aB (n:=n+78) (us:=[.str c.opp.s,.str (kB (eG y.ins))]) (Us:=[.v (.str c.opp.s),.v (.str (kB (eG y.ins)))]) (by rw [a0,e1];show NK (kL _ [_] _ []) _=_;rw [a0,e2];rfl) rfl (GJ (some c.opp) (eG y.ins) (n+33)) rfl) rfl
theorem BN {w v:Int} {b:Bool} (h:decide (w=v)=b):cv (run aj (n+70)) (.cmp (.var 4) .eq (.cst (.int v))) (kF L r1 r2 r3 (some (.v (.int w))) r5) []=some (b,[]):=
 bJ (n:=n+69) (o:= .eq) (U:= .v (.int w)) (W:= .v (.int v)) rfl rfl rfl rfl (by rw [cq,bh,h])
theorem Md (h1:a+2≤L.length) (h':L[a+1]? =some x) (hz:L.length≤1000) (hy:y.ins=some (.jump c.nm t)):aH (run aj (n+78)) LW (kF L (some (.v (ai a))) r2 (some (.v (ay y))) r4 r5) []=
  some (.next,kF (L.set (a+1) ⟨[],some (.jump .jmp t)⟩) (some (.v (ai a))) r2 (some (.v (ay y))) r4 (some (.v (aP (.jump .jmp t)))),[]):=by
 obtain ⟨ly,o⟩:=y
 cases hy
 rw [pL h']
 exact av (ρ':=kF L (some (.v (ai a))) r2 (some (.v (ay ⟨ly,some (.jump c.nm t)⟩))) r4 (some (.v (aP (.jump .jmp t))))) (σ':=[]) (by kernel_rfl) (bk (aD (n:=n+77) rfl (AK (n:=n+74) (L:=L) (a:=a+1) (z:=⟨[],some (.jump .jmp t)⟩) rfl (fU (n:=n+72) rfl 1) (by kernel_rfl) (fU (n:=n+73) rfl 2) (PG h1) h1 hz) rfl))
theorem ET (I:Inv P0 L) (hn:nlab L≤100) (ha:a+2 <L.length):∃L',Ei P0 80 ME (fun L ρ=>∃r1 r2 r3 r4 r5,ρ=kF L r1 r2 r3 r4 r5) L a L':=by
 have ha1:=O0 ha
 have S:=I.small hn
 have h:=Nr (O0 ha1)
 generalize L[a]=x at h
 have h':=Nr ha1
 generalize L[a+1]=y at h'
 have h2:=Nr ha
 generalize L[a+2]=z at h2
 cases hb:((eG x.ins).isNone|| !y.labs.isEmpty) with
 |true=>exact ⟨L,.refl I,NQ _,fun n ρ ⟨r1,r2,r3,r4,r5,e⟩=>e▸⟨.cont,_,show aH _ ME (kF L (some (.v (ai a))) r2 r3 r4 r5) []=_ from av (Ko h h') (d9 (bc (n:=n+79) Kl (by rw [hb];rfl)) rfl),rfl,_,_,_,_,_,rfl⟩⟩
 |false=>
  obtain ⟨b1,b2⟩:=PB.mp hb
  have hl:=Rk.mp (sf b2)
  obtain ⟨c,hc⟩:∃c,eG x.ins=some c:=by
   cases q:eG x.ins with
   |none=>rw [q] at b1;cases b1
   |some c=>exact ⟨c,rfl⟩
  have go:∀n r1 r2 r3 r4 r5 {r},aH (run aj (n+80)) [.ite (.cmp (.var 4) .eq (.cst (.int 0))) MY [.ite (.cmp (.var 4) .eq (.cst (.int 1))) LW []]] (kF L (some (.v (ai a))) (some (.v (.str c.s))) (some (.v (ay y))) (some (.v (.int (jK (some c.opp) (eG y.ins))))) r5) []=some r→bd (run aj (n+80)) (.one 1) ME (ai a) (kF L r1 r2 r3 r4 r5) []=some r:=
   fun n r1 r2 r3 r4 r5 r e=>av (Ko (r2:=r2) (r3:=r3) h h') (av (bc (n:=n+79) Kl (by rw [hb];rfl)) (by rw [hc];exact av Lq e))
  by_cases h0:jK (some c.opp) (eG y.ins)=0
  ·have e23:∀n r4 r5,(run aj (n+78)).e (.callF 23 [(.var 0),(.bin .add (.var 1) (.cst (.int 1)))]) (kF L (some (.v (ai a))) (some (.v (.str c.s))) (some (.v (ay y))) r4 r5) []=some (.v (lst (cut L (a+1) ⟨y.labs++z.labs,z.ins⟩)),[]):=fun n r4 r5=>
    aB (n:=n+77) (us:=[lst L,ai (a+1)]) (Us:=[.v (lst L),.v (ai (a+1))]) rfl rfl (q9 S h' h2 (n+57)) rfl
   exact ⟨_,.drop I h' h2,NZ (mi h' h2).symm,fun n ρ ⟨r1,r2,r3,r4,r5,e⟩=>e▸⟨.next,_,go n r1 r2 r3 r4 r5 (bk (bc (n:=n+79) (BN (n:=n+9) (Nw h0)) (bk (aD (n:=n+78) rfl (e23 n _ _) rfl)))),rfl,_,_,_,_,_,rfl⟩⟩
  by_cases h1:jK (some c.opp) (eG y.ins)=1
  ·obtain ⟨t,ht⟩:=yc (Gr h1).symm
   have p:eK P0 L (L.set (a+1) ⟨[],some (.jump .jmp t)⟩):= .set I h' (by
    obtain ⟨ly,o⟩:=y
    cases ht;cases hl
    cases c<;>rfl) (by rw [ht];rfl) (fun m t' e=>by cases e;exact I.tg y (NF h') _ _ ht) (by rw [ht];cases c<;>exact OD 2)
   exact ⟨_,p,by rw [Ot];exact NQ _,fun n ρ ⟨r1,r2,r3,r4,r5,e⟩=>e▸⟨.next,_,go n r1 r2 r3 r4 r5 (bk (bc (n:=n+79) (BN (n:=n+9) (NR h0)) (bk (bc (n:=n+78) (BN (n:=n+8) (Nw h1)) (Md (NP ha) h' S.len' ht))))),rfl,_,_,_,_,_,rfl⟩⟩
  ·exact ⟨L,.refl I,NQ _,fun n ρ ⟨r1,r2,r3,r4,r5,e⟩=>e▸⟨.next,_,go n r1 r2 r3 r4 r5 (bk (bc (n:=n+79) (BN (n:=n+9) (NR h0)) (bk (bc (n:=n+78) (BN (n:=n+8) (NR h1)) rfl)))),rfl,_,_,_,_,_,rfl⟩⟩
theorem yP (I:Inv P0 L) (hn:nlab L≤100):∃L',nU 90 26 [lst L] (lst L')∧eK P0 L L':=by
 refine Nf fun nG=> ?_
 obtain ⟨k,hk,hi⟩:=uF (L:=L) (ρ:=kF L none none none none none) (σ:=[]) rfl I.sh.pos (I.small hn).len'
 obtain ⟨L',p,ok⟩:=nr (c:=2) (fun L a I hn ha=>ET I hn ha) k L I hn hk
 refine nG ?_
 refine ⟨L',fun n=> ?_,p⟩
 refine Nf fun nG=> ?_
 obtain ⟨ρ',e,r1,r2,r3,r4,r5,q⟩:=ok (n+8) (kF L none none none none none) ⟨_,_,_,_,_,rfl⟩
 subst q
 refine nG ?_
 exact bV (n:=n+89) (fn:=iu) (W:= .v _) rfl rfl (av (n:=n+89) (gp (n:=n+88) (hi (n+85)) e) (dY (n:=n+88) rfl)) rfl
end
section
variable {P0:List Itm} {L L':List ah} {l x:ah} {a b n k p:Nat} {ρ:Loc} {σ:ag} {r3 r4 r5:Nh aA} {acc:List ah}
noncomputable def rX:Nh cr→Bool
 |some .ret=>true
 |some (.jump _ _)=>false
 |some (.mov _ _ _)=>false
 |none=>false
noncomputable def ut (L:List ah) (o:Nh cr):Nh cr:=bif og o then (place L (bg o)).bind fun p=>L[p]?.bind (·.ins) else none
noncomputable def AZ (L:List ah) (o:Nh cr):Nh cr:=bif rX (ut L o) then some .ret else o
noncomputable def we (L:List ah) (l:ah):ah:=⟨l.labs,AZ L l.ins⟩
noncomputable def wH (L:List ah) (r3 r4 r5:Nh aA):Loc:=[some (.v (lst L)),some (.v (an L)),some (.cell 0),r3,r4,r5]
noncomputable def MJ:CE:= .and [(.cmp (.var 5) .isnt (.cst .none)),(.cmp (.attr (.var 5) .name) .in_ (.callS .split (.glob [69,78,68,83]) []))]
noncomputable def Ms:CS:= .expr (.callS .append (.var 2) [(.mk .line [(.attr (.var 3) .labels),(.var 4)])])
noncomputable def MP:List CS:=[.assign 5 (.attr (.idx (.var 0) (.idx (.var 1) (.callF 5 [(.var 4)]))) .instruction),.ite MJ [.assign 4 (.var 5)] []]
noncomputable def Ld:List CS:=[.assign 4 (.attr (.var 3) .instruction),.ite (.and [(.callF 7 [(.var 4)]),(.cmp (.callF 5 [(.var 4)]) .in_ (.var 1))]) MP [],Ms]
theorem Lo (o:Nh cr):cv (run aj (n+50)) MJ (wH L r3 r4 (some (.v (aS o)))) σ=some (rX o,σ):=by
 cases o with
 |none=>kernel_rfl
 |some i=>cases i with
  |jump m t=>cases m<;>kernel_rfl
  |ret=>kernel_rfl
  |mov=>kernel_rfl
theorem IG {o:Nh cr} (hz:acc.length <1000):(run aj (n+60)).s Ms (wH L (some (.v (ay l))) (some (.v (aS o))) r5) [lst acc]=some (.next,wH L (some (.v (ay l))) (some (.v (aS o))) r5,[lst (acc++[ah.mk l.labs o])]):=by
 have:=j4 (n:=n+58) (e:= .var 2) (a:= .mk .line [(.attr (.var 3) .labels),(.var 4)]) (ρ:=wH L (some (.v (ay l))) (some (.v (aS o))) r5) (σ:=[lst acc]) (k:=0) (ws:=acc.map ay) (us:=acc.map ay) (u:=ay ⟨l.labs,o⟩) (σ1:=[lst acc]) (σ2:=[lst acc]) rfl rfl
  (cC (qL (n:=n+57) (aI (U:= .v (.tup (l.labs.map .str))) (W:= .v (aS o)) rfl rfl rfl rfl) rfl) rfl) rfl (by rw [Nl];exact Ni hz (by decide))
 rw [show (Ms)= .expr (.callS .append (.var 2) [(.mk .line [(.attr (.var 3) .labels),(.var 4)])]) from rfl,this]
 show some (fg.next,_,[V.lst (acc.map ay++[ay (ah.mk l.labs o)])])=some (fg.next,_,[V.lst ((acc++[ah.mk l.labs o]).map ay)])
 rw [NS];rfl
theorem GH (o:Nh cr):cv (run aj (n+60)) (.and [(.callF 7 [(.var 4)]),(.cmp (.callF 5 [(.var 4)]) .in_ (.var 1))]) (wH L r3 (some (.v (aS o))) r5) σ=some (og o&&(place L (bg o)).isSome,σ):=
 rq (n:=n+59) (gy (aB (n:=n+58) (us:=[aS o]) (Us:=[.v (aS o)]) rfl rfl (xT o (n+33)) rfl)) fun _=>bJ (n:=n+58) (o:= .in_) (W:= .v (an L)) (mN (n:=n+38) rfl) rfl rfl rfl vE
theorem Mq {o:Nh cr} (hp:place L (bg o)=some p) (h:L[p]? =some x):(run aj (n+60)).s (.assign 5 (.attr (.idx (.var 0) (.idx (.var 1) (.callF 5 [(.var 4)]))) .instruction)) (wH L r3 (some (.v (aS o))) r5) σ=some (.next,wH L r3 (some (.v (aS o))) (some (.v (aS x.ins))),σ):=
 aD (n:=n+59) rfl (gG (n:=n+58) (fj (n:=n+57) (cM (U:= .v (lst L)) rfl (fj (n:=n+56) (cM (U:= .v (an L)) (W:= .v (.str (bg o))) rfl (mN (n:=n+36) rfl) rfl rfl) (pn hp)) rfl rfl) (iF h)) rfl rfl) rfl
theorem Ic (o:Nh cr):∃r5',(run aj (n+61)).s (.ite (.and [(.callF 7 [(.var 4)]),(.cmp (.callF 5 [(.var 4)]) .in_ (.var 1))]) MP []) (wH L r3 (some (.v (aS o))) r5) σ=some (.next,wH L r3 (some (.v (aS (AZ L o)))) r5',σ):=by
 cases hb:(og o&&(place L (bg o)).isSome) with
 |false=>
  have:AZ L o=o:=by
   unfold AZ ut
   cases e:og o with
   |false=>rfl
   |true=>
    rw [e] at hb
    cases e2:place L (bg o) with
    |none=>rfl
    |some p=>rw [e2] at hb;cases hb
  exact ⟨r5,bc (n:=n+60) (GH o) (by rw [hb,this];rfl)⟩
 |true=>
  obtain ⟨j,q⟩:=Np.mp hb
  obtain ⟨p,hp⟩:=Og.mp q
  have lt:=fQ hp
  have h:=Nr lt
  have hw:AZ L o=bif rX L[p].ins then some .ret else o:=by
   unfold AZ ut
   rw [j,hp]
   show (bif rX (L[p]?.bind (·.ins)) then _ else _)=_
   rw [h];rfl
  refine ⟨some (.v (aS L[p].ins)),bc (n:=n+60) (GH o) ?_⟩
  rw [hb,hw]
  refine av (Mq hp h) (bk (bc (n:=n+59) (Lo (n:=n+9) _) ?_))
  cases hr:rX L[p].ins with
  |false=>rfl
  |true=>
   generalize L[p].ins=g at hr
   cases g with
   |none=>cases hr
   |some i=>cases i with
    |ret=>rfl
    |jump=>cases hr
    |mov=>cases hr
theorem Ex:∀(xs acc:List ah) r3 r4 r5,acc.length+xs.length≤1000→∃r3' r4' r5',fy (bd (run aj (n+61)) (.one 3) Ld) (xs.map ay) (wH L r3 r4 r5) [lst acc]=some (.next,wH L r3' r4' r5',[lst (acc++xs.map (we L))]):=by
 intro xs
 induction xs with
 |nil=>exact fun acc r3 r4 r5 _=>⟨r3,r4,r5,by rw [Oh,Oh,NH];rfl⟩
 |cons x xs ih=>
  intro acc r3 r4 r5 hz
  have hz:acc.length+1+xs.length≤1000:=by rw [Oq,OT 1];exact hz
  refine Nf fun nG=> ?_
  obtain ⟨s5,e⟩:=Ic (n:=n) (L:=L) (r3:=some (.v (ay x))) (r5:=r5) (σ:=[lst acc]) x.ins
  have:bd (run aj (n+61)) (.one 3) Ld (ay x) (wH L r3 r4 r5) [lst acc]=some (.next,wH L (some (.v (ay x))) (some (.v (aS (AZ L x.ins)))) s5,[lst (acc++[we L x])]):=
   show aH _ Ld (wH L (some (.v (ay x))) r4 r5) _=_ from av (aD (n:=n+60) (U:= .v (aS x.ins)) rfl rfl rfl) (av e (bk (IG (n:=n+1) (Od (OD _) (Ni (Oa _ _) hz)))))
  obtain ⟨a,b,c,e2⟩:=ih (acc++[we L x]) _ _ _ (by rw [Nj];exact hz)
  refine nG ?_
  refine ⟨a,b,c,?_⟩
  rw [NA,aQ,this,NA,Qi acc (we L x) (xs.map (we L))]
  exact e2
theorem HQ (S:bX L):l7 70 27 [lst L] (lst (L.map (we L))):=fun n=>by
 refine Nf fun nG=> ?_
 obtain ⟨a,b,c,e⟩:=Ex (n:=n+7) (L:=L) L [] none none none (by rw [RD,Om];exact S.len')
 refine nG ?_
 have s1:(run aj (n+69)).s (.assignT [(1,false),(2,true)] [(.callF 10 [(.var 0)]),(.lst [])]) [some (.v (lst L)),none,none,none,none,none] []=some (.next,wH L none none none,[lst []]):=by
  rw [iR,aK,f8,aB (n:=n+67) (us:=[lst L]) (Us:=[.v (lst L)]) rfl rfl (ja S.nodup (Ni S.labs (by decide)) (n+27)) rfl];rfl
 exact bV (n:=n+69) (fn:=mJ) (W:= .cell 0) rfl rfl (av s1 (av (gp (n:=n+68) (t:= .one 3) (it:= .seq (.var 0)) (body:=Ld) rfl e) (dY (n:=n+68) rfl))) rfl
theorem Hh (o:Nh cr):AZ L o=o∨(AZ L o=some .ret∧∃t,o=some (.jump .jmp t)):=by
 cases h:rX (ut L o) with
 |false=>exact .inl (by unfold AZ;rw [h];rfl)
 |true=>
  refine .inr ⟨by unfold AZ;rw [h];rfl,?_⟩
  unfold ut at h
  cases j:og o with
  |true=>exact oQ j
  |false=>rw [j] at h;cases h
theorem eK.map {f:ah→ah} (I:Inv P0 L) (hi:∀l,jG (f l)=jG l) (hs:∀l,(f l).ins.isSome=l.ins.isSome) (ht:∀l∈L,∀m t,(f l).ins=some (.jump m t)→t≠[]) (hw:∀l,f l=l∨wt (f l).ins <wt l.ins):eK P0 L (L.map f):=by
 have e:items (L.map f)=items L:=by
  unfold items
  rw [Vf]
  exact Nt (List.flatMap · L) (funext hi)
 have sm:lM L (L.map f):=by unfold lM;rw [OG];exact Nt (SQ · L) (funext hs)
 refine ⟨⟨by rw [e];exact I.core,sm.shape I.sh,fun l m=> ?_,sm.len▸I.len⟩,gB (by rw [e];exact Pn _),?_⟩
 ·obtain ⟨l',m',rfl⟩:=Of.mp m
  exact ht l' m'
 ·clear e sm ht I
  have le:∀l,wt (f l).ins≤wt l.ins:=fun l=>(hw l).elim (fun e=>by rw [e];exact Nz _) NP
  have:wts (L.map f)≤wts L∧(L.map f=L∨wts (L.map f) <wts L):=by
   induction L with
   |nil=>exact ⟨Nz _,.inl rfl⟩
   |cons l L ih=>
    rw [NA,bD,bD]
    refine ⟨N6 (le l) ih.1,?_⟩
    rcases hw l with h|h
    ·rcases ih.2 with q|q
     ·exact .inl (by rw [h,q])
     ·exact .inr (Nat.add_lt_add_of_le_of_lt (le l) q)
    ·exact .inr (Nat.add_lt_add_of_lt_of_le h ih.1)
  exact this.2
theorem zr (I:Inv P0 L):eK P0 L (L.map (we L)):=by
 have cases':∀l:ah,we L l=l∨((we L l).ins=some .ret∧∃t,l.ins=some (.jump .jmp t)):=fun l=>(Hh l.ins).imp (fun e=>by unfold we;rw [e]) id
 refine .map I (fun l=> ?_) (fun l=> ?_) (fun l m k t e=> ?_) fun l=> ?_
 ·rcases cases' l with h|⟨h1,t,h2⟩
  ·rw [h]
  ·unfold jG;rw [h1,h2];rfl
 ·rcases cases' l with h|⟨h1,t,h2⟩
  ·rw [h]
  ·rw [h1,h2];rfl
 ·rcases cases' l with h|⟨h1,t,h2⟩
  ·rw [h] at e;exact I.tg l m k _ e
  ·rw [h1] at e;cases e
 ·rcases cases' l with h|⟨h1,t,h2⟩
  ·exact .inl h
  ·exact .inr (by rw [h1,h2];exact OD 1)
end
section
variable {P0 P P':List Itm} {L L' A M Bt C X Y Z W:List ah} {J b0 l:ah} {a b e s i j:Nat}
theorem F7 {p q r:Itm} {W1 K W2:List Itm} (h:[p,q,r].Sublist (W1++(K++W2))) (n1:p∉W1) (n2:r∉W2):[p,q,r].Sublist K:=by
 obtain ⟨s1,s2,e,h1,h2⟩:=QX.mp h
 cases s1 with
 |cons x s1=>exact (n1 ((OO e).1.symm▸h1.mem (.head _))).elim
 |nil=>
  rw [Qm] at e
  subst e
  obtain ⟨t1,t2,e,h3,h4⟩:=QX.mp h2
  rcases Qq t2 with h|⟨t,x,h⟩
  ·rw [h,NH] at e;rw [e];exact h3
  ·rw [h,PY,←NI] at e
   have:r=x:=by
    have:=Nt List.getLast? e
    rw [Rz] at this
    exact Ng this
   exact (n2 (h4.mem (by rw [h,PY,this];exact Nx.mpr (.inr (.head _))))).elim
theorem AU {n:Nm} {x:Sg} {P:List Itm} (h: .lp n x∈P):n∈P.filterMap Itm.lp?:=Pb.mpr ⟨_,h,rfl⟩
theorem Gn {α β:Type} {f:α→Nh β} {W1 K W2:List α} {g g':α} {v:β} (hn:((W1++(K++W2)).filterMap f).Nodup) (h:g∈K) (e:f g=some v) (e':f g'=some v):g'∉W1∧g'∉W2:=by
 rw [Ow,Ow] at hn
 have m:v∈K.filterMap f:=Pb.mpr ⟨g,h,e⟩
 have hn:=OL.mp hn
 exact ⟨fun z=>hn.2.2 v (Pb.mpr ⟨g',z,e'⟩) v (Nx.mpr (.inl m)) rfl,fun z=>(OL.mp hn.2.1).2.2 v m v (Pb.mpr ⟨g',z,e'⟩) rfl⟩
theorem kQ.move (C:kQ P0 P) (hp:P'.Perm P) (h:∀n x,.lp n x∈P→ .lab x∈P→∃W1 K W2,P'=W1++(K++W2)∧K.Sublist P∧ .lp n x∈K∧ .lab x∈K):kQ P0 P' where
 labs:=(hp.filterMap _).nodup_iff.mpr C.labs
 lps:=(hp.filterMap _).nodup_iff.mpr C.lps
 call:=fun t m q=>C.call t (hp.mem_iff.mp m) (hp.mem_iff.mp q)
 old:=fun t m=>C.old t (hp.mem_iff.mp m)
 span:=fun n x w i y b=>C.span n x w i y (by
  have hm:Itm.lp n x∈P'∧Itm.lab x∈P':=b.elim (fun s=>⟨s.mem (.head _),s.mem (.tail _ (.tail _ (.head _)))⟩) fun s=>⟨s.mem (.tail _ (.tail _ (.head _))),s.mem (.head _)⟩
  refine Nf fun nG=> ?_
  obtain ⟨W1,K,W2,e,hk,k1,k2⟩:=h n x (hp.mem_iff.mp hm.1) (hp.mem_iff.mp hm.2)
  refine nG ?_
  have n1:((W1++(K++W2)).filterMap Itm.lab?).Nodup:=e▸(hp.filterMap _).nodup_iff.mpr C.labs
  have n2:((W1++(K++W2)).filterMap Itm.lp?).Nodup:=e▸(hp.filterMap _).nodup_iff.mpr C.lps
  have a1:=Gn (g:= .lab x) (g':= .lab x) n1 k2 rfl rfl
  have a2:=Gn (g:= .lp n x) (g':= .lp n x) n2 k1 rfl rfl
  rw [e] at b
  exact b.imp (fun s=>(F7 s a2.1 a1.2).trans hk) fun s=>(F7 s a1.1 a2.2).trans hk)
 mvs:=fun w i y m=>C.mvs w i y (hp.mem_iff.mp m)
 nil:=fun m=>C.nil (hp.mem_iff.mp m)
theorem kE (h:i≤j) (hj:j≤L.length):L.drop i=(L.take j).drop i++L.drop j:=by
 conv=>lhs;rw [←Qr j L]
 rw [PC (by rw [OM hj];exact h)]
theorem Do (h:L[i]? =some l):L.drop i=l::L.drop (i+1):=by
 obtain ⟨ha,q⟩:=Nq.mp h
 rw [←q,Rg]
theorem gr (h:L[s]? =some l) (h1:i≤s) (h2:s <j):l∈(L.take j).drop i:=by
 have:((L.take j).drop i)[s -i]? =some l:=by
  rw [PA,P9 h1,QI h2];exact h
 exact NF this
theorem mo (h:L[s]? =some l) (h1:i≤s):l∈L.drop i:=by
 have:(L.drop i)[s -i]? =some l:=by rw [PA,P9 h1];exact h
 exact NF this
theorem eh {g:Itm} (m:l∈X) (h:g∈jG l):g∈items X:=Pf.mpr ⟨l,m,h⟩
structure lq (L:List ah) (a b e:Nat) (J b0:ah):Prop where
 atJ:L[a]? =some J
 atB:L[b]? =some b0
 be:b≤e
 el:e+1 <L.length
 al:a+1 <L.length
 jmp:og J.ins=true
 str:∀s l n x g,L[s]? =some l→ .lp n x∈kf l.ins→place L x=some g→(b≤s∧s≤e∧b≤g∧g≤e)∨((s <b∨e <s)∧(g <b∨e <g)∧((s≤a∧g≤a)∨(a <s∧a <g)))
theorem lq.silent (B:lq L a b e J b0):jG ⟨J.labs++b0.labs,b0.ins⟩=jG J++jG b0:=by
 obtain ⟨t,h⟩:=oQ B.jmp
 unfold jG
 rw [h,NS]
 show _=(SQ Itm.lab J.labs++[])++_
 rw [NH,NI]
theorem lq.wtJ (B:lq L a b e J b0):wt J.ins=2:=by
 obtain ⟨t,h⟩:=oQ B.jmp
 rw [h];rfl
theorem lq.find (B:lq L a b e J b0) {n:Nm} {x:Sg} (h1: .lp n x∈items L) (h2: .lab x∈items L):∃s l g l',L[s]? =some l∧ .lp n x∈jG l∧L[g]? =some l'∧ .lab x∈jG l'∧((b≤s∧s≤e∧b≤g∧g≤e)∨((s <b∨e <s)∧(g <b∨e <g)∧((s≤a∧g≤a)∨(a <s∧a <g)))):=by
 refine Nf fun nG=> ?_
 obtain ⟨l,m1,m2⟩:=Pf.mp h1
 obtain ⟨s,hs⟩:=Oo.mp m1
 have m3:Itm.lp n x∈kf l.ins:=(Nx.mp m2).resolve_left fun z=>let ⟨y,_,e⟩:=Of.mp z;nomatch e
 have q:=ij (x:=x) (L:=L)
 rw [Nw (eT.mp h2)] at q
 obtain ⟨g,hg⟩:=Og.mp q.symm
 obtain ⟨l',p1,p2⟩:=iC hg
 refine nG ?_
 exact ⟨s,l,g,l',hs,m2,p1,Nx.mpr (.inl (OS p2)),B.str s l n x g hs m3 hg⟩
noncomputable def Gh (L:List ah) (a b e:Nat) (z:ah):List ah:=L.take a++(z::(L.take (e+1)).drop (b+1))++(L.take b).drop (a+1)++L.drop (e+1)
noncomputable def GI (L:List ah) (a b e:Nat) (z:ah):List ah:=L.take b++(L.take a).drop (e+1)++(z::(L.take (e+1)).drop (b+1))++L.drop (a+1)
theorem mO (h:L[i]? =some l):L.take (i+1)=L.take i++[l]:=by
 obtain ⟨ha,q⟩:=Nq.mp h
 rw [←q,List.take_append_getElem]
theorem oY (h:L[b]? =some b0) (be:b≤e):(L.take (e+1)).drop b=b0::(L.take (e+1)).drop (b+1):=
 Do (by rw [QI (O9 be)];exact h)
theorem lq.eqB (B:lq L a b e J b0) (h:a <b):L=L.take (a+1)++((L.take b).drop (a+1)++((L.take (e+1)).drop b++L.drop (e+1))):=by
 have lb:=(Nq.mp B.atB).1
 rw [←kE (PE B.be) (NP B.el),←kE h (NP lb),Qr]
theorem lq.eqF (B:lq L a b e J b0) (h:e <a):L=L.take b++((L.take (e+1)).drop b++((L.take (a+1)).drop (e+1)++L.drop (a+1))):=by
 rw [←kE (PE h) (NP B.al),←kE (PE B.be) (NP B.el),Qr]
theorem lq.itB (B:lq L a b e J b0):items (Gh L a b e ⟨J.labs++b0.labs,b0.ins⟩)=items (L.take (a+1))++(items ((L.take (e+1)).drop b)++(items ((L.take b).drop (a+1))++items (L.drop (e+1)))):=by
 unfold Gh
 rw [mO B.atJ,oY B.atB B.be,aJ,aJ,aJ,aR,aJ,aR,aR,B.silent]
 show _=(_++(jG J++[]))++_
 rw [NH]
 simp only [NI]
theorem lq.itF (B:lq L a b e J b0) (h:e <a):items (GI L a b e ⟨J.labs++b0.labs,b0.ins⟩)=items (L.take b)++(items ((L.take (a+1)).drop (e+1))++(items ((L.take (e+1)).drop b)++items (L.drop (a+1)))):=by
 have ha:=(Nq.mp B.atJ).1
 have e1:(L.take (a+1)).drop (e+1)=(L.take a).drop (e+1)++[J]:=by
  rw [mO B.atJ,PC (by rw [OM (NP ha)];exact h)]
 unfold GI
 rw [e1,oY B.atB B.be,aJ,aJ,aJ,aR,aJ,aR,aR,B.silent]
 show _=_++((_++(jG J++[]))++_)
 rw [NH]
 simp only [NI]
theorem kG (X Y Z W:List Itm):(X++(Y++(Z++W))).Perm (X++(Z++(Y++W))):=by
 refine List.Perm.append_left X ?_
 rw [←NI,←NI]
 exact List.Perm.append_right W List.perm_append_comm
theorem lq.coreB (B:lq L a b e J b0) (C:kQ P0 (items L)) (h:a <b):kQ P0 (items (Gh L a b e ⟨J.labs++b0.labs,b0.ins⟩)):=by
 have eL:items L=items (L.take (a+1))++(items ((L.take b).drop (a+1))++(items ((L.take (e+1)).drop b)++items (L.drop (e+1)))):=(Nt items (B.eqB h)).trans (by rw [aJ,aJ,aJ])
 have hp:=kG (items (L.take (a+1))) (items ((L.take (e+1)).drop b)) (items ((L.take b).drop (a+1))) (items (L.drop (e+1)))
 rw [←eL] at hp
 refine C.move (B.itB▸hp) fun n x h1 h2=> ?_
 obtain ⟨s,l,g,l',hs,m1,hg,m2,q⟩:=B.find h1 h2
 rw [B.itB]
 rcases q with ⟨q1,q2,q3,q4⟩|⟨q1,q2,⟨q3,q4⟩|⟨q3,q4⟩⟩
 ·refine ⟨_,_,_,rfl,?_,eh (gr hs q1 (O9 q2)) m1,eh (gr hg q3 (O9 q4)) m2⟩
  rw [eL]
  exact (P7 _ _).trans ((N8 _ _).trans (N8 _ _))
 ·refine ⟨[],_,_,rfl,?_,eh (gr (i:=0) hs (N5 _) (O9 q3)) m1,eh (gr (i:=0) hg (N5 _) (O9 q4)) m2⟩
  rw [eL]
  exact P7 _ _
 ·have side:∀{s l} {k:Itm},L[s]? =some l→k∈jG l→(s <b∨e <s)→a <s→k∈items ((L.take b).drop (a+1))++items (L.drop (e+1)):=fun hs m w q=>Nx.mpr (w.imp (fun w=>eh (gr hs q w) m) fun w=>eh (mo hs w) m)
  refine ⟨items (L.take (a+1))++items ((L.take (e+1)).drop b),_,[],by rw [NH,NI],?_,side hs m1 q1 q3,side hg m2 q2 q4⟩
  rw [eL]
  exact ((Pn _).append (N8 _ _)).trans (N8 _ _)
theorem lq.coreF (B:lq L a b e J b0) (C:kQ P0 (items L)) (h:e <a):kQ P0 (items (GI L a b e ⟨J.labs++b0.labs,b0.ins⟩)):=by
 have eL:items L=items (L.take b)++(items ((L.take (e+1)).drop b)++(items ((L.take (a+1)).drop (e+1))++items (L.drop (a+1)))):=(Nt items (B.eqF h)).trans (by rw [aJ,aJ,aJ])
 have hp:=kG (items (L.take b)) (items ((L.take (a+1)).drop (e+1))) (items ((L.take (e+1)).drop b)) (items (L.drop (a+1)))
 rw [←eL] at hp
 refine C.move (B.itF h▸hp) fun n x h1 h2=> ?_
 obtain ⟨s,l,g,l',hs,m1,hg,m2,q⟩:=B.find h1 h2
 rw [B.itF h]
 rcases q with ⟨q1,q2,q3,q4⟩|⟨q1,q2,⟨q3,q4⟩|⟨q3,q4⟩⟩
 ·refine ⟨items (L.take b)++items ((L.take (a+1)).drop (e+1)),_,items (L.drop (a+1)),by rw [NI],?_,eh (gr hs q1 (O9 q2)) m1,eh (gr hg q3 (O9 q4)) m2⟩
  rw [eL]
  exact (P7 _ _).trans (N8 _ _)
 ·have side:∀{s l} {k:Itm},L[s]? =some l→k∈jG l→(s <b∨e <s)→s≤a→k∈items (L.take b)++items ((L.take (a+1)).drop (e+1)):=fun hs m w q=>Nx.mpr (w.imp (fun w=>eh (gr (i:=0) hs (N5 _) w) m) fun w=>eh (gr hs w (O9 q)) m)
  refine ⟨[],_,items ((L.take (e+1)).drop b)++items (L.drop (a+1)),by rw [Qm,NI],?_,side hs m1 q1 q3,side hg m2 q2 q4⟩
  rw [eL]
  exact (Pn _).append ((P7 _ _).trans (N8 _ _))
 ·refine ⟨items (L.take b)++(items ((L.take (a+1)).drop (e+1))++items ((L.take (e+1)).drop b)),items (L.drop (a+1)),[],by rw [NH,NI,NI],?_,eh (mo hs q3) m1,eh (mo hg q4) m2⟩
  rw [eL]
  exact (N8 _ _).trans ((N8 _ _).trans (N8 _ _))
end
section
variable {P0 P P':List Itm} {L L' D:List ah} {J b0 l z:ah} {a b e s i j k:Nat}
theorem il (S:cK L) (m:l∈L.take k) (h:k <L.length):l.ins.isSome=true:=by
 obtain ⟨i,hi,q⟩:=O5 m
 rw [OM (NP h)] at hi
 obtain ⟨ls,x,e⟩:=S.row i (ND hi h)
 rw [UO] at q
 rw [Nr (Pu hi h),q] at e
 cases e;rfl
theorem pN (S:cK L) (hk:k <L.length) (hD:∀x∈D,x.ins.isSome=true):cK (D++L.drop k):=by
 obtain ⟨A,l,rfl,hl,hA⟩:=S.ex
 rw [Nj] at hk
 rw [PC (OE hk),←NI]
 exact .mk' hl fun x m=>(Nx.mp m).elim (hD x) fun m=>hA x (Os m)
theorem lq.lt (B:lq L a b e J b0):b <L.length:=ND B.be (O0 B.el)
theorem lq.b0some (B:lq L a b e J b0) (S:cK L):b0.ins.isSome=true:=by
 obtain ⟨ls,x,q⟩:=S.row b (ND (NO B.be) B.el)
 rw [B.atB] at q
 cases q;rfl
theorem lq.len2 (B:lq L a b e J b0):((L.take (e+1)).drop b).length=((L.take (e+1)).drop (b+1)).length+1:=by rw [oY B.atB B.be];rfl
theorem lq.wts2 (B:lq L a b e J b0):wts ((L.take (e+1)).drop b)=wt b0.ins+wts ((L.take (e+1)).drop (b+1)):=by rw [oY B.atB B.be,bD]
theorem sC (h:(items L').Perm (items L)):nlab L'≤nlab L:=by
 unfold nlab
 rw [←cF,←cF]
 exact NZ (h.filterMap _).length_eq
theorem lq.passB (B:lq L a b e J b0) (I:Inv P0 L) (h:a <b):eK P0 L (Gh L a b e ⟨J.labs++b0.labs,b0.ins⟩):=by
 have ha:=(Nq.mp B.atJ).1
 have eq:=B.eqB h
 have l1:=Nt PR eq
 have w1:=Nt wts eq
 rw [Nj,Nj,Nj,B.len2,OM ha] at l1
 rw [bR,bR,bR,B.wts2,mO B.atJ,bR,bD,B.wtJ] at w1
 have hp:=kG (items (L.take (a+1))) (items ((L.take (e+1)).drop b)) (items ((L.take b).drop (a+1))) (items (L.drop (e+1)))
 rw [←B.itB,←aJ,←aJ,←aJ,←eq] at hp
 refine ⟨⟨B.coreB I.core h,pN I.sh B.el fun x m=> ?_,fun x m=> ?_,?_⟩,sC hp,.inr ?_⟩
 ·rcases Nx.mp m with m|m
  ·rcases Nx.mp m with m|m
   ·exact il I.sh m ha
   ·rcases NN.mp m with rfl|m
    ·exact B.b0some I.sh
    ·exact il I.sh (Os m) B.el
  ·exact il I.sh (Os m) B.lt
 ·unfold Gh at m
  rcases Nx.mp m with m|m
  ·rcases Nx.mp m with m|m
   ·rcases Nx.mp m with m|m
    ·exact I.tg x (Pa m)
    ·rcases NN.mp m with rfl|m
     ·exact I.tg b0 (NF B.atB)
     ·exact I.tg x (Pa (Os m))
   ·exact I.tg x (Pa (Os m))
  ·exact I.tg x (Os m)
 ·refine Ni ?_ I.len
  unfold Gh
  rw [Nj,Nj,Nj,OX,OM (NP ha)]
  omega
 ·unfold Gh
  rw [bR,bR,bR,bD]
  have e0:wts ([]:List ah)=0:=rfl
  show _+(wt b0.ins+_)+_+_ <_
  omega
theorem lq.passF (B:lq L a b e J b0) (I:Inv P0 L) (h:e <a):eK P0 L (GI L a b e ⟨J.labs++b0.labs,b0.ins⟩):=by
 have ha:=(Nq.mp B.atJ).1
 have eq:=B.eqF h
 have e1:(L.take (a+1)).drop (e+1)=(L.take a).drop (e+1)++[J]:=by
  rw [mO B.atJ,PC (by rw [OM (NP ha)];exact h)]
 have l1:=Nt PR eq
 have w1:=Nt wts eq
 rw [Nj,Nj,Nj,B.len2,e1,Nj] at l1
 rw [bR,bR,bR,B.wts2,e1,bR,bD,B.wtJ] at w1
 have hp:=kG (items (L.take b)) (items ((L.take (a+1)).drop (e+1))) (items ((L.take (e+1)).drop b)) (items (L.drop (a+1)))
 rw [←B.itF h,←aJ,←aJ,←aJ,←eq] at hp
 refine ⟨⟨B.coreF I.core h,pN I.sh B.al fun x m=> ?_,fun x m=> ?_,?_⟩,sC hp,.inr ?_⟩
 ·rcases Nx.mp m with m|m
  ·rcases Nx.mp m with m|m
   ·exact il I.sh m B.lt
   ·exact il I.sh (Os m) ha
  ·rcases NN.mp m with rfl|m
   ·exact B.b0some I.sh
   ·exact il I.sh (Os m) B.el
 ·unfold GI at m
  rcases Nx.mp m with m|m
  ·rcases Nx.mp m with m|m
   ·rcases Nx.mp m with m|m
    ·exact I.tg x (Pa m)
    ·exact I.tg x (Pa (Os m))
   ·rcases NN.mp m with rfl|m
    ·exact I.tg b0 (NF B.atB)
    ·exact I.tg x (Pa (Os m))
  ·exact I.tg x (Os m)
 ·refine Ni ?_ I.len
  unfold GI
  rw [Nj,Nj,Nj,OX]
  have e2:[J].length=1:=rfl
  omega
 ·unfold GI
  rw [bR,bR,bR,bD]
  have e0:wts ([]:List ah)=0:=rfl
  show _+_+(wt b0.ins+_)+_ <_
  omega
end
section
variable {P0:List Itm} {L L':List ah} {l x:ah} {a b e s g n k:Nat} {ρ:Loc} {σ:ag} {i:cr}
noncomputable def G7:Nh Nat→V
 |some e=>ai e
 |none=> .int (-1)
noncomputable def M3:Nh Nat→fg
 |some e=> .ret (.v (ai e))
 |none=> .next
noncomputable def Du (L:List ah) (b:Nat) (r2:Nh aA):Loc:=[some (.v (lst L)),some (.v (ai b)),r2]
noncomputable def Mx:List CS:=[.ite (.not (.callF 9 [(.attr (.idx (.var 0) (.var 2)) .instruction)])) [.ret (.var 2)] []]
theorem yq {ls:List Sg} {r2:Nh aA} (h:L[a]? =some ⟨ls,some i⟩):bd (run aj (n+50)) (.one 2) Mx (ai a) (Du L b r2) []=some (bif fV i then .next else .ret (.v (ai a)),Du L b (some (.v (ai a))),[]):=by
 have q:(run aj (n+50)).s (.ite (.not (.callF 9 [(.attr (.idx (.var 0) (.var 2)) .instruction)])) [.ret (.var 2)] []) (Du L b (some (.v (ai a)))) []=some (bif fV i then .next else .ret (.v (ai a)),Du L b (some (.v (ai a))),[]):=
  bc (n:=n+49) (vL (n:=n+48) (gy (aB (n:=n+47) (us:=[aP i]) (Us:=[.v (aP i)]) (by rw [a0,lz (n:=n+44) rfl rfl h];rfl) rfl (tc i (n+17)) rfl))) (by cases fV i<;>rfl)
 show aH _ [_] (Du L b (some (.v (ai a)))) []=_
 rw [iZ];exact q
theorem Fv (S:cK L) (b:Nat):∀k a,a+k+1=L.length→∃r:Nh Nat,(∀e,r=some e→a≤e∧e <a+k)∧∀n r2,∃r2',fy (bd (run aj (n+50)) (.one 2) Mx) ((PS a k).map ai) (Du L b r2) []=some (M3 r,Du L b r2',[]):=by
 intro k
 induction k with
 |zero=>exact fun a _=>⟨none,fun _ h=>(nomatch h),fun n r2=>⟨r2,rfl⟩⟩
 |succ k ih=>
  intro a hk
  refine Nf fun nG=> ?_
  obtain ⟨ls,i,h⟩:=S.row a (by rw [←hk];exact Pq (PH (OA k)) 1)
  refine nG ?_
  cases hf:fV i with
  |false=>
   refine ⟨some a,fun e q=>by cases q;exact ⟨Nz _,PH (OA k)⟩,fun n r2=>⟨some (.v (ai a)),?_⟩⟩
   rw [Qu,NA,aQ,yq h,hf];rfl
  |true=>
   obtain ⟨r,p,q⟩:=ih (a+1) (by rw [←hk];exact Nt (· +1) (O8 a k))
   refine ⟨r,fun e h=>⟨PG (p e h).1,by have:=(p e h).2;rw [O8] at this;exact this⟩,fun n r2=> ?_⟩
   obtain ⟨r2',e2⟩:=q n (some (.v (ai a)))
   refine ⟨r2',?_⟩
   rw [Qu,NA,aQ,yq h,hf]
   exact e2
theorem wX (S:bX L) (hb:b <L.length):∃r:Nh Nat,(∀e,r=some e→b≤e∧e+1 <L.length)∧nU 60 28 [lst L,ai b] (G7 r):=by
 refine Nf fun nG=> ?_
 obtain ⟨k,hk⟩:=Nat.exists_eq_add_of_lt hb
 obtain ⟨r,p,q⟩:=Fv S.sh b k b hk.symm
 refine nG ?_
 refine ⟨r,fun e h=>⟨(p e h).1,hk▸PU (p e h).2⟩,fun n=> ?_⟩
 obtain ⟨r2,e⟩:=q (n+8) none
 have e1:(run aj (n+58)).e (.bin .sub (.callB .len [(.var 0)]) (.cst (.int 1))) (Du L b none) []=some (.v (ai (b+k)),[]):=
  bW (n:=n+57) (o:= .sub) (aI (σ1:=[]) (W:= .v (.int 1)) (uL (n:=n+55) (L:=L) rfl) rfl rfl rfl) (by rw [hk,AL _ (OA _)];rfl)
 have hi:dN (run aj (n+58)) (.range [(.var 1),(.bin .sub (.callB .len [(.var 0)]) (.cst (.int 1)))]) (Du L b none) []=some ((PS b k).map ai,[]):=by
  rw [oX,aI (U:= .v (ai b)) (σ1:=[]) rfl rfl e1 rfl]
  show (iD [ai b,ai (b+k)]).map _=_
  rw [xj (Ni (Ni (NQ _) (NZ hk.symm)) S.len') (Oa b k),QV];rfl
 have f:=gp (n:=n+58) (t:= .one 2) (body:=Mx) hi e
 refine bV (n:=n+59) (fn:=mI) (ρ:=Du L b r2) (σ2:=[]) (W:= .v (G7 r)) rfl rfl ?_ rfl
 cases r with
 |none=>exact av f rfl
 |some e=>exact d9 f rfl
noncomputable def I3 (L:List ah) (a b e:Nat) (l:ah) (s:Nat):Prop:=∀n x g,.lp n x∈kf l.ins→place L x=some g→(b≤s∧s≤e∧b≤g∧g≤e)∨((s <b∨e <s)∧(g <b∨e <g)∧((s≤a∧g≤a)∨(a <s∧a <g)))
noncomputable def wM (L:List ah) (a b e:Nat) (r5 r6 r7 r8 r9:Nh aA):Loc:=[some (.v (lst L)),some (.v (an L)),some (.v (ai a)),some (.v (ai b)),some (.v (ai e)),r5,r6,r7,r8,r9]
noncomputable def DB:Nh Nat→V
 |some g=>ai g
 |none=> .int (-1)
noncomputable def Hg:CE:= .or [(.cmp (.var 8) .lt (.cst (.int 0))),(.cmp (.callF 4 [(.attr (.var 7) .name)]) .ne (.cst (.str [98,114,97,110,99,104]))),(.cmp (.callF 6 [(.var 7)]) .ne (.cst (.str [])))]
noncomputable def FG:CE:= .or [(.cmp (.var 9) .ne (.cmp2 (.var 3) .le (.var 8) .le (.var 4))),(.and [(.not (.var 9)),(.cmp2 (.callB .min_ [(.var 5),(.var 8)]) .le (.var 2) .lt (.callB .max_ [(.var 5),(.var 8)]))])]
noncomputable def Jc:List CS:=[.assign 7 (.attr (.var 6) .instruction),
  .assign 8 (.callS .get (.var 1) [(.callF 5 [(.var 7)]),(.neg 1)]),
  .ite Hg [.cont] [],
  .assign 9 (.cmp2 (.var 3) .le (.var 5) .le (.var 4)),
  .ite FG [.ret (.cst (.bool true))] []]
variable {r5 r6 r7 r8 r9:Nh aA}
theorem FW {e1 e2 e3:CE} {x:Sg} (h1:(run aj n).e e1 ρ σ=some (.v (an L),σ)) (h2:(run aj n).e e2 ρ σ=some (.v (.str x),σ)) (h3:(run aj n).e e3 ρ σ=some (.v (.int (-1)),σ)):(run aj (n+1)).e (.callS .get e1 [e2,e3]) ρ σ=some (.v (DB (place L x)),σ):=by
 have e:G2 aj .get (an L) [.str x,.int (-1)]=some (DB (place L x)):=by
  show some ((f0 (aq L) ((cD 0 L).map ai) x).getD (.int (-1)))=_
  rw [lD]
  cases place L x with
  |none=>rfl
  |some g=>show some (ai (0+g))=some (ai g);rw [Om]
 show ((run aj n).e e1 ρ σ).bind _=_
 rw [h1]
 show (jC (run aj n) [e2,e3] ρ σ).bind _=_
 rw [aI h2 rfl h3 rfl]
 show (if some (an L)=some (an L) then (G2 aj .get (an L) [.str x,.int (-1)]).map _ else none)=_
 rw [NG rfl,e];rfl
noncomputable def Lm (i:cr):Bool:=match i with
 | .jump m _=>match m with
  | .jmp=>false
  | .call=>false
  | .jrcxz=>true
  | .loop=>true
  | .loope=>true
  | .loopne=>true
  | .je=>true
  | .jne=>true
  | .jae=>true
  | .jb=>true
 | .ret=>false
 | .mov _ _ _=>false
theorem IW (i:cr):cv (run aj (n+60)) (.cmp (.callF 4 [(.attr (.var 7) .name)]) .ne (.cst (.str [98,114,97,110,99,104]))) (wM L a b e r5 r6 (some (.v (aP i))) r8 r9) []=some (!Lm i,[]):=by
 cases i with
 |jump m t=>cases m<;>kernel_rfl
 |ret=>kernel_rfl
 |mov=>kernel_rfl
theorem IC (i:cr):cv (run aj (n+60)) (.cmp (.callF 6 [(.var 7)]) .ne (.cst (.str []))) (wM L a b e r5 r6 (some (.v (aP i))) r8 r9) []=some ((eG (some i)).isSome,[]):=
 bJ (n:=n+59) (o:= .ne) (W:= .v (.str [])) (Cv (n:=n+29) (o:=some i) rfl) rfl rfl rfl (by rw [bN,bE,tT];cases eG (some i)<;>rfl)
theorem Gu {n:Nm} {x:Sg} {i:cr} (h: .lp n x∈qH i):Lm i=true∧eG (some i)=none∧i.tgt=x:=
 nD (o:=some i) h (fun m t e1 e2 hl=>by rw [Ng e1,(Itm.lp.inj e2).2];cases m<;>first|exact ⟨rfl,rfl,rfl⟩|cases hl) (fun _ _ e=>nomatch e) fun _ _ _ _ e=>nomatch e
theorem AB {e1 e2 e3:CE} {o o':um} {x y z:V} {p q:Bool} (h1:(run aj n).e e1 ρ σ=some (.v x,σ)) (h2:(run aj n).e e2 ρ σ=some (.v y,σ)) (h3:(run aj n).e e3 ρ σ=some (.v z,σ)) (k1:gD o x y=some p) (k2:gD o' y z=some q):(run aj (n+1)).e (.cmp2 e1 o e2 o' e3) ρ σ=some (.v (.bool (p&&q)),σ):=by
 rw [i3,cQ,aI h1 rfl h2 rfl,cE,bP,k1,cE]
 cases p with
 |false=>rfl
 |true=>rw [O4,cC h3 rfl,cE,k2];rfl
theorem Fu (u v:Nat):gD .le (ai u) (ai v)=some (decide (u≤v)):=Nt some (OW.mpr UW)
theorem Lr (u v:Nat):gD .lt (ai u) (ai v)=some (decide (u <v)):=Nt some (OW.mpr Ps)
theorem C8 {e1 e2 e3:CE} {x y z:Nat} (h1:(run aj n).e e1 ρ σ=some (.v (ai x),σ)) (h2:(run aj n).e e2 ρ σ=some (.v (ai y),σ)) (h3:(run aj n).e e3 ρ σ=some (.v (ai z),σ)):(run aj (n+1)).e (.cmp2 e1 .le e2 .le e3) ρ σ=some (.v (.bool (decide (x≤y)&&decide (y≤z))),σ):=AB h1 h2 h3 (Fu x y) (Fu y z)
theorem IS {e1 e2 e3:CE} {x y z:Nat} (h1:(run aj n).e e1 ρ σ=some (.v (ai x),σ)) (h2:(run aj n).e e2 ρ σ=some (.v (ai y),σ)) (h3:(run aj n).e e3 ρ σ=some (.v (ai z),σ)):(run aj (n+1)).e (.cmp2 e1 .le e2 .lt e3) ρ σ=some (.v (.bool (decide (x≤y)&&decide (y <z))),σ):=AB h1 h2 h3 (Fu x y) (Lr y z)
theorem KI (x y:Nat):vN .min_ [ai x,ai y]=some (ai (if y <x then y else x)):=by
 show some (V.int (if (y:Int) <x then y else x))=_
 by_cases h:y <x
 ·rw [NG h,NG (Ps.mpr h)];rfl
 ·rw [NV h,NV fun z=>h (Ps.mp z)];rfl
theorem JJ (x y:Nat):vN .max_ [ai x,ai y]=some (ai (if y>x then y else x)):=by
 show some (V.int (if (y:Int)>x then y else x))=_
 by_cases h:y>x
 ·rw [NG h,NG (Ps.mpr h)];rfl
 ·rw [NV h,NV fun z=>h (Ps.mp z)];rfl
noncomputable def Lg (a b e s g:Nat):Bool:=(!(decide ((decide (b≤s)&&decide (s≤e))=(decide (b≤g)&&decide (g≤e)))))||(!(decide (b≤s)&&decide (s≤e))&&(decide ((if g <s then g else s)≤a)&&decide (a <if g>s then g else s)))
theorem CH (p q:Bool):DK (.bool p) (.bool q)=some (decide (p=q)):=by cases p<;>cases q<;>rfl
theorem FY:cv (run aj (n+60)) FG (wM L a b e (some (.v (ai s))) r6 r7 (some (.v (ai g))) (some (.v (.bool (decide (b≤s)&&decide (s≤e)))))) []=some (Lg a b e s g,[]):=
 vt (n:=n+59) (bJ (n:=n+58) (o:= .ne) (U:= .v (.bool (decide (b≤s)&&decide (s≤e)))) rfl rfl (C8 (n:=n+57) (x:=b) (y:=g) (z:=e) rfl rfl rfl) rfl (by rw [bN,CH];rfl))
  fun _=>rq (n:=n+58) (vL (n:=n+57) rfl) fun _=>gy (IS (n:=n+57) (y:=a) (eQ (n:=n+56) (us:=[ai s,ai g]) rfl (KI s g)) rfl (eQ (n:=n+56) (us:=[ai s,ai g]) rfl (JJ s g)))
theorem An (h:Lg a b e s g=false):(b≤s∧s≤e∧b≤g∧g≤e)∨((s <b∨e <s)∧(g <b∨e <g)∧((s≤a∧g≤a)∨(a <s∧a <g))):=by
 refine Nf fun nG=> ?_
 obtain ⟨h1,h2⟩:=PB.mp h
 refine nG ?_
 have h1:=Nu (sf h1)
 cases q:(decide (b≤s)&&decide (s≤e)) with
 |true=>
  have p:=Np.mp q
  have p':=Np.mp (h1.symm.trans q)
  exact .inl ⟨Nu p.1,Nu p.2,Nu p'.1,Nu p'.2⟩
 |false=>
  have out:∀{x:Nat},(decide (b≤x)&&decide (x≤e))=false→x <b∨e <x:=fun z=>(Rj.mp z).imp (fun z=>Qv (PW z)) fun z=>Qv (PW z)
  refine .inr ⟨out q,out (h1.symm.trans q),?_⟩
  rw [q] at h2
  have h2:(decide ((if g <s then g else s)≤a)&&decide (a <if g>s then g else s))=false:=h2
  by_cases z:g <s
  ·rw [NG z,NV (Nat.lt_asymm z)] at h2
   rcases Rj.mp h2 with w|w
   ·have:=Qv (PW w);exact .inr ⟨Pu this z,this⟩
   ·have:=Qw (PW w);exact .inl ⟨this,Ni (NP z) this⟩
  ·rw [NV z] at h2
   have z:=Qw z
   have e1:(if g>s then g else s)=g:=by
    by_cases w:g>s
    ·exact NG w
    ·rw [NV w];exact Td z (Qw w)
   rw [e1] at h2
   rcases Rj.mp h2 with w|w
   ·have:=Qv (PW w);exact .inr ⟨this,Od this z⟩
   ·have:=Qw (PW w);exact .inl ⟨Ni z this,this⟩
end
section
variable {P0:List Itm} {L L' A:List ah} {l x y z:ah} {a b e s g n k p:Nat} {ρ:Loc} {σ:ag} {i:cr} {r2 r3 r4 r5 r6 r7 r8 r9:Nh aA}
theorem ke {E:Ev} {p q:CE} {es:List CE} {u v:Bool} (h:cv E p ρ σ=some (u,σ)) (k:u=false→fc E false (q::es) ρ σ=some (v,σ)):fc E false (p::q::es) ρ σ=some (u||v,σ):=by
 rw [cB,h]
 cases u with
 |true=>rfl
 |false=>exact k rfl
theorem Gx {E:Ev} {p:CE} {u:Bool} (h:cv E p ρ σ=some (u,σ)):fc E false [p] ρ σ=some (u,σ):=cy false p▸h
theorem x4 {es:List CE} {u:Bool} (h:fc (run aj n) false es ρ σ=some (u,σ)):cv (run aj (n+1)) (.or es) ρ σ=some (u,σ):=by
 refine gy ?_
 rw [i3,hP,h];rfl
theorem GG (o:Nh Nat):cv (run aj (n+61)) Hg (wM L a b e r5 r6 (some (.v (aP i))) (some (.v (DB o))) r9) []=some (o.isNone||(!Lm i||(eG (some i)).isSome),[]):=
 x4 (n:=n+60) (ke (bJ (n:=n+59) (o:= .lt) (U:= .v (DB o)) (W:= .v (.int 0)) rfl rfl rfl rfl (by
  cases o with
  |none=>rfl
  |some g=>exact Nt some (NR (VE.mpr (Oi g))))) fun _=>ke (IW i) fun _=>Gx (IC i))
theorem ED {ls:List Sg} (l:ah) (s:Nat) (h:l=⟨ls,some i⟩):∃v:Bool,(v=false→I3 L a b e l s)∧∀n r5 r6 r7 r8 r9,∃o r5' r6' r7' r8' r9',bd (run aj (n+70)) (.two 5 6) Jc (pr (l,s)) (wM L a b e r5 r6 r7 r8 r9) []=some (o,wM L a b e r5' r6' r7' r8' r9',[])∧bif v then o= .ret (.v (.bool true)) else o.turns=true:=by
 subst h
 have pre:∀{n r5 r6 r7 r8 r9 r},aH (run aj (n+70)) [.ite Hg [.cont] [],.assign 9 (.cmp2 (.var 3) .le (.var 5) .le (.var 4)),.ite FG [.ret (.cst (.bool true))] []] (wM L a b e (some (.v (ai s))) (some (.v (ay ⟨ls,some i⟩))) (some (.v (aP i))) (some (.v (DB (place L i.tgt)))) r9) []=some r→bd (run aj (n+70)) (.two 5 6) Jc (pr (⟨ls,some i⟩,s)) (wM L a b e r5 r6 r7 r8 r9) []=some r:=fun {n r5 r6 r7 r8 r9 r} h=>
  show aH _ Jc (wM L a b e (some (.v (ai s))) (some (.v (ay ⟨ls,some i⟩))) r7 r8 r9) []=_ from av (aD (n:=n+69) (U:= .v (aP i)) rfl rfl rfl) (av (aD (n:=n+69) rfl (FW (n:=n+68) rfl (mN (n:=n+48) (o:=some i) rfl) rfl) rfl) h)
 cases hb:((place L i.tgt).isNone||(!Lm i||(eG (some i)).isSome)) with
 |true=>
  refine ⟨false,fun _ m x g h1 h2=> ?_,fun n r5 r6 r7 r8 r9=>⟨.cont,_,_,_,_,_,pre (d9 (bc (n:=n+69) (GG (n:=n+8) _) (by rw [hb];rfl)) rfl),rfl⟩⟩
  obtain ⟨q1,q2,q3⟩:=Gu h1
  rw [q1,q2,q3,h2] at hb
  cases hb
 |false=>
  refine Nf fun nG=> ?_
  obtain ⟨h1,h2⟩:=PB.mp hb
  obtain ⟨g,hg⟩:∃g,place L i.tgt=some g:=by
   cases q:place L i.tgt with
   |none=>rw [q] at h1;cases h1
   |some g=>exact ⟨g,rfl⟩
  refine nG ?_
  have go:∀{n r5 r6 r7 r8 r9 r},aH (run aj (n+70)) [.ite FG [.ret (.cst (.bool true))] []] (wM L a b e (some (.v (ai s))) (some (.v (ay ⟨ls,some i⟩))) (some (.v (aP i))) (some (.v (ai g))) (some (.v (.bool (decide (b≤s)&&decide (s≤e)))))) []=some r→bd (run aj (n+70)) (.two 5 6) Jc (pr (⟨ls,some i⟩,s)) (wM L a b e r5 r6 r7 r8 r9) []=some r:=fun {n r5 r6 r7 r8 r9 r} h=>
   pre (r9:=r9) (av (bc (n:=n+69) (GG (n:=n+8) _) (by rw [hb];rfl)) (by rw [hg];exact av (aD (n:=n+69) rfl (C8 (n:=n+68) (x:=b) (y:=s) (z:=e) rfl rfl rfl) rfl) h))
  refine ⟨Lg a b e s g,fun q m x g' k1 k2=> ?_,fun n r5 r6 r7 r8 r9=> ?_⟩
  ·obtain ⟨_,_,q3⟩:=Gu k1
   rw [←q3,hg] at k2
   cases k2
   exact An q
  ·cases hv:Lg a b e s g with
   |true=>exact ⟨_,_,_,_,_,_,go (d9 (bc (n:=n+69) (FY (n:=n+9)) (by rw [hv];exact dY (n:=n+68) rfl)) rfl),rfl⟩
   |false=>exact ⟨.next,_,_,_,_,_,go (bk (bc (n:=n+69) (FY (n:=n+9)) (by rw [hv];rfl))),rfl⟩
theorem Ft:∀(xs:List ah) (s:Nat),(∀l∈xs,∃i,l.ins=some i)→∃v:Bool,(v=false→∀j l,xs[j]? =some l→I3 L a b e l (s+j))∧∀n r5 r6 r7 r8 r9,∃r5' r6' r7' r8' r9',fy (bd (run aj (n+70)) (.two 5 6) Jc) ((xs.zipIdx s).map pr) (wM L a b e r5 r6 r7 r8 r9) []=some (bif v then .ret (.v (.bool true)) else .next,wM L a b e r5' r6' r7' r8' r9',[]):=by
 intro xs
 induction xs with
 |nil=>exact fun s _=>⟨false,fun _ j l h=>(nomatch h),fun n r5 r6 r7 r8 r9=>⟨_,_,_,_,_,rfl⟩⟩
 |cons l xs ih=>
  intro s hx
  refine Nf fun nG=> ?_
  obtain ⟨i,hi⟩:=hx l (.head _)
  obtain ⟨v,g1,rr⟩:=ED (L:=L) (a:=a) (b:=b) (e:=e) (i:=i) (ls:=l.labs) l s (by rw [←hi])
  refine nG ?_
  cases v with
  |true=>
   refine ⟨true,fun h=>(nomatch h),fun n r5 r6 r7 r8 r9=> ?_⟩
   refine Nf fun nG=> ?_
   obtain ⟨o,s5,s6,s7,s8,s9,e1,e2⟩:=rr n r5 r6 r7 r8 r9
   have e2:o= .ret (.v (.bool true)):=e2
   subst e2
   refine nG ?_
   refine ⟨s5,s6,s7,s8,s9,?_⟩
   rw [Qj,NA,aQ,e1];rfl
  |false=>
   refine Nf fun nG=> ?_
   obtain ⟨v,g2,rr2⟩:=ih (s+1) fun l m=>hx l (.tail _ m)
   refine nG ?_
   refine ⟨v,fun h j l' q=> ?_,fun n r5 r6 r7 r8 r9=> ?_⟩
   ·cases j with
    |zero=>cases q;exact g1 rfl
    |succ j=>
     have:=g2 h j l' q
     rw [O8] at this
     exact this
   ·obtain ⟨o,s5,s6,s7,s8,s9,e1,e2⟩:=rr n r5 r6 r7 r8 r9
    refine Nf fun nG=> ?_
    obtain ⟨t5,t6,t7,t8,t9,e3⟩:=rr2 n s5 s6 s7 s8 s9
    refine nG ?_
    refine ⟨t5,t6,t7,t8,t9,?_⟩
    have e2:o.turns=true:=e2
    rw [Qj,NA,aQ,e1]
    show (bif o.turns then _ else _)=_
    rw [e2];exact e3
theorem Ij {j:Nat} (h:ρ[j]? =some (some (.v (lst L)))):(run aj (n+3)).e (.slc (.var j) none (some (.neg 1))) ρ σ=some (.v (.lst (L.dropLast.map ay)),σ):=by
 have h1:eO (run aj (n+2)) (.var j) ρ σ=some (lst L,σ):=by
  show ((ρ[j]?.join.map _).bind _)=_
  rw [h];rfl
 show (eO (run aj (n+2)) (.var j) ρ σ).bind _=_
 rw [h1]
 show (i8 (lst L) none (some (V.int (-1)))).map (fun v=>(aA.v v,σ))=_
 rw [lst,uQ,Sk];rfl
theorem y6 (S:bX L) (a b e:Nat):∃v:Bool,(v=false→∀s l,L[s]? =some l→s+1 <L.length→I3 L a b e l s)∧nU 80 29 [lst L,an L,ai a,ai b,ai e] (.bool v):=by
 refine Nf fun nG=> ?_
 obtain ⟨v,g1,rr⟩:=Ft (L:=L) (a:=a) (b:=b) (e:=e) L.dropLast 0 S.rows
 refine nG ?_
 refine ⟨v,fun h s l q hs=> ?_,fun n=> ?_⟩
 ·have:=g1 h s l (by rw [List.getElem?_dropLast,NG (Nat.lt_sub_of_add_lt hs)];exact q)
  rw [Om] at this;exact this
 ·obtain ⟨r5,r6,r7,r8,r9,e1⟩:=rr (n+8) none none none none none
  have hi:dN (run aj (n+78)) (.enum (.slc (.var 0) none (some (.neg 1)))) (wM L a b e none none none none none) []=some ((L.dropLast.zipIdx 0).map pr,[]):=by
   rw [Dc,cC (Ij (n:=n+75) (L:=L) rfl) rfl]
   show some (jm 0 (L.dropLast.map ay),_)=_
   rw [mA]
  have f:=gp (n:=n+78) (t:= .two 5 6) (body:=Jc) hi e1
  refine bV (n:=n+79) (fn:=pG) (ρ:=wM L a b e r5 r6 r7 r8 r9) (σ2:=[]) (W:= .v (.bool v)) rfl rfl ?_ rfl
  cases v with
  |true=>exact d9 f rfl
  |false=>exact av f (dY (n:=n+78) rfl)
noncomputable def kO (L:List ah) (r2 r3 r4 r5 r6:Nh aA):Loc:=[some (.v (lst L)),some (.v (an L)),r2,r3,r4,r5,r6]
noncomputable def MK:CE:= .or [(.not (.callF 7 [(.var 3)])),(.cmp (.callF 5 [(.var 3)]) .nin (.var 1))]
noncomputable def ML:CE:= .or [(.cmp (.var 4) .eq (.cst (.int 0))),(.cmp (.var 5) .lt (.cst (.int 0))),(.cmp2 (.var 4) .le (.var 2) .le (.var 5)),(.callF 9 [(.attr (.idx (.var 0) (.bin .sub (.var 4) (.cst (.int 1)))) .instruction)])]
noncomputable def MZ:CE:= .callF 29 [(.var 0),(.var 1),(.var 2),(.var 4),(.var 5)]
noncomputable def MO:CS:= .assign 6 (.bin .add (.lst [(.mk .line [(.bin .add (.attr (.idx (.var 0) (.var 2)) .labels) (.attr (.idx (.var 0) (.var 4)) .labels)),(.attr (.idx (.var 0) (.var 4)) .instruction)])]) (.slc (.var 0) (some (.bin .add (.var 4) (.cst (.int 1)))) (some (.bin .add (.var 5) (.cst (.int 1))))))
noncomputable def K7:CE:= .bin .add (.bin .add (.bin .add (.slc (.var 0) none (some (.var 2))) (.var 6)) (.slc (.var 0) (some (.bin .add (.var 2) (.cst (.int 1)))) (some (.var 4)))) (.slc (.var 0) (some (.bin .add (.var 5) (.cst (.int 1)))) none)
noncomputable def JN:CE:= .bin .add (.bin .add (.bin .add (.slc (.var 0) none (some (.var 4))) (.slc (.var 0) (some (.bin .add (.var 5) (.cst (.int 1)))) (some (.var 2)))) (.var 6)) (.slc (.var 0) (some (.bin .add (.var 2) (.cst (.int 1)))) none)
noncomputable def Dt:List CS:=[.assign 3 (.attr (.idx (.var 0) (.var 2)) .instruction),.ite MK [.cont] [],.assign 4 (.idx (.var 1) (.callF 5 [(.var 3)])),.assign 5 (.callF 28 [(.var 0),(.var 4)]),.ite ML [.cont] [],.ite MZ [.cont] [],MO,.ite (.cmp (.var 4) .gt (.var 2)) [.ret K7] [],.ret JN]
theorem Kp (o:Nh cr):cv (run aj (n+99)) MK (kO L r2 (some (.v (aS o))) r4 r5 r6) []=some (!og o|| !(place L (bg o)).isSome,[]):=
 vt (n:=n+98) (vL (n:=n+97) (gy (aB (n:=n+96) (us:=[aS o]) (Us:=[.v (aS o)]) rfl rfl (xT o (n+71)) rfl))) fun _=>bJ (n:=n+97) (o:= .nin) (W:= .v (an L)) (mN (n:=n+77) rfl) rfl rfl rfl (Nt (Pi (!·)) vE)
theorem Mm {o:Nh cr} (hp:place L (bg o)=some p):(run aj (n+100)).s (.assign 4 (.idx (.var 1) (.callF 5 [(.var 3)]))) (kO L r2 (some (.v (aS o))) r4 r5 r6) []=some (.next,kO L r2 (some (.v (aS o))) (some (.v (ai p))) r5 r6,[]):=
 aD (n:=n+99) rfl (fj (n:=n+98) (cM (U:= .v (an L)) (W:= .v (.str (bg o))) rfl (mN (n:=n+78) rfl) rfl rfl) (pn hp)) rfl
theorem Ls {v:V} (h:nU 60 28 [lst L,ai p] v):(run aj (n+100)).s (.assign 5 (.callF 28 [(.var 0),(.var 4)])) (kO L r2 r3 (some (.v (ai p))) r5 r6) []=some (.next,kO L r2 r3 (some (.v (ai p))) (some (.v v)) r6,[]):=
 aD (n:=n+99) rfl (aB (n:=n+98) (us:=[lst L,ai p]) (Us:=[.v (lst L),.v (ai p)]) rfl rfl (h (n+38)) rfl) rfl
theorem Mi (S:cK L) (hp:p <L.length) (a:Nat) (r3:Nh aA) (r:Nh Nat):∃u:Bool,(∀n r6,cv (run aj (n+99)) ML (kO L (some (.v (ai a))) r3 (some (.v (ai p))) (some (.v (G7 r))) r6) []=some (u,[]))∧(u=false→∃e,r=some e∧1≤p∧¬(p≤a∧a≤e)):=by
 have t1:∀n r6,cv (run aj (n+98)) (.cmp (.var 4) .eq (.cst (.int 0))) (kO L (some (.v (ai a))) r3 (some (.v (ai p))) (some (.v (G7 r))) r6) []=some (decide ((p:Int)=0),[]):=fun n r6=>bJ (n:=n+97) (o:= .eq) (U:= .v (ai p)) (W:= .v (.int 0)) rfl rfl rfl rfl (bh _ _)
 have t2:∀n r6,cv (run aj (n+98)) (.cmp (.var 5) .lt (.cst (.int 0))) (kO L (some (.v (ai a))) r3 (some (.v (ai p))) (some (.v (G7 r))) r6) []=some (r.isNone,[]):=fun n r6=>bJ (n:=n+97) (o:= .lt) (U:= .v (G7 r)) (W:= .v (.int 0)) rfl rfl rfl rfl (by
  cases r with
  |none=>rfl
  |some g=>exact Nt some (NR (VE.mpr (Oi g))))
 cases p with
 |zero=>exact ⟨true,fun n r6=>x4 (n:=n+98) (ke (v:=true) (t1 n r6) fun h=>(nomatch h)),fun h=>nomatch h⟩
 |succ p=>
  rw [show decide (((p+1:Nat):Int)=0)=false from NR (T3.mpr (SR p))] at t1
  cases r with
  |none=>exact ⟨true,fun n r6=>x4 (n:=n+98) (ke (t1 n r6) fun _=>ke (v:=true) (t2 n r6) fun h=>(nomatch h)),fun h=>nomatch h⟩
  |some e=>
   refine Nf fun nG=> ?_
   obtain ⟨ls,i,hr⟩:=S.row p hp
   refine nG ?_
   have t4:∀n r6,cv (run aj (n+98)) (.callF 9 [(.attr (.idx (.var 0) (.bin .sub (.var 4) (.cst (.int 1)))) .instruction)]) (kO L (some (.v (ai a))) r3 (some (.v (ai (p+1)))) (some (.v (ai e))) r6) []=some (fV i,[]):=fun n r6=>by
    have e1:(run aj (n+97)).e (.attr (.idx (.var 0) (.bin .sub (.var 4) (.cst (.int 1)))) .instruction) (kO L (some (.v (ai a))) r3 (some (.v (ai (p+1)))) (some (.v (ai e))) r6) []=some (.v (aP i),[]):=
     gG (n:=n+96) (fj (n:=n+95) (cM (U:= .v (lst L)) (W:= .v (ai p)) rfl (bW (n:=n+94) (o:= .sub) (l:= .var 4) (r:= .cst (.int 1)) (x:=ai (p+1)) (y:= .int 1) rfl (AL _ (OA p))) rfl rfl) (iF hr)) rfl rfl
    exact gy (aB (n:=n+97) (us:=[aP i]) (Us:=[.v (aP i)]) (by rw [a0,e1];rfl) rfl (tc i (n+67)) rfl)
   refine ⟨_,fun n r6=>x4 (n:=n+98) (ke (t1 n r6) fun _=>ke (t2 n r6) fun _=>ke (gy (C8 (n:=n+97) (x:=p+1) (y:=a) (z:=e) rfl rfl rfl)) fun _=>Gx (t4 n r6)),fun h=>⟨e,rfl,OA p,fun q=> ?_⟩⟩
   rw [Nw q.1,Nw q.2] at h
   cases h
end
section
variable {P0:List Itm} {L L' A:List ah} {l x y z:ah} {a b e s g n k p:Nat} {ρ:Loc} {σ:ag} {i:cr} {r2 r3 r4 r5 r6:Nh aA}
theorem xP {e1:CE} (h0:(run aj (n+1)).e (.var 0) ρ σ=some (.v (lst L),σ)) (h1:(run aj (n+1)).e e1 ρ σ=some (.v (ai a),σ)) (ha:a≤L.length):(run aj (n+2)).e (.slc (.var 0) none (some e1)) ρ σ=some (.v (lst (L.take a)),σ):=by
 rw [i3,dW,cC h0 rfl]
 show (NK (Pi _ (eO _ e1 ρ σ)) _)=_
 rw [cC h1 rfl]
 show (i8 (lst L) none (some (ai a))).map (fun v=>(aA.v v,σ))=_
 rw [tz ha];rfl
theorem rA {e1:CE} (h0:(run aj (n+1)).e (.var 0) ρ σ=some (.v (lst L),σ)) (h1:(run aj (n+1)).e e1 ρ σ=some (.v (ai a),σ)) (ha:a≤L.length):(run aj (n+2)).e (.slc (.var 0) (some e1) none) ρ σ=some (.v (lst (L.drop a)),σ):=by
 rw [i3,dW,cC h0 rfl]
 show (NK (Pi _ (eO _ e1 ρ σ)) _)=_
 rw [cC h1 rfl]
 show (i8 (lst L) (some (ai a)) none).map (fun v=>(aA.v v,σ))=_
 rw [lX ha];rfl
theorem tl {e1 e2:CE} (h0:(run aj (n+1)).e (.var 0) ρ σ=some (.v (lst L),σ)) (h1:(run aj (n+1)).e e1 ρ σ=some (.v (ai a),σ)) (h2:(run aj (n+1)).e e2 ρ σ=some (.v (ai b),σ)) (ha:a≤L.length) (hb:b≤L.length):(run aj (n+2)).e (.slc (.var 0) (some e1) (some e2)) ρ σ=some (.v (lst ((L.take b).drop a)),σ):=by
 rw [i3,dW,cC h0 rfl]
 show (NK (Pi _ (eO _ e1 ρ σ)) _)=_
 rw [cC h1 rfl]
 show (NK (Pi _ (eO _ e2 ρ σ)) _)=_
 rw [cC h2 rfl]
 show (i8 (lst L) (some (ai a)) (some (ai b))).map (fun v=>(aA.v v,σ))=_
 rw [Ho ha hb];rfl
theorem mW {e1 e2:CE} {A B:List ah} (h1:(run aj n).e e1 ρ σ=some (.v (lst A),σ)) (h2:(run aj n).e e2 ρ σ=some (.v (lst B),σ)) (hA:A.length≤1000) (hB:B.length≤1000):(run aj (n+1)).e (.bin .add e1 e2) ρ σ=some (.v (lst (A++B)),σ):=
 bW (o:= .add) (aI h1 rfl h2 rfl) (qd (Ni (N6 hA hB) (by decide)))
theorem wQ (S:bX L) (h:L[a]? =some x):x.labs.length≤100:=by
 have:=S.labs
 rw [gQ h,jc,Nj] at this
 have e:aq (x::L.drop (a+1))=x.labs++aq (L.drop (a+1)):=rfl
 rw [e,Nj] at this
 exact Ni (Oa _ _) (Ni (P4 _ _) this)
theorem gM (i j:Nat) (S:bX L):((L.take j).drop i).length≤20:=Ni (NZ O2) (Ni (Qt _ _) (Ni (RA _ _) S.len))
noncomputable def tL (L:List ah) (p e:Nat) (z:ah):List ah:=z::(L.take (e+1)).drop (p+1)
theorem Lp (S:bX L) (hx:L[a]? =some x) (hy:L[p]? =some y) (he:e+1 <L.length) (pe:p≤e):(run aj (n+100)).s MO (kO L (some (.v (ai a))) r3 (some (.v (ai p))) (some (.v (ai e))) r6) []=
  some (.next,kO L (some (.v (ai a))) r3 (some (.v (ai p))) (some (.v (ai e))) (some (.v (lst (tL L p e ⟨x.labs++y.labs,y.ins⟩)))),[]):=by
 have m:(run aj (n+97)).e (.mk .line [(.bin .add (.attr (.idx (.var 0) (.var 2)) .labels) (.attr (.idx (.var 0) (.var 4)) .labels)),(.attr (.idx (.var 0) (.var 4)) .instruction)]) (kO L (some (.v (ai a))) r3 (some (.v (ai p))) (some (.v (ai e))) r6) []=some (.v (ay ⟨x.labs++y.labs,y.ins⟩),[]):=
  qL (n:=n+96) (aI (bW (n:=n+95) (o:= .add) (aI (gG (n:=n+94) (uT (n:=n+92) rfl rfl hx) rfl rfl) rfl (gG (n:=n+94) (uT (n:=n+92) rfl rfl hy) rfl rfl) rfl) (GQ (Ni (N6 (wQ S hx) (wQ S hy)) (by decide)))) rfl (lz (n:=n+93) rfl rfl hy) rfl) rfl
 have b1:(run aj (n+98)).e (.lst [(.mk .line [(.bin .add (.attr (.idx (.var 0) (.var 2)) .labels) (.attr (.idx (.var 0) (.var 4)) .labels)),(.attr (.idx (.var 0) (.var 4)) .instruction)])]) (kO L (some (.v (ai a))) r3 (some (.v (ai p))) (some (.v (ai e))) r6) []=some (.own (lst [⟨x.labs++y.labs,y.ins⟩]),[]):=by
  rw [i3,d6,et,a0,m];rfl
 have b2:=tl (n:=n+96) (L:=L) (ρ:=kO L (some (.v (ai a))) r3 (some (.v (ai p))) (some (.v (ai e))) r6) (σ:=[]) rfl (fU (n:=n+95) (i:=4) rfl 1) (fU (n:=n+95) (i:=5) rfl 1) (Ni (NO pe) (NP he)) (NP he)
 exact aD (n:=n+99) rfl (bW (n:=n+98) (o:= .add) (aI b1 rfl b2 rfl) (qd (A:=[⟨x.labs++y.labs,y.ins⟩]) (Ni (NT (gM _ _ S) 1) (by decide)))) rfl
theorem Kj (S:bX L) (ha:a+1 <L.length) (hp:p <L.length) (he:e+1 <L.length):(run aj (n+98)).e K7 (kO L (some (.v (ai a))) r3 (some (.v (ai p))) (some (.v (ai e))) (some (.v (lst (tL L p e z))))) []=some (.v (lst (Gh L a p e z)),[]):=by
 have hb:(tL L p e z).length≤21:=NO (gM _ _ S)
 have h1:(L.take a).length≤20:=Ni (RA _ _) S.len
 refine mW (n:=n+97) (A:=L.take a++tL L p e z++(L.take p).drop (a+1)) (mW (n:=n+96) (A:=L.take a++tL L p e z) (mW (n:=n+95) (A:=L.take a) (xP (n:=n+93) rfl rfl (NP (O0 ha))) rfl (Ni h1 (by decide)) (Ni hb (by decide)))
  (tl (n:=n+94) rfl (fU (n:=n+93) (i:=2) rfl 1) rfl (NP ha) (NP hp)) ?_ (Ni (gM _ _ S) (by decide))) (rA (n:=n+95) rfl (fU (n:=n+94) (i:=5) rfl 1) (NP he)) ?_ ?_
 ·rw [Nj];exact Ni (N6 h1 hb) (by decide)
 ·rw [Nj,Nj];exact Ni (N6 (N6 h1 hb) (gM _ _ S)) (by decide)
 ·exact Ni (NZ O2) (Ni (Qt _ _) S.len')
theorem JX (S:bX L) (ha:a+1 <L.length) (hp:p <L.length) (he:e+1 <L.length):(run aj (n+99)).e JN (kO L (some (.v (ai a))) r3 (some (.v (ai p))) (some (.v (ai e))) (some (.v (lst (tL L p e z))))) []=some (.v (lst (GI L a p e z)),[]):=by
 have hb:(tL L p e z).length≤21:=NO (gM _ _ S)
 have h1:(L.take p).length≤20:=Ni (RA _ _) S.len
 refine mW (n:=n+98) (A:=L.take p++(L.take a).drop (e+1)++tL L p e z) (mW (n:=n+97) (A:=L.take p++(L.take a).drop (e+1)) (mW (n:=n+96) (A:=L.take p) (xP (n:=n+94) rfl rfl (NP hp)) (tl (n:=n+94) rfl (fU (n:=n+93) (i:=5) rfl 1) rfl (NP he) (NP (O0 ha))) (Ni h1 (by decide)) (Ni (gM _ _ S) (by decide)))
  rfl ?_ (Ni hb (by decide))) (rA (n:=n+96) rfl (fU (n:=n+95) (i:=2) rfl 1) (NP ha)) ?_ ?_
 ·rw [Nj];exact Ni (N6 h1 (gM _ _ S)) (by decide)
 ·rw [Nj,Nj];exact Ni (N6 (N6 h1 (gM _ _ S)) hb) (by decide)
 ·exact Ni (NZ O2) (Ni (Qt _ _) S.len')
noncomputable def Jp:Nh (List ah)→fg→Prop
 |none,o=>o.turns=true
 |some L',o=>o= .ret (.v (lst L'))
noncomputable def AY (L:List ah) (a:Nat) (r:Nh (List ah)):Prop:=∀n r2 r3 r4 r5 r6,∃o r3' r4' r5' r6',bd (run aj (n+100)) (.one 2) Dt (ai a) (kO L r2 r3 r4 r5 r6) []=some (o,kO L (some (.v (ai a))) r3' r4' r5' r6',[])∧Jp r o
noncomputable def qC (P0:List Itm) (L:List ah) (a:Nat):Prop:=∃r:Nh (List ah),(∀L',r=some L'→eK P0 L L')∧AY L a r
theorem qC.on (h:AY L a none):qC P0 L a:=⟨none,fun _ h=>(nomatch h),h⟩
theorem qC.to (p:eK P0 L L') (h:AY L a (some L')):qC P0 L a:=⟨some L',fun _ h=>Ng h▸p,h⟩
theorem Ey (I:Inv P0 L) (hn:nlab L≤100) (ha:a+1 <L.length):qC P0 L a:=by
 have S:=I.small hn
 have hx:=Nr (O0 ha)
 generalize L[a]=x at hx
 have go1:∀{n r2 r3 r4 r5 r6 r},aH (run aj (n+100)) (Dt.drop 1) (kO L (some (.v (ai a))) (some (.v (aS x.ins))) r4 r5 r6) []=some r→bd (run aj (n+100)) (.one 2) Dt (ai a) (kO L r2 r3 r4 r5 r6) []=some r:=fun {n r2 r3 r4 r5 r6 r} h=>av (aD (n:=n+99) rfl (lz (n:=n+96) rfl rfl hx) rfl) h
 cases ht:(!og x.ins|| !(place L (bg x.ins)).isSome) with
 |true=>exact .on fun n r2 r3 r4 r5 r6=>⟨.cont,_,_,_,_,go1 (d9 (bc (n:=n+99) (Kp x.ins) (by rw [ht];rfl)) rfl),rfl⟩
 |false=>
  obtain ⟨j,q⟩:=PB.mp ht
  have j:=sf j
  obtain ⟨p,hp⟩:=Og.mp (sf q)
  have lp:=fQ hp
  have hy:=Nr lp
  generalize L[p]=y at hy
  obtain ⟨r,re,hr⟩:=wX S lp
  have go2:∀{n r2 r3 r4 r5 r6 w},aH (run aj (n+100)) (Dt.drop 4) (kO L (some (.v (ai a))) (some (.v (aS x.ins))) (some (.v (ai p))) (some (.v (G7 r))) r6) []=some w→bd (run aj (n+100)) (.one 2) Dt (ai a) (kO L r2 r3 r4 r5 r6) []=some w:=fun {n r2 r3 r4 r5 r6 w} h=>
   go1 (av (bc (n:=n+99) (Kp x.ins) (by rw [ht];rfl)) (av (Mm hp) (av (Ls hr) h)))
  obtain ⟨u,hu,hu2⟩:=Mi I.sh lp a (some (.v (aS x.ins))) r
  cases u with
  |true=>exact .on fun n r2 r3 r4 r5 r6=>⟨.cont,_,_,_,_,go2 (d9 (bc (n:=n+99) (hu n _) rfl) rfl),rfl⟩
  |false=>
   obtain ⟨e,he,_,no⟩:=hu2 rfl
   subst he
   obtain ⟨pe,el⟩:=re e rfl
   obtain ⟨v,gv,hv⟩:=y6 S a p e
   have go3:∀{n r2 r3 r4 r5 r6 w},aH (run aj (n+100)) (Dt.drop 5) (kO L (some (.v (ai a))) (some (.v (aS x.ins))) (some (.v (ai p))) (some (.v (ai e))) r6) []=some w→bd (run aj (n+100)) (.one 2) Dt (ai a) (kO L r2 r3 r4 r5 r6) []=some w:=fun {n r2 r3 r4 r5 r6 w} h=>
    go2 (av (bc (n:=n+99) (hu n _) rfl) h)
   have tw:∀n r6,cv (run aj (n+99)) MZ (kO L (some (.v (ai a))) (some (.v (aS x.ins))) (some (.v (ai p))) (some (.v (ai e))) r6) []=some (v,[]):=fun n r6=>
    gy (aB (n:=n+98) (us:=[lst L,an L,ai a,ai p,ai e]) (Us:=[.v (lst L),.v (an L),.v (ai a),.v (ai p),.v (ai e)]) rfl rfl (hv (n+18)) rfl)
   cases v with
   |true=>exact .on fun n r2 r3 r4 r5 r6=>⟨.cont,_,_,_,_,go3 (d9 (bc (n:=n+99) (tw n _) rfl) rfl),rfl⟩
   |false=>
    have B:lq L a p e x y:=⟨hx,hy,pe,el,ha,j,fun s l m x g q k1 k2=>gv rfl s l q (by
     obtain ⟨ls,o⟩:=l
     cases o with
     |none=>cases k1
     |some i=>exact I.sh.next q) m x g k1 k2⟩
    have gt:∀n r6 bb,decide (a <p)=bb→cv (run aj (n+99)) (.cmp (.var 4) .gt (.var 2)) (kO L (some (.v (ai a))) (some (.v (aS x.ins))) (some (.v (ai p))) (some (.v (ai e))) r6) []=some (bb,[]):=fun n r6 bb h=>
     bJ (n:=n+98) (o:= .gt) (U:= .v (ai p)) (W:= .v (ai a)) rfl rfl rfl rfl (by rw [←h];exact Nt some (OW.mpr Ps))
    have go4:∀{n r2 r3 r4 r5 r6 w},aH (run aj (n+100)) (Dt.drop 7) (kO L (some (.v (ai a))) (some (.v (aS x.ins))) (some (.v (ai p))) (some (.v (ai e))) (some (.v (lst (tL L p e ⟨x.labs++y.labs,y.ins⟩))))) []=some w→bd (run aj (n+100)) (.one 2) Dt (ai a) (kO L r2 r3 r4 r5 r6) []=some w:=fun {n r2 r3 r4 r5 r6 w} h=>
     go3 (r6:=r6) (av (bc (n:=n+99) (tw n _) rfl) (av (Lp S hx hy el pe) h))
    by_cases z:a <p
    ·exact .to (B.passB I z) fun n r2 r3 r4 r5 r6=>⟨_,_,_,_,_,go4 (d9 (bc (n:=n+99) (gt n _ true (Nw z)) (dY (n:=n+98) (Kj S ha lp el))) rfl),rfl⟩
    ·have z2:e <a:=Qv fun w=>no ⟨Qw z,w⟩
     exact .to (B.passF I z2) fun n r2 r3 r4 r5 r6=>⟨_,_,_,_,_,go4 (av (bc (n:=n+99) (gt n _ false (NR z)) rfl) (dY (n:=n+99) (JX S ha lp el))),rfl⟩
theorem Fz (I:Inv P0 L) (hn:nlab L≤100):∀k a,a+k+1=L.length→∃r:Nh (List ah),(∀L',r=some L'→eK P0 L L')∧∀n r2 r3 r4 r5 r6,∃o r2' r3' r4' r5' r6',fy (bd (run aj (n+100)) (.one 2) Dt) ((PS a k).map ai) (kO L r2 r3 r4 r5 r6) []=some (o,kO L r2' r3' r4' r5' r6',[])∧(match r with|none=>o= .next|some L'=>o= .ret (.v (lst L'))):=by
 intro k
 induction k with
 |zero=>exact fun a _=>⟨none,fun _ h=>(nomatch h),fun n r2 r3 r4 r5 r6=>⟨.next,_,_,_,_,_,rfl,rfl⟩⟩
 |succ k ih=>
  intro a hk
  refine Nf fun nG=> ?_
  obtain ⟨r,p,q⟩:=Ey I hn (a:=a) (by rw [←hk];exact Pq (PH (OA k)) 1)
  refine nG ?_
  cases r with
  |some L'=>
   refine ⟨some L',p,fun n r2 r3 r4 r5 r6=> ?_⟩
   refine Nf fun nG=> ?_
   obtain ⟨o,s3,s4,s5,s6,e1,e2⟩:=q n r2 r3 r4 r5 r6
   have e2:o= .ret (.v (lst L')):=e2
   subst e2
   refine nG ?_
   refine ⟨.ret (.v (lst L')),some (.v (ai a)),s3,s4,s5,s6,?_,rfl⟩
   rw [Qu,NA,aQ,e1];rfl
  |none=>
   obtain ⟨r,p2,q2⟩:=ih (a+1) (by rw [←hk];exact Nt (· +1) (O8 a k))
   refine ⟨r,p2,fun n r2 r3 r4 r5 r6=> ?_⟩
   refine Nf fun nG=> ?_
   obtain ⟨o,s3,s4,s5,s6,e1,e2⟩:=q n r2 r3 r4 r5 r6
   obtain ⟨o2,t2,t3,t4,t5,t6,e3,e4⟩:=q2 n (some (.v (ai a))) s3 s4 s5 s6
   refine nG ?_
   have e2:o.turns=true:=e2
   refine ⟨o2,t2,t3,t4,t5,t6,?_,e4⟩
   rw [Qu,NA,aQ,e1]
   show (bif o.turns then _ else _)=_
   rw [e2];exact e3
theorem vx (I:Inv P0 L) (hn:nlab L≤100):∃L',nU 110 30 [lst L] (lst L')∧eK P0 L L':=by
 have S:=I.small hn
 refine Nf fun nG=> ?_
 obtain ⟨k,hk⟩:∃k,L.length=k+1:=N9 (Px I.sh.pos)
 obtain ⟨r,p,q⟩:=Fz I hn k 0 (by rw [Om,hk])
 refine nG ?_
 have s1:∀n,(run aj (n+109)).s (.assign 1 (.callF 10 [(.var 0)])) [some (.v (lst L)),none,none,none,none,none,none] []=some (.next,kO L none none none none none,[]):=fun n=>
  aD (n:=n+108) rfl (aB (n:=n+107) (us:=[lst L]) (Us:=[.v (lst L)]) rfl rfl (ja S.nodup (Ni S.labs (by decide)) (n+67)) rfl) rfl
 refine ⟨r.getD L,fun n=> ?_,?_⟩
 ·obtain ⟨o,s2,s3,s4,s5,s6,e1,e2⟩:=q (n+8) none none none none none
  have f:=gp (n:=n+108) (t:= .one 2) (body:=Dt) (GE (n:=n+105) rfl hk S.len') e1
  refine bV (n:=n+109) (fn:=j0) (ρ:=kO L s2 s3 s4 s5 s6) (σ2:=[]) (W:= .v (lst (r.getD L))) rfl rfl ?_ rfl
  cases r with
  |none=>have e2:o= .next:=e2;subst e2;exact av (s1 n) (av f (dY (n:=n+108) rfl))
  |some L'=>have e2:o= .ret (.v (lst L')):=e2;subst e2;exact av (s1 n) (d9 f rfl)
 ·cases r with
  |none=>exact .refl I
  |some L'=>exact p L' rfl
end
section
variable {P0:List Itm} {L L' L2:List ah} {l x y z:ah} {n j:Nat}
theorem uj (us:List Sg):(L.map (lW us)).map (·.ins)=L.map (·.ins):=by rw [OG];rfl
theorem zC (h:L'.map (·.ins)=L.map (·.ins)):named L'=named L:=by
 have e:∀L:List ah,named L=(L.map (·.ins)).dropLast.flatMap BX:=fun L=>by rw [←Sk,Vf];rfl
 rw [e,e,h]
theorem CJ (h:L'.map (·.ins)=L.map (·.ins)):used L'=used L:=by
 have e:∀L:List ah,(L.map fun l=>bg l.ins)=(L.map (·.ins)).map bg:=fun L=>by rw [OG];rfl
 unfold used
 rw [zC h,e,e,h]
theorem yS:used (kept L)=used L:=CJ (uj _)
theorem m7:kept (kept L)=kept L:=by
 show (kept L).map (lW (used (kept L)))=kept L
 rw [yS]
 unfold kept
 rw [OG]
 refine Pz fun l _=> ?_
 show ah.mk ((l.labs.filter _).filter _) l.ins=ah.mk (l.labs.filter _) l.ins
 rw [List.filter_filter]
 simp only [Bool.and_self]
theorem rE:lM L (kept L):=by
 unfold lM kept
 rw [OG];rfl
theorem p8:(items (kept L)).Sublist (items L):=by
 unfold kept
 generalize used L=us
 induction L with
 |nil=>exact .slnil
 |cons l L ih=>
  rw [NA,aR,aR]
  exact (((T0 (p:=fun x=>decide (x∈us))).map Itm.lab).append (Pn _)).append ih
theorem u7:wts (kept L)=wts L:=by
 unfold wts kept
 rw [OG];rfl
theorem Al (m:l∈L):bg l.ins∈used L:=Nx.mpr (.inr (OS m))
theorem v3 {x:Sg} (us:List Sg) (h:x∈us):place (L.map (lW us)) x=place L x:=by
 induction L with
 |nil=>rfl
 |cons l L ih=>
  show (if x∈l.labs.filter (fun x=>decide (x∈us)) then some 0 else _)=if x∈l.labs then some 0 else _
  rw [ih]
  by_cases m:x∈l.labs
  ·rw [NG m,NG (QM.mpr ⟨m,Nw h⟩)]
  ·rw [NV m,NV fun z=>m (QM.mp z).1]
theorem vQ:iK L (kept L) where
 ins:=fun j=>by
  have:=Nt (·[j]?) (uj (L:=L) (used L))
  simp only [OF] at this
  unfold kept
  rw [OF];exact this
 plc:=fun l m=>v3 _ (Al m)
theorem iK.fixed (A:iK L L') (f:iz L j):iz L' j:=fun ls m t p q hl hp=>by
 have:=A.ins j
 rw [q] at this
 cases e:L[j]? with
 |none=>rw [e] at this;cases this
 |some l=>
  rw [e] at this
  obtain ⟨ls3,o⟩:=l
  have z:some (cr.jump m t)=o:=Ng this
  subst z
  rw [A.fol]
  exact f _ _ _ _ e hl ((A.plc _ (NF e)).symm.trans hp)
theorem Inv.kept (I:Inv P0 L):Inv P0 (kept L):=
 ⟨I.core.sub p8,rE.shape I.sh,fun l m=>by obtain ⟨l',m',rfl⟩:=Of.mp m;exact I.tg l' m',Ni (NZ rE.len) I.len⟩
theorem rJ (I:Inv P0 L):nlab (kept L)≤40:=by
 have h:=Ro (I.kept.nodup) fun x m=>by
  obtain ⟨l,m1,m2⟩:=Pf.mp m
  obtain ⟨l',_,rfl⟩:=Of.mp m1
  exact Nu (QM.mp m2).2
 refine Ni h ?_
 unfold used
 rw [Nj,Nl]
 exact N6 (Ni (jr L) I.len) I.len
theorem Inv.sz (I:Inv P0 L) (hn:nlab L≤100):Sz L:=
 ⟨Ni I.len (by decide),fun l m=>by
  obtain ⟨i,hi,e⟩:=O5 m
  exact Ni (wQ (I.small hn) (a:=i) (by rw [Nr hi,e])) (by decide),Ni (jr L) (Ni I.len (by decide))⟩
theorem lS (I:Inv P0 L) (hn:nlab L≤100):l7 60 20 [lst L,.tup []] (lst (kept L)):=Io (I.small hn).rows (I.sz hn)
structure yN (P0:List Itm) (L L':List ah):Prop where
 inv:Inv P0 L'
 nlab:nlab L'≤nlab L
 or:wts L' <wts L∨(wts L'=wts L∧Internal.kept L'=Internal.kept L)
theorem eK.weak (p:eK P0 L L'):yN P0 L L':=⟨p.inv,p.nlab,p.or.elim (fun e=> .inr (by rw [e];exact ⟨rfl,rfl⟩)) .inl⟩
theorem yN.trans (p:yN P0 L L') (q:yN P0 L' L2):yN P0 L L2:=⟨q.inv,Ni q.nlab p.nlab,by
 rcases p.or with a|⟨a,b⟩
 ·rcases q.or with c|⟨c,d⟩
  ·exact .inl (Pu c a)
  ·exact .inl (c▸a)
 ·rcases q.or with c|⟨c,d⟩
  ·exact .inl (a▸c)
  ·exact .inr ⟨c.trans a,d.trans b⟩⟩
theorem Inv.weak (I:Inv P0 L):yN P0 L (Internal.kept L):=⟨I.kept,gB p8,.inr ⟨u7,m7⟩⟩
structure Cd (P0:List Itm) (L L':List ah):Prop where
 inv:Inv P0 L'
 kept:kept L'=L'
 or:wts L' <wts L∨(wts L'=wts L∧(∀j,iz L' j)∧((∀j,iz L j)→L'=L))
theorem yj (I:Inv P0 L) (K:kept L=L):∃L',l7 180 31 [lst L,.tup []] (lst L')∧Cd P0 L L':=by
 have hL:nlab L≤40:=K▸rJ I
 refine Nf fun nG=> ?_
 obtain ⟨L1,r1,R,F⟩:=tX I (Ni (N6 hL I.len) (by decide))
 have n1:nlab L1≤100:=Ni R.nlab (Ni (N6 hL I.len) (by decide))
 have w2:=(oy R.inv).weak
 have n2:=Ni w2.nlab n1
 have w3:=w2.inv.weak
 have n3:=Ni w3.nlab n2
 obtain ⟨L4,r4,p4⟩:=yP w3.inv n3
 have w4:=p4.weak
 have n4:=Ni w4.nlab n3
 have w5:=w4.inv.weak
 have n5:=Ni w5.nlab n4
 obtain ⟨L6,r6,p6⟩:=Bw w5.inv n5
 have w6:=p6.weak
 have n6:=Ni w6.nlab n5
 obtain ⟨L7,r7,p7⟩:=Hd w6.inv n6
 have w7:=p7.weak
 have n7:=Ni w7.nlab n6
 have w8:=(zr w7.inv).weak
 have n8:=Ni w8.nlab n7
 have w9:=(oy w8.inv).weak
 have n9:=Ni w9.nlab n8
 obtain ⟨L10,r10,p10⟩:=vx w9.inv n9
 refine nG ?_
 have I9:=p10.weak
 have n10:=Ni I9.nlab n9
 have W:=w2.trans (w3.trans (w4.trans (w5.trans (w6.trans (w7.trans (w8.trans (w9.trans I9)))))))
 refine ⟨Internal.kept L10,fun n=> ?_,I9.inv.kept,m7,?_⟩
 ·have st:∀{e:CE} {A B:V} {U:aA},(run aj (n+178)).e e [some (.v A),some (.v (.tup []))] []=some (U,[])→U.toV=some B→e.comp?=none→(run aj (n+179)).s (.assign 0 e) [some (.v A),some (.v (.tup []))] []=some (.next,[some (.v B),some (.v (.tup []))],[]):=fun h k hc=>aD (n:=n+178) hc h k
  have e1:(run aj (n+178)).e (.callF 22 [(.callF 18 [(.var 0),(.var 1)]),(.var 1)]) [some (.v (lst L)),some (.v (.tup []))] []=some (.own (lst (gC L1)),[]):=
   aB (n:=n+177) (us:=[lst L1,.tup []]) (Us:=[.v (lst L1),.v (.tup [])]) (by rw [a0,aB (n:=n+176) (us:=[lst L,.tup []]) (Us:=[.v (lst L),.v (.tup [])]) rfl rfl (r1 (n+16)) rfl];rfl) rfl (uy (R.inv.small n1) (n+97)) rfl
  have e2:(run aj (n+178)).e (.callF 26 [(.callF 20 [(.var 0),(.var 1)])]) [some (.v (lst (gC L1))),some (.v (.tup []))] []=some (.v (lst L4),[]):=
   aB (n:=n+177) (us:=[lst (Internal.kept (gC L1))]) (Us:=[.own (lst (Internal.kept (gC L1)))]) (by rw [a0,aB (n:=n+176) (us:=[lst (gC L1),.tup []]) (Us:=[.v (lst (gC L1)),.v (.tup [])]) rfl rfl (lS w2.inv n2 (n+116)) rfl];rfl) rfl (r4 (n+87)) rfl
  have e3:(run aj (n+178)).e (.callF 25 [(.callF 20 [(.var 0),(.var 1)])]) [some (.v (lst L4)),some (.v (.tup []))] []=some (.v (lst L6),[]):=
   aB (n:=n+177) (us:=[lst (Internal.kept L4)]) (Us:=[.own (lst (Internal.kept L4))]) (by rw [a0,aB (n:=n+176) (us:=[lst L4,.tup []]) (Us:=[.v (lst L4),.v (.tup [])]) rfl rfl (lS w4.inv n4 (n+116)) rfl];rfl) rfl (r6 (n+87)) rfl
  have e4:(run aj (n+178)).e (.callF 27 [(.callF 24 [(.var 0)])]) [some (.v (lst L6)),some (.v (.tup []))] []=some (.own (lst (L7.map (we L7))),[]):=
   aB (n:=n+177) (us:=[lst L7]) (Us:=[.v (lst L7)]) (by rw [a0,aB (n:=n+176) (us:=[lst L6]) (Us:=[.v (lst L6)]) rfl rfl (r7 (n+106)) rfl];rfl) rfl (HQ (w7.inv.small n7) (n+107)) rfl
  have e5:(run aj (n+176)).e (.callF 22 [(.var 0),(.var 1)]) [some (.v (lst (L7.map (we L7)))),some (.v (.tup []))] []=some (.own (lst (gC (L7.map (we L7)))),[]):=
   aB (n:=n+175) (us:=[lst (L7.map (we L7)),.tup []]) (Us:=[.v (lst (L7.map (we L7))),.v (.tup [])]) rfl rfl (uy (w8.inv.small n8) (n+95)) rfl
  have e6:(run aj (n+177)).e (.callF 30 [(.callF 22 [(.var 0),(.var 1)])]) [some (.v (lst (L7.map (we L7)))),some (.v (.tup []))] []=some (.v (lst L10),[]):=
   aB (n:=n+176) (us:=[lst (gC (L7.map (we L7)))]) (Us:=[.own (lst (gC (L7.map (we L7))))]) (by rw [a0,e5];rfl) rfl (r10 (n+66)) rfl
  have e7:(run aj (n+178)).e (.callF 20 [(.callF 30 [(.callF 22 [(.var 0),(.var 1)])]),(.var 1)]) [some (.v (lst (L7.map (we L7)))),some (.v (.tup []))] []=some (.own (lst (Internal.kept L10)),[]):=
   aB (n:=n+177) (us:=[lst L10,.tup []]) (Us:=[.v (lst L10),.v (.tup [])]) (by rw [a0,e6];rfl) rfl (lS I9.inv n10 (n+117)) rfl
  exact bV (n:=n+179) (fn:=mq) (W:= .own _) rfl rfl (av (st e1 rfl rfl) (av (st e2 rfl rfl) (av (st e3 rfl rfl) (av (st e4 rfl rfl) (dY (n:=n+178) e7))))) rfl
 ·rw [u7]
  rcases W.or with h|⟨h1,h2⟩
  ·exact .inl (R.wts▸h)
  ·refine .inr ⟨h1.trans R.wts,fun j=>h2▸vQ.fixed (F j),fun f=> ?_⟩
   rw [h2,R.id f,K]
end
section
variable {P0:List Itm} {L L' L2:List ah} {l x y z:ah} {n j:Nat} {i:cr}
noncomputable def D7 (s:Sg):Nh Nm:=[Nm.jmp,.call,.jrcxz,.loop,.loope,.loopne,.je,.jne,.jae,.jb].find? fun m=>decide (m.s=s)
theorem vV (m:Nm):D7 m.s=some m:=by cases m<;>rfl
theorem HR {m k:Nm} (h:m.s=k.s):m=k:=Ng ((vV m).symm.trans ((Nt D7 h).trans (vV k)))
noncomputable def V.nth (v:V) (k:Nat):V:=match v with
 | .tup us=>(us[k]?).getD .none
 |_=> .none
noncomputable def V.sg (v:V):Sg:=match v with
 | .str s=>s
 |_=>[]
noncomputable def V.it (v:V):Int:=match v with
 | .int i=>i
 |_=>0
noncomputable def tq (v:V):Nh cr:=match D7 (v.nth 0).sg with
 |some m=>some (.jump m (((v.nth 2).nth 0).nth 2).sg)
 |none=>if v= .tup [] then none else if v.nth 2= .tup [] then some .ret else some (.mov (decide (((v.nth 2).nth 0).nth 1= .str [114,97,120])) (((v.nth 2).nth 1).nth 1).it (((v.nth 2).nth 1).nth 2).sg)
theorem nW (o:Nh cr):tq (j5 o)=o:=by
 cases o with
 |none=>rfl
 |some i=>cases i with
  |jump m t=>
   have:tq (nS (.jump m t))=(match D7 m.s with
    |some m=>some (.jump m t)
    |none=>if nS (.jump m t)= .tup [] then none else if (nS (.jump m t)).nth 2= .tup [] then some .ret else some (.mov (decide ((((nS (.jump m t)).nth 2).nth 0).nth 1= .str [114,97,120])) ((((nS (.jump m t)).nth 2).nth 1).nth 1).it ((((nS (.jump m t)).nth 2).nth 1).nth 2).sg)):=rfl
   show tq (nS (.jump m t))=_
   rw [this,vV]
  |ret=>rfl
  |mov w i y=>cases w<;>kernel_rfl
theorem Cb (h:bT x=bT y):x=y:=by
 obtain ⟨a,o⟩:=x
 obtain ⟨b,p⟩:=y
 have h:=OO (V.tup.inj h)
 have h1:a.map V.str=b.map V.str:=V.tup.inj h.1
 have h2:j5 o=j5 p:=(OO h.2).1
 have e1:a=b:=by
  have:=Nt (SQ V.sg) h1
  rw [OG,OG] at this
  have q:∀l:List Sg,l.map (V.sg∘V.str)=l:=fun l=>Vo l
  rw [q,q] at this;exact this
 have e2:o=p:=(nW o).symm.trans ((Nt tq h2).trans (nW p))
 rw [e1,e2]
noncomputable def told (L:List ah):V:= .lst (L.map bT)
theorem B2:∀{L L':List ah},L.map bT=L'.map bT→L=L':=by
 intro L
 induction L with
 |nil=>intro L' h;cases L' with
  |nil=>rfl
  |cons=>cases h
 |cons l L ih=>intro L' h;cases L' with
  |nil=>cases h
  |cons l' L'=>have h:=OO h;rw [Cb h.1,ih h.2]
theorem zl (h:told L=told L'):L=L':=B2 (V.lst.inj h)
theorem uP (l:ah):(bT l).dat=true∧(bT l).dep≤9:=by
 obtain ⟨ls,o⟩:=l
 have h1:(j5 o).dat=true∧(j5 o).dep≤8:=by
  cases o with
  |none=>exact ⟨rfl,Oy rfl⟩
  |some i=>cases i with
   |jump m t=>exact ⟨rfl,Oy rfl⟩
   |ret=>exact ⟨rfl,Oy rfl⟩
   |mov w i y=>exact ⟨rfl,Oy rfl⟩
 constructor
 ·show (V.dats (ls.map .str)&&((j5 o).dat&&true))=true
  rw [qa,h1.1];rfl
 ·show max (V.deps (ls.map .str)+1) (max (j5 o).dep 0)+1≤9
  rw [qc]
  exact NO (Um.mpr ⟨Oy rfl,Um.mpr ⟨h1.2,N5 _⟩⟩)
theorem kq:∀L:List ah,(told L).dat=true∧V.deps (L.map bT)≤9
 |[]=>⟨rfl,N5 _⟩
 |l::L=>⟨by show ((bT l).dat&&V.dats (L.map bT))=true;rw [(uP l).1];exact (kq L).1,Um.mpr ⟨(uP l).2,(kq L).2⟩⟩
theorem vI (L L':List ah):DK (told L) (told L')=some (decide (told L=told L')):=by
 have:l9 (told L) (told L')=true:=by
  have h1:=kq L
  have h2:=kq L'
  show ((false&&false)||((told L).dat&&(told L').dat&&(decide (V.deps (L.map bT)+1≤60)&&decide (V.deps (L'.map bT)+1≤60))))=true
  rw [h1.1,h2.1,Nw (Ni (NO h1.2) (by decide)),Nw (Ni (NO h2.2) (by decide))];rfl
 unfold DK
 rw [NG this]
noncomputable def jQ (L:List ah) (r1 r2 r3:Nh aA):Loc:=[some (.v (lst L)),r1,r2,r3]
noncomputable def EI:List CS:=[.ite (.cmp (.attr (.var 1) .instruction) .is_ (.cst .none)) [.raise_] [],
  .for_ (.one 2) (.seq (.attr (.attr (.var 1) .instruction) .operands))
   [.ite (.and [(.cmp (.attr (.var 2) .kind) .eq (.cst (.str [114,101,108]))),(.or [(.cmp (.attr (.var 2) .name) .eq (.cst (.str []))),(.cmp (.attr (.var 2) .worth) .ne (.cst (.int 0)))])]) [.raise_] [],
   .ite (.and [(.cmp (.attr (.var 2) .kind) .eq (.cst (.str [109,101,109]))),.stuck,(.cmp (.attr (.var 2) .name) .eq (.cst (.str [])))]) [.raise_] []]]
noncomputable def FA:List CS:=[.ite (.and [(.cmp (.callM (.var 2) .symbol) .in_ (.var 3)),(.cmp (.attr (.var 2) .worth) .ne (.cst (.int 0)))]) [.raise_] []]
noncomputable def qO:List CS:=[.for_ (.one 2) (.seq (.attr (.attr (.var 1) .instruction) .operands)) FA]
variable {r1 r2 r3:Nh aA}
theorem DO {ls:List Sg} (ht:∀m t,i= .jump m t→t≠[]):∃r2',bd (run aj (n+60)) (.one 1) EI (ay ⟨ls,some i⟩) (jQ L r1 r2 r3) []=some (.next,jQ L (some (.v (ay ⟨ls,some i⟩))) r2' r3,[]):=by
 cases i with
 |jump m t=>cases t with
  |nil=>exact (ht m [] rfl rfl).elim
  |cons s t=>exact ⟨some (.v (.inst .rel [.str [114,101,108],.int 0,.str (s::t)])),by kernel_rfl⟩
 |ret=>exact ⟨r2,by kernel_rfl⟩
 |mov w i y=>exact ⟨some (.v (.inst .imm [.str [105,109,109],.int i,.str y])),by kernel_rfl⟩
theorem C3:∀(xs:List ah) r1 r2 r3,(∀l∈xs,∃i,l.ins=some i∧∀m t,i= .jump m t→t≠[])→∃r1' r2',fy (bd (run aj (n+60)) (.one 1) EI) (xs.map ay) (jQ L r1 r2 r3) []=some (.next,jQ L r1' r2' r3,[]):=by
 intro xs
 induction xs with
 |nil=>exact fun r1 r2 r3 _=>⟨r1,r2,rfl⟩
 |cons l xs ih=>
  intro r1 r2 r3 h
  obtain ⟨i,h1,h2⟩:=h l (.head _)
  obtain ⟨ls,o⟩:=l
  cases h1
  obtain ⟨s,e⟩:=DO (n:=n) (L:=L) (ls:=ls) (r1:=r1) (r2:=r2) (r3:=r3) h2
  obtain ⟨a,b,e2⟩:=ih (some (.v (ay ⟨ls,some i⟩))) s r3 fun l m=>h l (.tail _ m)
  exact ⟨a,b,by rw [NA,aQ,e];exact e2⟩
theorem vB {o:V} {x:Sg} {b:Bool} (hs:(run aj (n+57)).e (.callM (.var 2) .symbol) (jQ L r1 (some (.v o)) (some (.v (an L)))) []=some (.v (.str x),[]))
  (hb:(place L x).isSome=true→∃w:Int,kS o .worth=some (.int w)∧(!decide (w=0))=b) (hn:(place L x).isSome=false→b=false):bd (run aj (n+60)) (.one 2) FA o (jQ L r1 r2 (some (.v (an L)))) []=some (bif b then .exc else .next,jQ L r1 (some (.v o)) (some (.v (an L))),[]):=by
 have q:(run aj (n+60)).s (.ite (.and [(.cmp (.callM (.var 2) .symbol) .in_ (.var 3)),(.cmp (.attr (.var 2) .worth) .ne (.cst (.int 0)))]) [.raise_] []) (jQ L r1 (some (.v o)) (some (.v (an L)))) []=some (bif b then .exc else .next,jQ L r1 (some (.v o)) (some (.v (an L))),[]):=by
  refine bc (n:=n+59) (b:=b) ?_ (by cases b<;>rfl)
  have e1:=bJ (n:=n+57) (o:= .in_) (b:= .var 3) (W:= .v (an L)) hs rfl rfl rfl vE
  cases hp:(place L x).isSome with
  |false=>rw [hn hp];rw [hp] at e1;exact rq (n:=n+58) (y:=false) e1 fun h=>nomatch h
  |true=>
   obtain ⟨w,h1,h2⟩:=hb hp
   rw [hp] at e1
   exact rq (n:=n+58) (y:=b) e1 fun _=>bJ (n:=n+57) (o:= .ne) (u:= .int w) (w:= .int 0) (W:= .v (.int 0)) (gG (n:=n+56) (U:= .v o) rfl rfl h1) rfl rfl rfl (by rw [bN,bh,←h2];rfl)
 show aH _ [_] (jQ L r1 (some (.v o)) (some (.v (an L)))) []=_
 rw [iZ];exact q
noncomputable def xE (L:List ah):Prop:=∀l∈L,∀w i y,l.ins=some (.mov w i y)→y∈aq L→i=0
theorem FQ {ls:List Sg} (h0:[]∉aq L) (hf:∀w j y,i= .mov w j y→y∈aq L→j=0):∃r2',bd (run aj (n+70)) (.one 1) qO (ay ⟨ls,some i⟩) (jQ L r1 r2 (some (.v (an L)))) []=some (.next,jQ L (some (.v (ay ⟨ls,some i⟩))) r2' (some (.v (an L))),[]):=by
 have fin:∀{us:List V} {r2'},kS (aP i) .operands=some (.tup us)→fy (bd (run aj (n+69)) (.one 2) FA) us (jQ L (some (.v (ay ⟨ls,some i⟩))) r2 (some (.v (an L)))) []=some (.next,jQ L (some (.v (ay ⟨ls,some i⟩))) r2' (some (.v (an L))),[])→bd (run aj (n+70)) (.one 1) qO (ay ⟨ls,some i⟩) (jQ L r1 r2 (some (.v (an L)))) []=some (.next,jQ L (some (.v (ay ⟨ls,some i⟩))) r2' (some (.v (an L))),[]):=fun {us r2'} ha h=>by
  have hi:dN (run aj (n+69)) (.seq (.attr (.attr (.var 1) .instruction) .operands)) (jQ L (some (.v (ay ⟨ls,some i⟩))) r2 (some (.v (an L)))) []=some (us,[]):=by
   rw [uf,cC (gG (n:=n+68) (U:= .v (aP i)) rfl rfl ha) rfl];rfl
  exact bk (gp (n:=n+69) (t:= .one 2) (body:=FA) hi h)
 cases i with
 |ret=>exact ⟨r2,fin (us:=[]) rfl rfl⟩
 |jump m t=>
  have e:=vB (n:=n+9) (L:=L) (r1:=some (.v (ay ⟨ls,some (.jump m t)⟩))) (r2:=r2) (o:= .inst .rel [.str [114,101,108],.int 0,.str t]) (x:=t) (b:=false) rfl (fun _=>⟨0,rfl,rfl⟩) fun _=>rfl
  refine ⟨some (.v (.inst .rel [.str [114,101,108],.int 0,.str t])),fin (us:=[.inst .rel [.str [114,101,108],.int 0,.str t]]) rfl ?_⟩
  rw [aQ,e];rfl
 |mov w j y=>
  have e1:=vB (n:=n+9) (L:=L) (r1:=some (.v (ay ⟨ls,some (.mov w j y)⟩))) (r2:=r2) (o:= .inst .reg [.str [114,101,103],w0 w]) (x:=[]) (b:=false) rfl (fun h=>by rw [k7 h0] at h;cases h) fun _=>rfl
  have e2:=vB (n:=n+9) (L:=L) (r1:=some (.v (ay ⟨ls,some (.mov w j y)⟩))) (r2:=some (.v (.inst .reg [.str [114,101,103],w0 w]))) (o:= .inst .imm [.str [105,109,109],.int j,.str y]) (x:=y) (b:=false) rfl (fun h=>⟨j,rfl,by
   rw [←ij] at h
   rw [hf w j y rfl (Nu h)];rfl⟩) fun _=>rfl
  refine ⟨some (.v (.inst .imm [.str [105,109,109],.int j,.str y])),fin (us:=[.inst .reg [.str [114,101,103],w0 w],.inst .imm [.str [105,109,109],.int j,.str y]]) rfl ?_⟩
  rw [aQ,e1]
  show fy (bd (run aj (n+69)) (.one 2) FA) [.inst .imm [.str [105,109,109],.int j,.str y]] _ _=_
  rw [aQ,e2];rfl
theorem AF (h0:[]∉aq L):∀(xs:List ah) r1 r2,(∀l∈xs,∃i,l.ins=some i∧∀w j y,i= .mov w j y→y∈aq L→j=0)→∃r1' r2',fy (bd (run aj (n+70)) (.one 1) qO) (xs.map ay) (jQ L r1 r2 (some (.v (an L)))) []=some (.next,jQ L r1' r2' (some (.v (an L))),[]):=by
 intro xs
 induction xs with
 |nil=>exact fun r1 r2 _=>⟨r1,r2,rfl⟩
 |cons l xs ih=>
  intro r1 r2 h
  obtain ⟨i,h1,h2⟩:=h l (.head _)
  obtain ⟨ls,o⟩:=l
  cases h1
  obtain ⟨s,e⟩:=FQ (n:=n) (ls:=ls) (r1:=r1) (r2:=r2) h0 h2
  obtain ⟨a,b,e2⟩:=ih (some (.v (ay ⟨ls,some i⟩))) s fun l m=>h l (.tail _ m)
  exact ⟨a,b,by rw [NA,aQ,e];exact e2⟩
noncomputable def MN:CE:= .or [(.cmp (.callB .len [(.var 0)]) .eq (.cst (.int 0))),(.cmp (.attr (.idx (.var 0) (.neg 1)) .instruction) .isnt (.cst .none))]
theorem BO {A:List ah}:iW (lst (A++[l])) (.int (-1))=some (ay l):=by
 have h1:((A++[l]).map ay).length=A.length+1:=by rw [Nl,Nj];rfl
 have hp:k6 ((A++[l]).map ay).length (-1)=some A.length:=by
  unfold k6
  rw [h1,NV (by decide),NG (by rw [Qf];omega)]
  congr 1;omega
 show (k6 ((A++[l]).map ay).length (-1)).bind _=_
 rw [hp]
 show ((A++[l]).map ay)[A.length]? =_
 rw [OF,Ox (Nz _),PQ];rfl
theorem Fw (S:cK L):(run aj (n+60)).s (.ite MN [.raise_] []) (jQ L r1 r2 r3) []=some (.next,jQ L r1 r2 r3,[]):=by
 refine Nf fun nG=> ?_
 obtain ⟨A,l,rfl,hl,_⟩:=S.ex
 refine nG ?_
 have hz:decide (((A++[l]).length:Int)=0)=false:=NR (T3.mpr (by rw [Nj];exact SR _))
 refine bc (n:=n+59) (b:=false) (vt (n:=n+58) (x:=false) (y:=false) (bJ (n:=n+57) (o:= .eq) (u:=ai (A++[l]).length) (W:= .v (.int 0)) (uL (n:=n+55) (L:=A++[l]) rfl) rfl rfl rfl (by rw [←hz];exact bh _ _)) fun _=> ?_) rfl
 exact bJ (n:=n+57) (o:= .isnt) (u:= .none) (W:= .v .none) (gG (n:=n+56) (fj (n:=n+55) (cM (U:= .v (lst (A++[l]))) (W:= .v (.int (-1))) rfl rfl rfl rfl) BO) rfl (by rw [bp,hl];rfl)) rfl rfl rfl rfl
theorem sJ {k:Nat}:dN (run aj (n+3)) (.seq (.slc (.var 0) none (some (.neg 1)))) (jQ L r1 r2 r3) []=some (L.dropLast.map ay,[]):=xM (n:=n) (i:=0) rfl
theorem Am {cs:List CS} (S:bX L) (T:Tg L):∃r1' r2',∀r,aH (run aj (n+90)) cs (jQ L r1' r2' (some (.v (an L)))) []=some r→aH (run aj (n+90)) (.ite MN [.raise_] []:: .for_ (.one 1) (.seq (.slc (.var 0) none (some (.neg 1)))) EI:: .assign 3 (.callF 10 [(.var 0)])::cs) (jQ L none none none) []=some r:=by
 refine Nf fun nG=> ?_
 obtain ⟨a,b,e⟩:=C3 (n:=n+29) (L:=L) L.dropLast none none none fun l m=>let ⟨i,hi⟩:=S.rows l m;⟨i,hi,fun k t e=>T l ((Tp L).mem m) k t (e▸hi)⟩
 refine nG ?_
 exact ⟨a,b,fun r h=>av (Fw (n:=n+30) S.sh) (av (gp (n:=n+89) (t:= .one 1) (body:=EI) (sJ (n:=n+86) (k:=0)) e) (av (aD (n:=n+89) rfl (aB (n:=n+88) (us:=[lst L]) (Us:=[.v (lst L)]) rfl rfl (ja S.nodup (Ni S.labs (by decide)) (n+48)) rfl) rfl) h))⟩
theorem yr (S:bX L) (T:Tg L) (h0:[]∉aq L) (F:xE L) (n:Nat):(run aj (n+100)).c 11 [.v (lst L)] []=some (.ok (.v .none),[]):=by
 refine Nf fun nG=> ?_
 obtain ⟨a,b,h⟩:=Am (n:=n+9) (cs:=[.for_ (.one 1) (.seq (.slc (.var 0) none (some (.neg 1)))) qO]) S T
 obtain ⟨c,d,e⟩:=AF (n:=n+28) h0 L.dropLast a b fun l m=>let ⟨i,hi⟩:=S.rows l m;⟨i,hi,fun w j y e=>F l ((Tp L).mem m) w j y (e▸hi)⟩
 refine nG ?_
 have:=h _ (bk (gp (n:=n+98) (t:= .one 1) (body:=qO) (sJ (n:=n+95) (k:=0)) e))
 show ((aH (run aj (n+99)) aU.body (jQ L none none none) []).bind _)=_
 rw [show aH (run aj (n+99)) aU.body (jQ L none none none) []=_ from this];rfl
end
section
variable {P0:List Itm} {L L' L2:List ah} {l x y z:ah} {n j:Nat} {i:cr}
noncomputable def HN (L:List ah):Prop:=∀j,iz L j
open Classical in
noncomputable def phi (L:List ah):Nat:=2*wts L+if HN L then 0 else 1
theorem xK (L:List ah):phi L≤2*wts L+1:=by
 unfold phi
 split
 ·exact NQ _
 ·exact Nz _
theorem Cd.phi (R:Cd P0 L L') (h:L'≠L):phi L' <phi L:=by
 have top:=xK L'
 rcases R.or with e|⟨e,f,g⟩
 ·refine ND top (Od (m:=2*wts L) ?_ (Oa _ _))
  exact Od (OD _) (QA 2 e)
 ·have nf:¬HN L:=fun z=>h (g z)
  unfold Internal.phi
  rw [NG (show HN L' from f),NV nf,e]
  exact OD _
theorem MF (o:Nh cr):wt o≤3:=by
 cases o with
 |none=>exact Oy rfl
 |some i=>cases i with
  |jump m t=>cases m<;>exact Oy rfl
  |ret=>exact Oy rfl
  |mov=>exact Oy rfl
theorem Gk:∀L:List ah,wts L≤3*L.length
 |[]=>Nz _
 |l::L=>by
  rw [bD,OX,Nat.mul_succ,OT]
  exact N6 (Gk L) (MF _)
theorem Ht (I:Inv P0 L):phi L≤121:=by
 have h:=Ni (Gk L) (QA 3 I.len)
 exact Ni (xK L) (NO (QA 2 h))
noncomputable def Dw (L0 L B:List ah):Loc:=[some (.v (lst L0)),some (.v (.tup [])),some (.v (lst L)),some (.v (told B))]
noncomputable def Ab:CE:= .cmp (.callF 33 [(.var 2)]) .ne (.var 3)
noncomputable def Fo:List CS:=[.assign 3 (.callF 33 [(.var 2)]),.assign 2 (.callF 31 [(.var 2),(.var 1)])]
theorem De {L0 B:List ah} (I:Inv P0 L):(run aj (n+50)).e (.callF 33 [(.var 2)]) (Dw L0 L B) []=some (.own (told L),[]):=
 aB (n:=n+49) (us:=[lst L]) (Us:=[.v (lst L)]) rfl rfl (wx (Ni I.len (by decide)) (n+9)) rfl
theorem jz {L0 B:List ah} (I:Inv P0 L) (b:Bool) (h:decide (told L=told B)=b):cv (run aj (n+51)) Ab (Dw L0 L B) []=some (!b,[]):=
 bJ (n:=n+50) (o:= .ne) (W:= .v (told B)) (De I) rfl rfl rfl (by rw [bN,vI,h];rfl)
theorem oV {L0 B:List ah} (I:Inv P0 L) (h:l7 180 31 [lst L,.tup []] (lst L')):aH (run aj (n+190)) Fo (Dw L0 L B) []=some (.next,Dw L0 L' L,[]):=
 av (aD (n:=n+189) rfl (De (n:=n+139) I) rfl) (bk (aD (n:=n+189) rfl (aB (n:=n+188) (us:=[lst L,.tup []]) (Us:=[.v (lst L),.v (.tup [])]) rfl rfl (h (n+8)) rfl) rfl))
structure H9 (P0:List Itm) (L:List ah):Prop where
 inv:Inv P0 L
 kept:kept L=L
 run:l7 180 31 [lst L,.tup []] (lst L)
theorem o0 (h:L≠L'):decide (told L=told L')=false:=NR fun e=>h (zl e)
theorem Eg:∀d (L B:List ah),phi L≤d→Inv P0 L→kept L=L→L≠B→∃Lf,H9 P0 Lf∧∀n M L0,d+1 <M→fW (cv (run aj (n+190)) Ab) (aH (run aj (n+190)) Fo) M (Dw L0 L B) []=some (.next,Dw L0 Lf Lf,[]):=by
 intro d
 induction d with
 |zero=>
  intro L B hd I K hB
  obtain ⟨L',r,R⟩:=yj I K
  have e:L'=L:=Nf fun z=>absurd (R.phi z) (Pt.mpr (Ni hd (N5 _)))
  subst e
  refine ⟨L',⟨I,K,r⟩,fun n M L0 hM=> ?_⟩
  obtain ⟨M,rfl⟩:∃j,M=j+2:=⟨M -2,(Uz hM).symm⟩
  show (cv _ Ab _ _).bind _=_
  rw [jz (n:=n+139) I false (o0 hB)]
  show (aH _ Fo _ _).bind _=_
  rw [oV I r]
  show (cv _ Ab _ _).bind _=_
  rw [jz (n:=n+139) I true (Nw rfl)];rfl
 |succ d ih=>
  intro L B hd I K hB
  obtain ⟨L',r,R⟩:=yj I K
  by_cases e:L'=L
  ·subst e
   refine ⟨L',⟨I,K,r⟩,fun n M L0 hM=> ?_⟩
   obtain ⟨M,rfl⟩:∃j,M=j+2:=⟨M -2,(Uz (Ni (P4 2 d) (NP hM))).symm⟩
   show (cv _ Ab _ _).bind _=_
   rw [jz (n:=n+139) I false (o0 hB)]
   show (aH _ Fo _ _).bind _=_
   rw [oV I r]
   show (cv _ Ab _ _).bind _=_
   rw [jz (n:=n+139) I true (Nw rfl)];rfl
  ·obtain ⟨Lf,D,go⟩:=ih L' L (OE (Od (R.phi e) hd)) R.inv R.kept e
   refine ⟨Lf,D,fun n M L0 hM=> ?_⟩
   obtain ⟨M,rfl⟩:∃j,M=j+1:=N9 (Px (ND (N5 _) hM))
   show (cv _ Ab _ _).bind _=_
   rw [jz (n:=n+139) I false (o0 hB)]
   show (aH _ Fo _ _).bind _=_
   rw [oV I r]
   exact go n M L0 (OK hM)
theorem sM {ρ:Loc} {σ:ag} {f:Nat} {args:List CE} {us:List V} {Us:List aA} {U:aA} (ha:kL (run aj n) args ρ σ=some (Us,σ)) (hu:Us.map aA.bind=us.map aA.v) (hc:(run aj n).c f (us.map aA.v) []=some (.ok U,[])):(run aj (n+1)).s (.expr (.callF f args)) ρ σ=some (.next,ρ,σ):=by
 rw [iR,cL]
 show xO (run aj n) (f,args) ρ σ=_
 unfold xO
 rw [ha]
 show (cO (run aj n) f (Us.map aA.bind) σ).bind _=_
 rw [hu,kg hc];rfl
theorem qe (I:Inv P0 L) (hn:nlab L≤100) (F:xE L):∃Lf,nU 210 32 [lst L] (lst Lf)∧H9 P0 Lf:=by
 have Ik:Inv P0 (kept L):=I.kept
 obtain ⟨Lf,D,go⟩:=Eg 121 (kept L) [] (Ht Ik) Ik m7 (fun z=>by have:=Ik.sh.pos;rw [z] at this;exact absurd this (Ou 0))
 refine ⟨Lf,fun n=> ?_,D⟩
 have h0:[]∉aq L:=fun m=>I.core.nil (eT.mpr m)
 exact bV (n:=n+209) (fn:=iM) (ρ:=Dw L Lf Lf) (σ2:=[]) (W:= .v (lst Lf)) rfl rfl
  (av (sM (n:=n+208) (us:=[lst L]) (Us:=[.v (lst L)]) rfl rfl (yr (I.small hn) I.tg h0 F (n+108)))
   (av (aD (n:=n+208) (u:=lst (kept L)) rfl (aB (n:=n+207) (us:=[lst L,.tup []]) (Us:=[.v (lst L),.v (.tup [])]) rfl rfl (lS I hn (n+147)) rfl) rfl)
    (av (aD (n:=n+208) (u:=told []) (U:= .own (told [])) rfl rfl rfl) (av (show (run aj (n+209)).s (.while_ Ab Fo) _ _=_ from go (n+18) turns L (by decide)) (dY (n:=n+208) rfl))))) rfl
theorem Fd (D:H9 P0 L) (hn:nlab L≤100) (F:xE L):nU 210 32 [lst L] (lst L):=fun n=>by
 have I:=D.inv
 have h0:[]∉aq L:=fun m=>I.core.nil (eT.mpr m)
 have hB:L≠[]:=fun z=>by have:=I.sh.pos;rw [z] at this;exact absurd this (Ou 0)
 have e:fW (cv (run aj (n+208)) Ab) (aH (run aj (n+208)) Fo) turns (Dw L L []) []=some (.next,Dw L L L,[]):=by
  show fW _ _ (99998+2) _ _=_
  show (cv _ Ab _ _).bind _=_
  rw [jz (n:=n+157) I false (o0 hB)]
  show (aH _ Fo _ _).bind _=_
  rw [oV (n:=n+18) I D.run]
  show (cv _ Ab _ _).bind _=_
  rw [jz (n:=n+157) I true (Nw rfl)];rfl
 have hk:=lS I hn (n+147)
 rw [D.kept] at hk
 exact bV (n:=n+209) (fn:=iM) (ρ:=Dw L L L) (σ2:=[]) (W:= .v (lst L)) rfl rfl
  (av (sM (n:=n+208) (us:=[lst L]) (Us:=[.v (lst L)]) rfl rfl (yr (I.small hn) I.tg h0 F (n+108)))
   (av (aD (n:=n+208) (u:=lst L) rfl (aB (n:=n+207) (us:=[lst L,.tup []]) (Us:=[.v (lst L),.v (.tup [])]) rfl rfl hk rfl) rfl)
    (av (aD (n:=n+208) (u:=told []) (U:= .own (told [])) rfl rfl rfl) (av (show (run aj (n+209)).s (.while_ Ab Fo) _ _=_ from e) (dY (n:=n+208) rfl))))) rfl
end
noncomputable def gj:Int:=1000000000000000000000000000057
theorem Hz:nU 20 37 [] (.int gj):=fun n=>by kernel_rfl
section
variable {n:Nat} {s d c:Int} {ρ:Loc} {σ:ag}
noncomputable def d7 (s d c:Int):V:= .lst [.int s,.int d,.int c]
structure tM (k:Nat) (s d c:Int):Prop where
 s0:0≤s
 s1:s.natAbs <2^8192
 d0:0≤d
 d1:d <2147483648
 c0:0≤c
 c1:c+k≤1000
theorem tM.le {k j:Nat} (p:tM k s d c) (h:j≤k):tM j s d c:=⟨p.s0,p.s1,p.d0,p.d1,p.c0,RM (Int.add_le_add_left (UW.mpr h) c) p.c1⟩
theorem iP {i:Int} (h0:0≤i) (h:i <1099511627776):fX i=true:=by
 refine Nw (Od (m:=1099511627776) (by omega) ?_)
 exact Ni (by decide:1099511627776≤2^40) (Nat.pow_le_pow_right (by decide) (by decide))
theorem C6 {a b:Int} (h1:fX a=true) (h2:fX b=true):oE .mul (.int a) (.int b)=some (.int (a*b)):=by
 show (if (fX a&&fX b)=true then some (a*b) else none).map V.int=_
 rw [h1,h2];rfl
theorem BG {a b:Int} (hb:b≠0) (h1:fX a=true) (h2:fX b=true):oE .fdiv (.int a) (.int b)=some (.int (a.fdiv b)):=by
 show (if (decide (b≠0)&&(fX a&&fX b))=true then some (a.fdiv b) else none).map V.int=_
 rw [h1,h2,Nw hb];rfl
theorem u9 {a b:Int} (hb:b≠0):oE .mod (.int a) (.int b)=some (.int (a.fmod b)):=by
 show (if b≠0 then some (a.fmod b) else none).map V.int=_
 rw [NG hb];rfl
theorem B3 (a b:Int):oE .add (.int a) (.int b)=some (.int (a+b)):=rfl
noncomputable def Ad (m:Int) (r:Nh aA):Loc:=[some (.cell 0),some (.v (.int m)),r]
theorem jD (i:Int) (k:Nat) (u:V) (h:[V.int s,.int d,.int c][k]? =some u) (hi:i=k):(run aj (n+2)).e (.idx (.var 0) (.cst (.int i))) (Ad m r) [d7 s d c]=some (.v u,[d7 s d c]):=by
 subst hi
 have hk:k <3:=(Nq.mp h).1
 refine fj (n:=n+1) (cM (U:= .cell 0) (W:= .v (.int k)) rfl rfl rfl rfl) ?_
 show (k6 3 (k:Int)).bind _=_
 unfold k6
 rw [NG (Oi k),NG (Ps.mpr hk)]
 exact h
structure tI (k:Nat) (many:Int) (s d c f s' d' c':Int):Prop where
 lo:0≤f
 hi:f <many
 pen:tM k s' d' c'
 run:∀n,(run aj (n+30)).c 39 [.cell 0,.v (.int many)] [d7 s d c]=some (.ok (.v (.int f)),[d7 s' d' c'])
theorem Hq {k:Nat} {many:Int} (p:tM (k+1) s d c) (hs:0 <s) (hm:0 <many) (hz:many <1099511627776):tI k many s d c (s.fmod many) (s.fdiv many) d c where
 lo:=Py _ hm
 hi:=PX _ hm
 pen:=⟨Int.fdiv_nonneg p.s0 (Qx hm),by
  rw [Int.fdiv_eq_ediv_of_nonneg _ (Qx hm)]
  refine ND ?_ p.s1
  have h1:=Int.ediv_le_self many p.s0
  have h2:=Int.ediv_nonneg p.s0 (Qx hm)
  omega,p.d0,p.d1,p.c0,by have:=p.c1;omega⟩
 run:=fun n=>by
  have ne:many≠0:=UX hm
  have ok1:fX s=true:=Nw p.s1
  have ok2:=iP (Qx hm) hz
  have i0:∀m r,(run aj (m+2)).e (.idx (.var 0) (.cst (.int 0))) (Ad many r) [d7 s d c]=some (.v (.int s),[d7 s d c]):=fun m r=>jD (n:=m) 0 0 (.int s) rfl rfl
  refine bV (n:=n+29) (fn:=jV) (ρ:=Ad many (some (.v (.int (s.fmod many))))) (σ2:=[d7 (s.fdiv many) d c]) (W:= .v (.int (s.fmod many))) rfl rfl ?_ rfl
  refine d9 (bc (n:=n+28) (b:=true) (bJ (n:=n+27) (o:= .gt) (W:= .v (.int 0)) (i0 (n+25) none) rfl rfl rfl (Nt some (Nw hs))) ?_) rfl
  refine av (aD (n:=n+27) (ρ:=Ad many none) rfl (bW (n:=n+26) (o:= .mod) (aI (i0 (n+24) none) rfl (W:= .v (.int many)) rfl rfl) (u9 ne)) rfl) ?_
  refine av (ρ':=Ad many (some (.v (.int (s.fmod many))))) (σ':=[d7 (s.fdiv many) d c]) ?_ (dY (n:=n+27) rfl)
  have e1:eO (run aj (n+27)) (.bin .fdiv (.idx (.var 0) (.cst (.int 0))) (.var 1)) (Ad many (some (.v (.int (s.fmod many))))) [d7 s d c]=some (.int (s.fdiv many),[d7 s d c]):=
   cC (bW (n:=n+26) (o:= .fdiv) (aI (i0 (n+24) _) rfl (W:= .v (.int many)) rfl rfl) (BG ne ok1 ok2)) rfl
  rw [iR,aZ,show eO (run aj (n+27)) (.bin .fdiv (.idx (.var 0) (.cst (.int 0))) (.var 1)) (List.set (Ad many none) 2 (some (.v (.int (s.fmod many))))) [d7 s d c]=_ from e1]
  rfl
theorem Fx {k:Nat} {many:Int} (p:tM (k+1) s d c) (hs:¬0 <s) (hm:0 <many):tI k many s d c ((((d*48271+(c+1)*(c+1)).fmod 2147483647).fdiv 32).fmod many) s ((d*48271+(c+1)*(c+1)).fmod 2147483647) (c+1) where
 lo:=Py _ hm
 hi:=PX _ hm
 pen:=⟨p.s0,p.s1,Py _ (by decide),UY (PX _ (by decide)) (by decide),RM p.c0 (VV (Rx c)),by have:=p.c1;omega⟩
 run:=fun n=>by
  have ne:many≠0:=UX hm
  have h1:=p.c1
  have hc0:=p.c0
  have okd:fX d=true:=iP p.d0 (UY p.d1 (by decide))
  have okc:fX (c+1)=true:=iP (RM hc0 (VV (Rx c))) (by omega)
  have okn:fX ((d*48271+(c+1)*(c+1)).fmod 2147483647)=true:=iP (Py _ (by decide)) (UY (PX _ (by decide)) (by decide))
  refine bV (n:=n+29) (fn:=jV) (ρ:=Ad many none) (σ2:=[d7 s ((d*48271+(c+1)*(c+1)).fmod 2147483647) (c+1)]) (W:= .v _) rfl rfl ?_ rfl
  refine av (bc (n:=n+28) (ρ:=Ad many none) (b:=false) (bJ (n:=n+27) (o:= .gt) (W:= .v (.int 0)) (jD (n:=n+25) 0 0 (.int s) rfl rfl) rfl rfl rfl (Nt some (NR hs))) rfl) ?_
  refine av (ρ':=Ad many none) (σ':=[d7 s d (c+1)]) ?_ (av (ρ':=Ad many none) (σ':=[d7 s ((d*48271+(c+1)*(c+1)).fmod 2147483647) (c+1)]) ?_ (dY (n:=n+28) ?_))
  ·rw [iR,aZ,cC (bW (n:=n+27) (o:= .add) (aI (jD (n:=n+25) 2 2 (.int c) rfl rfl) rfl (W:= .v (.int 1)) rfl rfl) rfl) rfl]
   rfl
  ·have e1:(run aj (n+28)).e (.bin .mod (.bin .add (.bin .mul (.idx (.var 0) (.cst (.int 1))) (.cst (.int 48271))) (.bin .mul (.idx (.var 0) (.cst (.int 2))) (.idx (.var 0) (.cst (.int 2))))) (.cst (.int 2147483647))) (Ad many none) [d7 s d (c+1)]=some (.v (.int ((d*48271+(c+1)*(c+1)).fmod 2147483647)),[d7 s d (c+1)]):=
    bW (n:=n+27) (o:= .mod) (aI (bW (n:=n+26) (o:= .add) (aI (bW (n:=n+25) (o:= .mul) (aI (jD (n:=n+23) 1 1 (.int d) rfl rfl) rfl (W:= .v (.int 48271)) rfl rfl) (C6 okd (by decide+kernel))) rfl
     (bW (n:=n+25) (o:= .mul) (aI (jD (n:=n+23) 2 2 (.int (c+1)) rfl rfl) rfl (jD (n:=n+23) 2 2 (.int (c+1)) rfl rfl) rfl) (C6 okc okc)) rfl) (B3 _ _)) rfl (W:= .v (.int 2147483647)) rfl rfl) (u9 (by decide))
   rw [iR,aZ,cC e1 rfl]
   rfl
  ·exact bW (n:=n+27) (o:= .mod) (aI (bW (n:=n+26) (o:= .fdiv) (aI (jD (n:=n+24) 1 1 (.int ((d*48271+(c+1)*(c+1)).fmod 2147483647)) rfl rfl) rfl (W:= .v (.int 32)) rfl rfl) (BG (by decide) okn (by decide+kernel))) rfl (W:= .v (.int many)) rfl rfl) (u9 ne)
theorem lA {k:Nat} {many:Int} (p:tM (k+1) s d c) (hm:0 <many) (hz:many <1099511627776):∃f s' d' c',tI k many s d c f s' d' c':=by
 by_cases hs:0 <s
 ·exact ⟨_,_,_,_,Hq p hs hm hz⟩
 ·exact ⟨_,_,_,_,Fx p hs hm⟩
end
section
set_option exponentiation.threshold 10000
section
variable {n:Nat} {s d c:Int} {ρ:Loc} {σ:ag}
noncomputable def LS:List CS:=[.assign 1 (.bin .add (.bin .mul (.var 1) (.callF 37 [])) (.bin .mod (.callB .int_ [(.var 2)]) (.callF 37 [])))]
noncomputable def CF (u:V) (s:Int) (r:Nh aA):Loc:=[some (.v u),some (.v (.int s)),r]
theorem CU:fX gj=true:=by decide+kernel
theorem Da:(gj^40).natAbs <2^8192:=by decide+kernel
theorem gH:0 <gj:=by decide
structure Ja (j:Nat) (s:Int):Prop where
 lo:0≤s
 hi:s <gj^j
theorem Ja.next {j:Nat} (h:Ja j s) (x:Int):Ja (j+1) (s*gj+x.fmod gj) where
 lo:=Int.add_nonneg (Int.mul_nonneg h.lo (Qx gH)) (Py _ gH)
 hi:=by
  have h1:=PX x gH
  have h2:(s+1)*gj≤gj^j*gj:=Int.mul_le_mul_of_nonneg_right h.hi (Qx gH)
  rw [UZ]
  rw [Int.add_mul,Int.one_mul] at h2
  exact RP (Int.add_lt_add_left h1 _) h2
theorem o9:∀j:Nat,0 <gj^j
 |0=>by decide
 |j+1=>by rw [UZ];exact Int.mul_pos (o9 j) gH
theorem E3 (j k:Nat):gj^j≤gj^(j+k):=by
 induction k with
 |zero=>exact Rx _
 |succ k ih=>
  refine RM ih ?_
  rw [←Oq,UZ]
  have:=Int.mul_le_mul_of_nonneg_left (show (1:Int)≤gj from gH) (Qx (o9 (j+k)))
  rw [Vi] at this
  exact this
theorem Ja.ok {j:Nat} (h:Ja j s) (hj:j≤40):s.natAbs <2^8192:=by
 obtain ⟨k,hk⟩:=QW hj
 have h1:s <gj^40:=RP h.hi (hk▸E3 j k)
 have h2:s.natAbs <(gj^40).natAbs:=by
  have h3:=h.lo
  omega
 exact Pu h2 Da
theorem Jk {E:Ev} (e:CE):dT aj E (.rev e) ρ σ=(eO E e ρ σ).bind fun r=>r.1.lst?.map fun us=>(.v (.lst us.reverse),r.2):=rfl
theorem FL {u:V} {r:Nh aA} (x:Int) (h:fX s=true):bd (run aj (n+50)) (.one 2) LS (.int x) (CF u s r) []=some (.next,CF u (s*gj+x.fmod gj) (some (.v (.int x))),[]):=by
 have b:∀ρ m,(run aj (m+22)).e (.callF 37 []) ρ []=some (.v (.int gj),[]):=fun ρ m=>aB (n:=m+21) (us:=[]) (Us:=[]) rfl rfl (Hz (m+1)) rfl
 exact bk (aD (n:=n+49) (ρ:=CF u s (some (.v (.int x)))) rfl (bW (n:=n+48) (o:= .add) (aI (bW (n:=n+47) (o:= .mul) (aI (U:= .v (.int s)) rfl rfl (b _ (n+25)) rfl) (C6 h CU)) rfl
  (bW (n:=n+47) (o:= .mod) (aI (eQ (n:=n+46) (b:= .int_) (args:=[.var 2]) (us:=[.int x]) rfl rfl) rfl (b _ (n+25)) rfl) (u9 (UX gH))) rfl) (B3 _ _)) rfl)
theorem D9 {u:V}:∀(xs:List Int) (j:Nat) (s:Int),Ja j s→j+xs.length≤40→∃s',(0≤s'∧s'.natAbs <2^8192)∧∀n r,∃r',fy (bd (run aj (n+50)) (.one 2) LS) (xs.map .int) (CF u s r) []=some (.next,CF u s' r',[]):=by
 intro xs
 induction xs with
 |nil=>exact fun j s h hj=>⟨s,⟨h.lo,h.ok hj⟩,fun n r=>⟨r,rfl⟩⟩
 |cons x xs ih=>
  intro j s h hj
  have hj2:j+1+xs.length≤40:=by rw [Oq,OT 1];exact hj
  refine Nf fun nG=> ?_
  obtain ⟨s',q,go⟩:=ih (j+1) _ (h.next x) hj2
  refine nG ?_
  refine ⟨s',q,fun n r=> ?_⟩
  obtain ⟨r',e⟩:=go n (some (.v (.int x)))
  refine ⟨r',?_⟩
  rw [NA,aQ,FL x (Nw (h.ok (Ni (Oa _ _) (PG (Ni (NZ (O8 j xs.length).symm) hj2)))))]
  exact e
theorem Kd (ns:List Int) (hz:ns.length≤63):∃s d c,tM 100 s d c∧l7 80 38 [.lst (ns.map .int)] (d7 s d c):=by
 refine Nf fun nG=> ?_
 obtain ⟨s,⟨h1,h2⟩,go⟩:=D9 (u:= .lst (ns.map .int)) (ns.take 40).reverse 0 0 ⟨Rx 0,o9 0⟩ (by rw [TW,Om];exact Qb _ _)
 refine nG ?_
 have m0:(0:Int)≤((ns.length:Int)).fmod 1000:=Py _ (by decide)
 have m1:((ns.length:Int)).fmod 1000 <1000:=PX _ (by decide)
 refine ⟨s,149+(ns.length:Int).fmod 1000,0,⟨h1,h2,by omega,by omega,Rx 0,by decide⟩,fun n=> ?_⟩
 obtain ⟨r,e⟩:=go (n+28) none
 have hi:dN (run aj (n+78)) (.seq (.rev (.slc (.var 0) none (some (.cst (.int 40)))))) (CF (.lst (ns.map .int)) 0 none) []=some ((ns.take 40).reverse.map .int,[]):=by
  have hb:i8 (.lst (ns.map V.int)) none (some (.int 40))=some (.lst ((ns.take 40).map .int)):=by
   show some (V.lst (((ns.map V.int).take (min 40 (ns.map V.int).length)).drop 0))=_
   rw [Q7,Nl,←Sp]
   congr 3
   rw [←List.take_eq_take_min]
  have e1:(run aj (n+77)).e (.slc (.var 0) none (some (.cst (.int 40)))) (CF (.lst (ns.map .int)) 0 none) []=some (.v (.lst ((ns.take 40).map .int)),[]):=by
   show (i8 (.lst (ns.map V.int)) none (some (.int 40))).map (fun v=>(aA.v v,([]:ag)))=_
   rw [hb];rfl
  have e2:(run aj (n+78)).e (.rev (.slc (.var 0) none (some (.cst (.int 40))))) (CF (.lst (ns.map .int)) 0 none) []=some (.v (.lst ((ns.take 40).reverse.map .int)),[]):=by
   rw [i3,Jk,cC e1 rfl,List.map_reverse];rfl
  rw [uf,cC e2 rfl];rfl
 refine bV (n:=n+79) (fn:=pZ) (ρ:=CF (.lst (ns.map .int)) s r) (σ2:=[]) (W:= .own (d7 s (149+(ns.length:Int).fmod 1000) 0)) rfl rfl ?_ rfl
 refine av (ρ':=CF (.lst (ns.map .int)) 0 none) (σ':=[]) rfl (av (gp (n:=n+78) (t:= .one 2) (body:=LS) hi e) (dY (n:=n+78) ?_))
 have e3:(run aj (n+77)).e (.bin .add (.cst (.int 149)) (.bin .mod (.callB .len [(.var 0)]) (.cst (.int 1000)))) (CF (.lst (ns.map .int)) s r) []=some (.v (.int (149+(ns.length:Int).fmod 1000)),[]):=
  bW (n:=n+76) (o:= .add) (aI (U:= .v (.int 149)) rfl rfl (bW (n:=n+75) (o:= .mod) (aI (eQ (n:=n+74) (us:=[.lst (ns.map .int)]) rfl (show some (V.int ((ns.map V.int).length:Nat))=some (V.int (ns.length:Nat)) by rw [Nl])) rfl (W:= .v (.int 1000)) rfl rfl) (u9 (by decide))) rfl) (B3 _ _)
 rw [i3,d6,vY (U:= .v (.int s)) rfl rfl (aI e3 rfl (W:= .v (.int 0)) rfl rfl)];rfl
end
end
section
variable {n j k g at_ count:Nat} {s d c s' d' c' f w:Int} {ρ:Loc} {σ:ag}
noncomputable def gN (k:Nat):Sg:=[97]++eI k
theorem L9:(OV 201).all (fun k=>cU (([97]:Sg).length+(eI k).length))=true:=by kernel_rfl
theorem wR {k:Nat} (h:k <201):oC (.str [97]) (.str (eI k))=some (.str (gN k)):=by
 show (if cU (([97]:Sg).length+(eI k).length)=true then _ else _)=_
 rw [NG (NC.mp L9 k (Qg.mpr h))];rfl
noncomputable def xI:Nat→Nm
 |0=> .jrcxz
 |1=> .loopne
 |2=> .loope
 |_=> .loop
noncomputable def HP (j:Nat):V:= .lst ((OV j).map fun k=> .str (xI k).s)
inductive Rw (count at_:Nat):Nat→Nat→cr→Prop
 |jmp {a b:Nat}:b≤count→Rw count at_ a a (.jump .jmp (gN b))
 |lp {a b:Nat}:b≤count→Rw count at_ (a+1) a (.jump (xI a) (gN b))
 |ret {a:Nat}:Rw count at_ a a .ret
 |cc {a b:Nat} (z:Bool):b≤count→Rw count at_ a a (.jump (bif z then .je else .jae) (gN b))
 |call {a:Nat} {x:Sg}:x∈[([48,116,49]:Sg),[102,97,114],[48,116,50]]→Rw count at_ a a (.jump .call x)
 |mov {a:Nat}:Rw count at_ a a (.mov false at_ [])
theorem k8 {e1 e2:CE} {m:Int} {r:ag} (T:tI k m s d c f s' d' c') (h1:kL (run aj (n+30)) [e1,e2] ρ (d7 s d c::r)=some ([.cell 0,.v (.int m)],d7 s d c::r)):(run aj (n+31)).e (.callF 39 [e1,e2]) ρ (d7 s d c::r)=some (.v (.int f),d7 s' d' c'::r):=by
 rw [i3,bL,h1]
 show (cO (run aj (n+30)) 39 [.cell 0,.v (.int m)] (d7 s d c::r)).bind _=_
 have:cO (run aj (n+30)) 39 [.cell 0,.v (.int m)] (d7 s d c::r)=some (.ok (.v (.int f)),d7 s' d' c'::r):=by
  unfold cO
  rw [NG (show (eN [.cell 0,.v (.int m)]).Nodup from Pc.mpr ⟨U0,Q9⟩)]
  show ((run aj (n+30)).c 39 [.cell 0,.v (.int m)] [d7 s d c]).map _=_
  rw [T.run n];rfl
 rw [this];rfl
noncomputable def sR (at_ count:Nat) (r4 r5:Nh aA):Loc:=[some (.cell 0),some (.v (ai at_)),some (.v (ai count)),some (.cell 1),r4,r5]
noncomputable def eS (s d c:Int) (j:Nat):ag:=[d7 s d c,HP j]
noncomputable def MH:CS:= .assignT [(4,false),(5,false)] [(.callF 39 [(.var 0),(.cst (.int 8))]),(.bin .add (.cst (.str [97])) (.callB .str_ [(.callF 39 [(.var 0),(.bin .add (.var 2) (.cst (.int 1)))])]))]
noncomputable def M4:CS:= .ite (.cmp (.var 4) .in_ (.tup [(.cst (.int 1)),(.cst (.int 2))])) [.ret (.mk .ins [(.cst (.str [106,109,112])),(.lst [(.mk .rel [(.cst (.int 0)),(.var 5)])])])] []
noncomputable def M7:CS:= .ite (.and [(.cmp (.var 4) .eq (.cst (.int 3))),(.cmp (.var 3) .ne (.lst []))]) [.ret (.mk .ins [(.callS .pop (.var 3) []),(.lst [(.mk .rel [(.cst (.int 0)),(.var 5)])])])] []
noncomputable def Na:CS:= .ite (.cmp (.var 4) .eq (.cst (.int 4))) [.ret (.mk .ins [(.cst (.str [114,101,116])),(.lst [])])] []
noncomputable def M0:CS:= .ite (.cmp (.var 4) .eq (.cst (.int 5))) [.ret (.mk .ins [(.idx (.lst [(.cst (.str [106,101])),(.cst (.str [106,97,101]))]) (.callF 39 [(.var 0),(.cst (.int 2))])),(.lst [(.mk .rel [(.cst (.int 0)),(.var 5)])])])] []
noncomputable def MC:CS:= .ite (.cmp (.var 4) .eq (.cst (.int 6))) [.ret (.mk .ins [(.cst (.str [99,97,108,108])),(.lst [(.mk .rel [(.cst (.int 0)),(.idx (.lst [(.cst (.str [48,116,49])),(.cst (.str [102,97,114])),(.cst (.str [48,116,50]))]) (.callF 39 [(.var 0),(.cst (.int 3))]))])])])] []
noncomputable def LR:CS:= .ret (.mk .ins [(.cst (.str [109,111,118])),(.lst [(.mk .reg [(.callF 36 [(.cst (.int 0)),(.cst (.int 32))])]),(.mk .imm [(.var 1)])])])
theorem Mk {s2 d2 c2:Int} (T1:tI (k+1) 8 s d c w s' d' c') (T2:tI k ((count:Int)+1) s' d' c' g s2 d2 c2) (hg:g <201) {r4 r5:Nh aA}:(run aj (n+60)).s MH (sR at_ count r4 r5) (eS s d c j)=some (.next,sR at_ count (some (.v (.int w))) (some (.v (.str (gN g)))),eS s2 d2 c2 j):=by
 have e1:(run aj (n+59)).e (.callF 39 [(.var 0),(.cst (.int 8))]) (sR at_ count r4 r5) (eS s d c j)=some (.v (.int w),eS s' d' c' j):=k8 (n:=n+28) T1 rfl
 have e2:(run aj (n+57)).e (.callF 39 [(.var 0),(.bin .add (.var 2) (.cst (.int 1)))]) (sR at_ count r4 r5) (eS s' d' c' j)=some (.v (.int g),eS s2 d2 c2 j):=k8 (n:=n+26) T2 rfl
 have e3:(run aj (n+59)).e (.bin .add (.cst (.str [97])) (.callB .str_ [(.callF 39 [(.var 0),(.bin .add (.var 2) (.cst (.int 1)))])])) (sR at_ count r4 r5) (eS s' d' c' j)=some (.v (.str (gN g)),eS s2 d2 c2 j):=
  bW (n:=n+58) (o:= .add) (aI (σ1:=eS s' d' c' j) (U:= .v (.str [97])) rfl rfl (eQ (n:=n+57) (us:=[ai g]) (by rw [en,a0,e2];rfl) (x5 hg)) rfl) (wR hg)
 rw [MH,iR,aK,f8,e1]
 show NK (Pi _ (wb (run aj (n+59)) _ _ (sR at_ count r4 r5) (eS s' d' c' j))) _=_
 rw [f8,e3];rfl
theorem lO {x:CS} {xs:List CS} {r:fg×Loc×ag} (h:(run aj n).s x ρ σ=some (.next,ρ,σ)) (k:aH (run aj n) xs ρ σ=some r):aH (run aj n) (x::xs) ρ σ=some r:=av h k
noncomputable def xA:List CS:=[M4,M7,Na,M0,MC,LR]
noncomputable def oF (at_ count j k:Nat) (w:Int) (g:Nat) (s d c:Int):Prop:=∃i j' s' d' c',Rw count at_ j j' i∧j'≤j∧tM k s' d' c'∧∀n,∃r4 r5,aH (run aj (n+60)) xA (sR at_ count (some (.v (.int w))) (some (.v (.str (gN g))))) (eS s d c j)=some (.ret (.v (aP i)),sR at_ count r4 r5,eS s' d' c' j')
theorem wO (p:tM (k+1) s d c) (hw:w=0∨w=7∨(w=3∧j=0)):oF at_ count j k w g s d c:=by
 refine ⟨_,j,s,d,c,.mov,Nz _,p.le (NQ k),fun n=>⟨some (.v (.int w)),some (.v (.str (gN g))),?_⟩⟩
 rcases hw with rfl|rfl|⟨rfl,rfl⟩<;>kernel_rfl
theorem AI (p:tM (k+1) s d c) (hg:g≤count) (hw:w=1∨w=2):oF at_ count j k w g s d c:=by
 refine ⟨_,j,s,d,c,.jmp hg,Nz _,p.le (NQ k),fun n=>⟨some (.v (.int w)),some (.v (.str (gN g))),?_⟩⟩
 rcases hw with rfl|rfl<;>kernel_rfl
theorem IY (p:tM (k+1) s d c):oF at_ count j k 4 g s d c:=
 ⟨_,j,s,d,c,.ret,Nz _,p.le (NQ k),fun n=>⟨some (.v (.int 4)),some (.v (.str (gN g))),by kernel_rfl⟩⟩
theorem Jx (p:tM (k+1) s d c) (hg:g≤count) (hj:j <4):oF at_ count (j+1) k 3 g s d c:=by
 refine ⟨_,j,s,d,c,.lp hg,NQ _,p.le (NQ k),fun n=>⟨some (.v (.int 3)),some (.v (.str (gN g))),?_⟩⟩
 refine qJ hj ?_ fun hj=>qJ hj ?_ fun hj=>qJ hj ?_ fun hj=>qJ hj ?_ uB<;>kernel_rfl
theorem JE (p:tM (k+1) s d c) (hg:g≤count):oF at_ count j k 5 g s d c:=by
 obtain ⟨f,s',d',c',T⟩:=lA (many:=2) p (by decide) (by decide)
 have hf:=T.lo
 have hf2:=T.hi
 have pre:∀n r,aH (run aj (n+60)) [M0,MC,LR] (sR at_ count (some (.v (.int 5))) (some (.v (.str (gN g))))) (eS s d c j)=some r→aH (run aj (n+60)) xA (sR at_ count (some (.v (.int 5))) (some (.v (.str (gN g))))) (eS s d c j)=some r:=fun n r h=>lO (by kernel_rfl) (lO (by kernel_rfl) (lO (by kernel_rfl) h))
 have e1:∀n,(run aj (n+55)).e (.callF 39 [(.var 0),(.cst (.int 2))]) (sR at_ count (some (.v (.int 5))) (some (.v (.str (gN g))))) (eS s d c j)=some (.v (.int f),eS s' d' c' j):=fun n=>k8 (n:=n+24) T rfl
 have e2:∀n (b:Bool),f=(bif b then 0 else 1)→(run aj (n+58)).e (.mk .ins [(.idx (.lst [(.cst (.str [106,101])),(.cst (.str [106,97,101]))]) (.callF 39 [(.var 0),(.cst (.int 2))])),(.lst [(.mk .rel [(.cst (.int 0)),(.var 5)])])]) (sR at_ count (some (.v (.int 5))) (some (.v (.str (gN g))))) (eS s d c j)=some (.v (aP (.jump (bif b then .je else .jae) (gN g))),eS s' d' c' j):=fun n b hb=>
  qL (n:=n+57) (aI (σ1:=eS s' d' c' j) (u:= .str (bif b then Nm.je else Nm.jae).s) (fj (n:=n+56) (cM (U:= .own (.lst [.str [106,101],.str [106,97,101]])) (W:= .v (.int f)) (σ1:=eS s d c j) rfl (e1 (n+1)) rfl rfl) (by rw [hb];cases b<;>rfl)) rfl (W:= .own (.lst [.inst .rel [.str [114,101,108],.int 0,.str (gN g)]])) rfl rfl) (by cases b<;>rfl)
 have fin:∀b:Bool,f=(bif b then 0 else 1)→oF at_ count j k 5 g s d c:=fun b hb=>
  ⟨_,j,s',d',c',.cc b hg,Nz _,T.pen,fun n=>⟨_,_,pre n _ (d9 (bc (n:=n+59) (b:=true) (bJ (n:=n+58) (o:= .eq) (U:= .v (.int 5)) (W:= .v (.int 5)) rfl rfl rfl rfl (by rw [cq,bh];rfl)) (dY (n:=n+58) (e2 n b hb))) rfl)⟩⟩
 obtain ⟨f,rfl,hw⟩:=nh (n:=2) T.lo T.hi
 have N:=fun {n':Nat}=> @qJ (fun z=>z=f→oF at_ count j k 5 g s d c) f n'
 exact N hw (fun z=>fin false (z▸rfl)) (fun hf=>N hf (fun z=>fin true (z▸rfl)) uB) rfl
theorem E7 (p:tM (k+1) s d c):oF at_ count j k 6 g s d c:=by
 obtain ⟨f,s',d',c',T⟩:=lA (many:=3) p (by decide) (by decide)
 have hf:=T.lo
 have hf2:=T.hi
 have pre:∀n r,aH (run aj (n+60)) [MC,LR] (sR at_ count (some (.v (.int 6))) (some (.v (.str (gN g))))) (eS s d c j)=some r→aH (run aj (n+60)) xA (sR at_ count (some (.v (.int 6))) (some (.v (.str (gN g))))) (eS s d c j)=some r:=fun n r h=>lO (by kernel_rfl) (lO (by kernel_rfl) (lO (by kernel_rfl) (lO (by kernel_rfl) h)))
 have e1:∀n,(run aj (n+50)).e (.callF 39 [(.var 0),(.cst (.int 3))]) (sR at_ count (some (.v (.int 6))) (some (.v (.str (gN g))))) (eS s d c j)=some (.v (.int f),eS s' d' c' j):=fun n=>k8 (n:=n+19) T rfl
 have e2:∀n x,iW (.lst [.str [48,116,49],.str [102,97,114],.str [48,116,50]]) (.int f)=some (.str x)→(run aj (n+58)).e (.mk .ins [(.cst (.str [99,97,108,108])),(.lst [(.mk .rel [(.cst (.int 0)),(.idx (.lst [(.cst (.str [48,116,49])),(.cst (.str [102,97,114])),(.cst (.str [48,116,50]))]) (.callF 39 [(.var 0),(.cst (.int 3))]))])])]) (sR at_ count (some (.v (.int 6))) (some (.v (.str (gN g))))) (eS s d c j)=some (.v (aP (.jump .call x)),eS s' d' c' j):=fun n x hx=>by
  have q1:(run aj (n+55)).e (.idx (.lst [(.cst (.str [48,116,49])),(.cst (.str [102,97,114])),(.cst (.str [48,116,50]))]) (.callF 39 [(.var 0),(.cst (.int 3))])) (sR at_ count (some (.v (.int 6))) (some (.v (.str (gN g))))) (eS s d c j)=some (.v (.str x),eS s' d' c' j):=
   fj (n:=n+54) (cM (U:= .own (.lst [.str [48,116,49],.str [102,97,114],.str [48,116,50]])) (W:= .v (.int f)) (σ1:=eS s d c j) rfl (e1 (n+4)) rfl rfl) hx
  have q2:(run aj (n+56)).e (.mk .rel [(.cst (.int 0)),(.idx (.lst [(.cst (.str [48,116,49])),(.cst (.str [102,97,114])),(.cst (.str [48,116,50]))]) (.callF 39 [(.var 0),(.cst (.int 3))]))]) (sR at_ count (some (.v (.int 6))) (some (.v (.str (gN g))))) (eS s d c j)=some (.v (.inst .rel [.str [114,101,108],.int 0,.str x]),eS s' d' c' j):=
   qL (n:=n+55) (aI (U:= .v (.int 0)) (σ1:=eS s d c j) rfl rfl q1 rfl) rfl
  have q3:(run aj (n+57)).e (.lst [(.mk .rel [(.cst (.int 0)),(.idx (.lst [(.cst (.str [48,116,49])),(.cst (.str [102,97,114])),(.cst (.str [48,116,50]))]) (.callF 39 [(.var 0),(.cst (.int 3))]))])]) (sR at_ count (some (.v (.int 6))) (some (.v (.str (gN g))))) (eS s d c j)=some (.own (.lst [.inst .rel [.str [114,101,108],.int 0,.str x]]),eS s' d' c' j):=by
   rw [i3,d6,et,a0,q2];rfl
  exact qL (n:=n+57) (aI (U:= .v (.str [99,97,108,108])) (σ1:=eS s d c j) rfl rfl q3 rfl) rfl
 have fin:∀x,x∈[([48,116,49]:Sg),[102,97,114],[48,116,50]]→iW (.lst [.str [48,116,49],.str [102,97,114],.str [48,116,50]]) (.int f)=some (.str x)→oF at_ count j k 6 g s d c:=fun x hx h=>
  ⟨_,j,s',d',c',.call hx,Nz _,T.pen,fun n=>⟨_,_,pre n _ (d9 (bc (n:=n+59) (b:=true) (bJ (n:=n+58) (o:= .eq) (U:= .v (.int 6)) (W:= .v (.int 6)) rfl rfl rfl rfl (by rw [cq,bh];rfl)) (dY (n:=n+58) (e2 n x h))) rfl)⟩⟩
 obtain ⟨f,rfl,hw⟩:=nh (n:=3) T.lo T.hi
 have N:=fun {n':Nat}=> @qJ (fun z=>z=f→oF at_ count j k 6 g s d c) f n'
 exact N hw (fun z=>fin _ (.tail _ (.tail _ (.head _))) (z▸rfl)) (fun hf=>N hf (fun z=>fin _ (.tail _ (.head _)) (z▸rfl)) fun hf=>N hf (fun z=>fin _ (.head _) (z▸rfl)) uB) rfl
theorem Kx (p:tM (k+3) s d c) (hc:count≤9) (hj:j≤4):∃i j' s' d' c',Rw count at_ j j' i∧j'≤j∧tM k s' d' c'∧∀n,(run aj (n+61)).c 40 [.cell 0,.v (ai at_),.v (ai count),.cell 1] (eS s d c j)=some (.ok (.v (aP i)),eS s' d' c' j'):=by
 refine Nf fun nG=> ?_
 obtain ⟨w,s1,d1,c1,T1⟩:=lA (many:=8) p (by decide) (by decide)
 obtain ⟨g,s2,d2,c2,T2⟩:=lA (many:=(count:Int)+1) T1.pen (Int.lt_add_one_of_le (Oi _)) (Ps.mpr (ND (NO hc) (by decide:10 <1099511627776)))
 have g0:=T2.lo
 have g1:=T2.hi
 obtain ⟨g,rfl⟩:=Qc g0
 have hg:g≤count:=UW.mp (Int.le_of_lt_add_one g1)
 obtain ⟨w,rfl,hw⟩:=nh (n:=8) T1.lo T1.hi
 have N:=fun {k':Nat}=> @qJ (fun w=>oF at_ count j k w g s2 d2 c2) w k'
 have q:oF at_ count j k w g s2 d2 c2:=N hw (wO T2.pen (.inr (.inl rfl))) fun hw=>N hw (E7 T2.pen) fun hw=>N hw (JE T2.pen hg) fun hw=>N hw (IY T2.pen) fun hw=>N hw (by
  cases j with
  |zero=>exact wO T2.pen (.inr (.inr ⟨rfl,rfl⟩))
  |succ j=>exact Jx T2.pen hg hj) fun hw=>N hw (AI T2.pen hg (.inr rfl)) fun hw=>N hw (AI T2.pen hg (.inl rfl)) fun hw=>N hw (wO T2.pen (.inl rfl)) uB
 obtain ⟨i,j',s',d',c',h1,h2,h3,h4⟩:=q
 refine nG ?_
 refine ⟨i,j',s',d',c',h1,h2,h3,fun n=> ?_⟩
 refine Nf fun nG=> ?_
 obtain ⟨r4,r5,e⟩:=h4 n
 refine nG ?_
 exact bV (n:=n+60) (fn:=qx) (W:= .v (aP i)) rfl rfl (av (Mk (r4:=none) (r5:=none) T1 T2 (ND hg (ND hc (by decide)))) e) rfl
end
section
variable {n j k g count:Nat} {s d c s' d' c':Int} {ρ:Loc} {σ:ag}
inductive iq (count:Nat):Nat→Nat→List cr→Prop
 |nil {a b:Nat}:iq count a b []
 |cons {a b b':Nat} {i:cr} {is:List cr}:Rw count a b b' i→b'≤b→iq count (a+1) b' is→iq count a b (i::is)
noncomputable def xB:CE:= .callF 40 [(.var 1),(.var 16),(.var 2),(.var 3)]
structure vX (ρ:Loc) (count:Nat):Prop where
 len:16 <ρ.length
 r1:ρ[1]? =some (some (.cell 0))
 r2:ρ[2]? =some (some (.v (ai count)))
 r3:ρ[3]? =some (some (.cell 1))
theorem Hy {at_:Nat} {i:cr} {j j':Nat} (F:vX ρ count) (h:∀n,(run aj (n+61)).c 40 [.cell 0,.v (ai at_),.v (ai count),.cell 1] (eS s d c j)=some (.ok (.v (aP i)),eS s' d' c' j')):
  (run aj (n+62)).e xB (ρ.set 16 (some (.v (ai at_)))) (eS s d c j)=some (.v (aP i),eS s' d' c' j'):=by
 have v:∀k U,k≠16→ρ[k]? =some (some U)→(run aj (n+61)).e (.var k) (ρ.set 16 (some (.v (ai at_)))) (eS s d c j)=some (U,eS s d c j):=fun k U hk e=>by
  show ((ρ.set 16 (some (.v (ai at_))))[k]?.join.map _)=_
  rw [Oe (TO hk),e];rfl
 have v16:(run aj (n+61)).e (.var 16) (ρ.set 16 (some (.v (ai at_)))) (eS s d c j)=some (.v (ai at_),eS s d c j):=by
  show ((ρ.set 16 (some (.v (ai at_))))[16]?.join.map _)=_
  rw [Ob F.len];rfl
 have ea:kL (run aj (n+61)) [(.var 1),(.var 16),(.var 2),(.var 3)] (ρ.set 16 (some (.v (ai at_)))) (eS s d c j)=some ([.cell 0,.v (ai at_),.v (ai count),.cell 1],eS s d c j):=by
  rw [a0,v 1 _ (by decide) F.r1]
  show NK (kL _ [(.var 16),(.var 2),(.var 3)] _ _) _=_
  rw [a0,v16]
  show NK (NK (kL _ [(.var 2),(.var 3)] _ _) _) _=_
  rw [a0,v 2 _ (by decide) F.r2]
  show NK (NK (NK (kL _ [(.var 3)] _ _) _) _) _=_
  rw [a0,v 3 _ (by decide) F.r3];rfl
 rw [xB,i3,bL,ea]
 show (cO (run aj (n+61)) 40 [.cell 0,.v (ai at_),.v (ai count),.cell 1] (eS s d c j)).bind _=_
 have:cO (run aj (n+61)) 40 [.cell 0,.v (ai at_),.v (ai count),.cell 1] (eS s d c j)=some (.ok (.v (aP i)),eS s' d' c' j'):=by
  unfold cO
  rw [NG (show (eN [.cell 0,.v (ai at_),.v (ai count),.cell 1]).Nodup from (by decide:([0,1]:List Nat).Nodup))]
  show ((run aj (n+61)).c 40 [.cell 0,.v (ai at_),.v (ai count),.cell 1] (eS s d c j)).map _=_
  rw [h n];rfl
 rw [this];rfl
theorem zP (hc:count≤9):∀m a j k s d c,tM (3*m+k) s d c→j≤4→∃is s' d' c' j',is.length=m∧iq count a j is∧tM k s' d' c'∧∀n ρ,vX ρ count→jt (jh (run aj (n+62)) (.one 16) [] (dQ (run aj (n+62)) xB []) ρ) ((PS a m).map ai) (eS s d c j)=some (is.map aP,eS s' d' c' j'):=by
 intro m
 induction m with
 |zero=>exact fun a j k s d c p hj=>⟨[],s,d,c,j,rfl,.nil,p.le (P4 _ _),fun n ρ _=>rfl⟩
 |succ m ih=>
  intro a j k s d c p hj
  refine Nf fun nG=> ?_
  obtain ⟨i,j1,s1,d1,c1,h1,h2,h3,h4⟩:=Kx (at_:=a) (k:=3*m+k) (p.le (by omega)) hc hj
  obtain ⟨is,s2,d2,c2,j2,q1,q2,q3,q4⟩:=ih (a+1) j1 k s1 d1 c1 h3 (Ni h2 hj)
  refine nG ?_
  refine ⟨i::is,s2,d2,c2,j2,Nt (· +1) q1,.cons h1 h2 q2,q3,fun n ρ F=> ?_⟩
  have e:jh (run aj (n+62)) (.one 16) [] (dQ (run aj (n+62)) xB []) ρ (ai a) (eS s d c j)=some ([aP i],eS s1 d1 c1 j1):=by
   show (eO (run aj (n+62)) xB (ρ.set 16 (some (.v (ai a)))) (eS s d c j)).map _=_
   rw [cC (Hy F h4) rfl];rfl
  rw [Qu,NA]
  show NK (jh _ _ _ _ _ _ _) _=_
  rw [e]
  show NK (jt _ ((PS (a+1) m).map ai) (eS s1 d1 c1 j1)) _=_
  rw [q4 n ρ F];rfl
noncomputable def cH (k:Nat) (os:List (Nh cr)):List ah:=List.rec (motive:=fun _=>Nat→List ah) (fun _=>[]) (fun o _ ih k=>⟨[gN k],o⟩::ih (k+1)) os k
noncomputable def ES (p:Nh cr×Nat):V:= .tup [ai p.2,aS p.1]
theorem yt:∀(os:List (Nh cr)) (k:Nat),jm k (os.map aS)=(os.zipIdx k).map ES
 |[],_=>rfl
 |o::os,k=>Nt (ES (o,k):: ·) (yt os (k+1))
theorem yo:∀(os:List (Nh cr)) (k:Nat),(os.zipIdx k).flatMap (fun p=>[ay ⟨[gN p.2],p.1⟩])=(cH k os).map ay
 |[],_=>rfl
 |o::os,k=>Nt (ay ⟨[gN k],o⟩:: ·) (yo os (k+1))
theorem oA:∀(os:List (Nh cr)) (k:Nat),(cH k os).length=os.length
 |[],_=>rfl
 |_::os,k=>Nt (· +1) (oA os (k+1))
theorem tQ {α:Type} {elt:CE} {t:kN} {it:It} {ifs:List CE} {gs:List CG} {xs:List α} {enc:α→V} {g:α→List V} (hi:dN (run aj n) it ρ σ=some (xs.map enc,σ))
  (ht:∀x∈xs,jh (run aj n) t ifs (dQ (run aj n) elt gs) (qT (Gy t++Dy gs) ρ) (enc x) σ=some (g x,σ)):dQ (run aj n) elt (.mk t it ifs::gs) ρ σ=some (xs.flatMap g,σ):=by
 show (dN (run aj n) it ρ σ).bind _=_
 rw [hi]
 exact jE ht
theorem kr {i:Nat} {elt:CE} {gs:List CG} {us:List V} {σ':ag} (h:dQ (run aj n) elt gs ρ σ=some (us,σ')) (hz:us.length≤1000):(run aj (n+1)).s (.assign i (.comp elt gs)) ρ σ=some (.next,ρ.set i (some (.v (.lst us))),σ'):=by
 show (dQ (run aj n) elt gs ρ σ).bind _=_
 rw [h]
 show (if cU us.length=true then _ else _)=_
 rw [NG (eU (Ni hz (by decide)))]
noncomputable def FZ:CE:= .mk .line [(.lst [(.bin .add (.cst (.str [97])) (.callB .str_ [(.var 17)]))]),(.var 18)]
noncomputable def Gc:List CG:=[(.mk (.two 17 18) (.enum (.bin .add (.var 4) (.lst [(.cst .none)]))) [])]
theorem EZ {is:List cr} (hl:18 <ρ.length) (h4:ρ[4]? =some (some (.v (.lst (is.map aP))))) (hz:is.length≤100):dQ (run aj (n+59)) FZ Gc ρ σ=some ((cH 0 (is.map some++[none])).map ay,σ):=by
 have hi:dN (run aj (n+59)) (.enum (.bin .add (.var 4) (.lst [(.cst .none)]))) ρ σ=some (((is.map some++[none]).zipIdx 0).map ES,σ):=by
  have e:(run aj (n+59)).e (.bin .add (.var 4) (.lst [(.cst .none)])) ρ σ=some (.v (.lst ((is.map some++[none]).map aS)),σ):=by
   have:=bW (n:=n+58) (o:= .add) (l:= .var 4) (r:= .lst [(.cst .none)]) (ρ:=ρ) (σ:=σ) (σ':=σ) (x:= .lst (is.map aP)) (y:= .lst [.none]) (w:= .lst ((is.map some++[none]).map aS)) (aI (σ1:=σ) (U:= .v (.lst (is.map aP))) (by show ρ[4]?.join.map _=_;rw [h4];rfl) rfl (W:= .own (.lst [.none])) rfl rfl) (by
    show (if cU ((is.map aP).length+1)=true then _ else _)=_
    rw [Nl,NG (eU (Ni (NO hz) (by decide))),NS,OG];rfl)
   exact this
  rw [Dc,cC e rfl]
  show some (jm 0 ((is.map some++[none]).map aS),σ)=_
  rw [yt]
 have h:=tQ (n:=n+59) (elt:= .mk .line [(.lst [(.bin .add (.cst (.str [97])) (.callB .str_ [(.var 17)]))]),(.var 18)]) (t:= .two 17 18) (it:= .enum (.bin .add (.var 4) (.lst [(.cst .none)]))) (ifs:=[]) (gs:=[]) (ρ:=ρ) (σ:=σ) (xs:=(is.map some++[none]).zipIdx 0) (enc:=ES) (g:=fun p=>[ay ⟨[gN p.2],p.1⟩]) hi
  (fun p m=>by
   obtain ⟨o,k⟩:=p
   have hk:k <201:=by
    have:=(Vy m).2.1
    rw [Nj,Nl] at this
    exact Od this (Ni (NT (NO hz) 0) (by decide))
   show (eO (run aj (n+59)) _ ((((ρ.set 17 none).set 18 none).set 17 (some (.v (ai k)))).set 18 (some (.v (aS o)))) σ).map _=_
   generalize hr:(((ρ.set 17 none).set 18 none).set 17 (some (.v (ai k)))).set 18 (some (.v (aS o)))=ρ'
   have v17:ρ'[17]? =some (some (.v (ai k))):=by
    rw [←hr,Oe (by decide),Ob (by rw [Ot,Ot];exact O0 hl)]
   have v18:ρ'[18]? =some (some (.v (aS o))):=by
    rw [←hr,Ob (by rw [Ot,Ot,Ot];exact hl)]
   have e17:(run aj (n+55)).e (.var 17) ρ' σ=some (.v (ai k),σ):=by show ρ'[17]?.join.map _=_;rw [v17];rfl
   have e1:(run aj (n+57)).e (.bin .add (.cst (.str [97])) (.callB .str_ [(.var 17)])) ρ' σ=some (.v (.str (gN k)),σ):=
    bW (n:=n+56) (o:= .add) (aI (σ1:=σ) (U:= .v (.str [97])) rfl rfl (eQ (n:=n+55) (us:=[ai k]) (by rw [en,a0,e17];rfl) (x5 hk)) rfl) (wR hk)
   have e2:(run aj (n+58)).e (.lst [(.bin .add (.cst (.str [97])) (.callB .str_ [(.var 17)]))]) ρ' σ=some (.own (.lst [.str (gN k)]),σ):=by rw [i3,d6,et,a0,e1];rfl
   rw [cC (qL (n:=n+58) (aI e2 rfl (W:= .v (aS o)) (by show ρ'[18]?.join.map _=_;rw [v18];rfl) rfl) (w:=ay ⟨[gN k],o⟩) rfl) rfl];rfl)
 rw [yo] at h
 exact h
end
section
variable {n j k g count a:Nat} {L:List ah} {l:ah} {i:cr} {is:List cr} {os:List (Nh cr)}
theorem AA:((OV 200).map gN).Nodup:=ou (g:=fun s=>F3 (s.drop 1)) (by kernel_rfl)
theorem xG:∀(os:List (Nh cr)) (k:Nat),aq (cH k os)=(PS k os.length).map gN
 |[],_=>rfl
 |o::os,k=>Nt (gN k:: ·) (xG os (k+1))
theorem BY:∀(os:List (Nh cr)) (k j:Nat),(cH k os)[j]? =os[j]?.map fun o=>⟨[gN (k+j)],o⟩
 |[],_,_=>rfl
 |_::_,_,0=>rfl
 |o::os,k,j+1=>(BY os (k+1) j).trans (by rw [NJ,R8];rfl)
theorem iq.at {b:Nat} (C:iq count a b is):∀{j:Nat},is[j]? =some i→∃b b',Rw count (a+j) b b' i:=by
 induction C with
 |nil=>exact fun h=>nomatch h
 | @cons a b b' i is r _ _ ih=>
  intro j h
  cases j with
  |zero=>cases h;exact ⟨_,_,r⟩
  |succ j=>
   obtain ⟨x,y,q⟩:=ih h
   rw [O8] at q
   exact ⟨x,y,q⟩
theorem Fm {p q:Nat} (hp:p <4) (hq:q <4) (h:xI p=xI q):p=q:=by
 revert h
 refine qJ (P:=fun p=>xI p=xI q→p=q) hp ?_ fun hp=>qJ hp ?_ fun hp=>qJ hp ?_ fun hp=>qJ hp ?_ uB<;>refine qJ (P:=fun q=>xI _=xI q→_=q) hq ?_ fun hq=>qJ hq ?_ fun hq=>qJ hq ?_ fun hq=>qJ hq ?_ uB<;>first|exact fun _=>rfl|exact fun h=>nomatch h
theorem HK {p:Nat} (x:Sg):qH (.jump (xI p) x)=[.lp (xI p) x]:=by
 unfold xI;split<;>rfl
theorem iq.lps {b:Nat} (C:iq count a b is):b≤4→((items (cH k (is.map some))).filterMap Itm.lp?).Nodup∧∀m∈(items (cH k (is.map some))).filterMap Itm.lp?,∃p,p <b∧m=xI p:=by
 induction C generalizing k with
 |nil=>exact fun _=>⟨Q9,fun m h=>nomatch h⟩
 | @cons a b b' i is r hb _ ih=>
  intro h4
  obtain ⟨h1,h2⟩:=ih (k:=k+1) (Ni hb h4)
  have e:(items (cH k (SQ some (i::is)))).filterMap Itm.lp?=(qH i).filterMap Itm.lp?++(items (cH (k+1) (is.map some))).filterMap Itm.lp?:=Ow
  rw [e]
  have none:(qH i).filterMap Itm.lp?=[]→((qH i).filterMap Itm.lp?++(items (cH (k+1) (is.map some))).filterMap Itm.lp?).Nodup∧∀m∈(qH i).filterMap Itm.lp?++(items (cH (k+1) (is.map some))).filterMap Itm.lp?,∃p,p <b∧m=xI p:=fun z=>by
   rw [z,Qm]
   exact ⟨h1,fun m q=>let ⟨p,a,b⟩:=h2 m q;⟨p,Od a hb,b⟩⟩
  cases r with
  |jmp=>exact none rfl
  |ret=>exact none rfl
  |cc z=>exact none (by cases z<;>rfl)
  |call=>exact none rfl
  |mov=>exact none rfl
  |lp hg=>
   rw [HK]
   refine ⟨Pc.mpr ⟨fun q=> ?_,h1⟩,fun m q=> ?_⟩
   ·obtain ⟨p,u,v⟩:=h2 _ q
    exact absurd (Fm h4 (Od u (PG h4)) v) (Px u)
   ·rcases NN.mp q with rfl|q
    ·exact ⟨_,OD _,rfl⟩
    ·obtain ⟨p,u,v⟩:=h2 m q;exact ⟨p,UV u,v⟩
noncomputable def aX (is:List cr):List ah:=cH 0 (is.map some++[none])
theorem BU:∀(p q:List (Nh cr)) (k:Nat),cH k (p++q)=cH k p++cH (k+p.length) q
 |[],_,_=>rfl
 |o::p,q,k=>Nt (ah.mk [gN k] o:: ·) ((BU p q (k+1)).trans (by rw [Oq,OT 1];rfl))
theorem pC (is:List cr):aX is=cH 0 (is.map some)++[⟨[gN is.length],none⟩]:=by
 unfold aX
 rw [BU,Nl,Om];rfl
theorem kA:(aX is).length=is.length+1:=(oA _ _).trans (by rw [Nj,Nl];rfl)
theorem eH:aq (aX is)=(OV (is.length+1)).map gN:=by
 unfold aX
 rw [xG,Nj,Nl,Ry];rfl
theorem qr (h:(aX is)[j]? =some l):l.labs=[gN j]∧j≤is.length∧(∀x,l.ins=some x→is[j]? =some x):=by
 unfold aX at h
 rw [BY,Om] at h
 have hj:j <(is.map some++[none]).length:=by
  rcases Qk j (is.map some++[none]).length with q|q
  ·exact q
  ·rw [OR q] at h;cases h
 rw [Nj,Nl] at hj
 refine ⟨?_,OE hj,fun x e=> ?_⟩
 ·cases e:(is.map some++[none])[j]? with
  |none=>rw [e] at h;cases h
  |some o=>rw [e] at h;cases h;rfl
 ·rcases ON (OE hj) with q|q
  ·rw [Ov (by rw [Nl];exact q),OF] at h
   cases e2:is[j]? with
   |none=>rw [e2] at h;cases h
   |some y=>rw [e2] at h;cases h;cases e;rfl
  ·subst q
   rw [Ox (by rw [Nl];exact Nz _),Nl,PQ] at h
   cases h;cases e
theorem yB (k:Nat):gN k≠[]∧gN k≠[98]∧gN k∉[([48,116,49]:Sg),[102,97,114],[48,116,50]]:=
 ⟨fun z=>(nomatch z),fun z=>(nomatch (OO z).1),fun m=>by
  rcases NN.mp m with e|m
  ·exact nomatch (OO e).1
  ·rcases NN.mp m with e|m
   ·exact nomatch (OO e).1
   ·exact nomatch (OO (NU.mp m)).1⟩
structure v6 (L:List ah):Prop where
 labs:(aq L).Nodup
 lps:((items L).filterMap Itm.lp?).Nodup
 tg:Tg L
 call:∀l∈L,∀t,l.ins=some (.jump .call t)→t∉aq L
 nil:[]∉aq L
theorem Az {t:Sg} (h: .call t∈items L):∃l∈L,l.ins=some (.jump .call t):=by
 obtain ⟨l,m1,m2⟩:=Pf.mp h
 refine ⟨l,m1,?_⟩
 have m3:Itm.call t∈kf l.ins:=(Nx.mp m2).resolve_left fun z=>let ⟨y,_,e⟩:=Of.mp z;nomatch e
 exact nD m3 (fun _ _ _ e _=>nomatch e) (fun t e1 e=>by rw [e1,Itm.call.inj e]) fun _ _ _ _ e=>nomatch e
theorem v6.core (F:v6 L):kQ (items L) (items L) where
 labs:=cF (L:=L)▸F.labs
 lps:=F.lps
 call:=fun t m q=>let ⟨l,m1,e⟩:=Az m;F.call l m1 t e (eT.mp q)
 old:=fun t m=>m
 span:=fun _ _ _ _ _ b=>b
 mvs:=fun _ _ _ m=>m
 nil:=fun m=>F.nil (eT.mp m)
theorem pa (C:iq count 0 4 is) {t:Sg} (m:l∈aX is) (e:l.ins=some (.jump .call t)):t∈[([48,116,49]:Sg),[102,97,114],[48,116,50]]:=by
 obtain ⟨j,hj⟩:=Oo.mp m
 obtain ⟨b,b',r⟩:=C.at ((qr hj).2.2 _ e)
 generalize hi:cr.jump .call t=i at r
 cases r with
 |jmp=>cases hi
 |ret=>cases hi
 |cc z=>cases z<;>cases hi
 |mov=>cases hi
 | @lp p=>exfalso;unfold xI at hi;split at hi<;>cases hi
 |call q=>cases hi;exact q
theorem jx (C:iq count 0 4 is) (hz:is.length≤9):v6 (aX is) where
 labs:=by
  rw [eH]
  refine AA.sublist (List.Sublist.map _ ?_)
  exact List.range_sublist.mpr (Ni (NO hz) (by decide))
 lps:=by
  rw [pC,aJ,Ow]
  have:(items [⟨[gN is.length],none⟩]).filterMap Itm.lp?=[]:=rfl
  rw [this,NH]
  exact (C.lps (Nz 4)).1
 tg:=fun l m k t e z=>by
  obtain ⟨j,hj⟩:=Oo.mp m
  obtain ⟨b,b',r⟩:=C.at ((qr hj).2.2 _ e)
  subst z
  generalize hi:cr.jump k []=i at r
  cases r with
  |jmp=>cases hi
  |ret=>cases hi
  |cc=>cases hi
  |mov=>cases hi
  |lp=>cases hi
  |call q=>cases hi;exact nomatch (NN.mp q).resolve_left (fun z=>nomatch z)
 call:=fun l m t e q=>by
  have q2:=pa C m e
  rw [eH] at q
  obtain ⟨k,_,rfl⟩:=Of.mp q
  exact (yB k).2.2 q2
 nil:=fun m=>by
  rw [eH] at m
  obtain ⟨k,_,e⟩:=Of.mp m
  exact (yB k).1 e
theorem tP:∀(is:List cr) (k:Nat),∀x∈cH k (is.map some),x.ins.isSome=true
 |[],_,_,h=>nomatch h
 |i::is,k,x,h=>(NN.mp h).elim (fun e=>by rw [e];rfl) (tP is (k+1) x)
theorem rm (C:iq count 0 4 is) (hz:is.length≤9):Inv (items (aX is)) (aX is):=
 ⟨(jx C hz).core,by rw [pC];exact .mk' rfl (tP is 0),(jx C hz).tg,by rw [kA];exact Ni (NO hz) (by decide)⟩
theorem m6 (C:iq count 0 4 is) {w:Bool} {x:Int} {y:Sg} (h:(aX is)[j]? =some l) (e:l.ins=some (.mov w x y)):w=false∧x=j∧y=[]:=by
 obtain ⟨b,b',r⟩:=C.at ((qr h).2.2 _ e)
 rw [Om] at r
 cases r;exact ⟨rfl,rfl,rfl⟩
theorem xv (C:iq count 0 4 is) (hz:is.length≤9):xE (aX is):=fun l m w x y e q=>by
 obtain ⟨j,hj⟩:=Oo.mp m
 obtain ⟨_,_,h3⟩:=m6 C hj e
 exact ((jx C hz).nil (h3▸q)).elim
end
section
variable {n j k g a s:Nat} {L:List ah} {l x:ah} {i:cr} {ρ:Loc} {σ:ag} {A:Nh aA}
noncomputable def HX (i:cr):Bool:=match i with
 | .jump m _=>match m with
  | .jmp=>false
  | .call=>false
  | .jrcxz=>true
  | .loop=>true
  | .loope=>true
  | .loopne=>true
  | .je=>false
  | .jne=>false
  | .jae=>false
  | .jb=>false
 | .ret=>false
 | .mov _ _ _=>false
noncomputable def Bp (l:ah):Nh V:=match l.ins with
 |some (.mov _ i _)=>some (.int i)
 |some .ret=>none
 |some (.jump _ _)=>none
 |none=>none
noncomputable def f6 (L:List ah) (s g:Nat):List ah:=if g≤s then (L.take s).drop g else (L.take g).drop (s+1)
noncomputable def hH (L:List ah):List V:=L.filterMap Bp
theorem He (o:Nh cr):nU 30 41 [j5 o] (.str (bg o)):=fun n=>by
 cases o with
 |none=>kernel_rfl
 |some i=>cases i with
  |jump m t=>cases m<;>kernel_rfl
  |ret=>kernel_rfl
  |mov=>kernel_rfl
noncomputable def v7 (p:ah×Nat):V:= .tup [ai p.2,bT p.1]
theorem nj:∀(L:List ah) (k:Nat),jm k (L.map bT)=(L.zipIdx k).map v7
 |[],_=>rfl
 |l::L,k=>Nt (v7 (l,k):: ·) (nj L (k+1))
noncomputable def M6:CE:= .callB .dict_ [(.comp (.tup [(.var 9),(.var 7)]) [(.mk (.two 7 8) (.enum (.var 0)) []),(.mk (.one 9) (.seq (.idx (.var 8) (.cst (.int 0)))) [])])]
theorem rh (k:Nat):∀(xs:List Sg) (ys:List V) (ks:List Sg) (vs:List V),hS ys=some (ks,vs)→hS ((xs.map fun x=>V.tup [.str x,ai k])++ys)=some (xs++ks,(xs.map fun _=>ai k)++vs)
 |[],_,_,_,h=>h
 |x::xs,ys,ks,vs,h=>by
  show ((hS ((xs.map fun x=>V.tup [.str x,ai k])++ys)).map fun q=>(x::q.1,ai k::q.2))=_
  rw [rh k xs ys ks vs h];rfl
theorem sv:∀(L:List ah) (k:Nat),hS ((L.zipIdx k).flatMap fun p=>p.1.labs.map fun x=>V.tup [.str x,ai p.2])=some (aq L,(cD k L).map ai)
 |[],_=>rfl
 |l::L,k=>by
  rw [Qj,Pm,rh k l.labs _ _ _ (sv L (k+1))]
  show _=some (l.labs++aq L,(l.labs.map (fun _=>k)++cD (k+1) L).map ai)
  rw [NS,OG];rfl
theorem uE:∀(ks:List Sg) (vs:List V) (d:List Sg×List V),ks.length=vs.length→d.1.length=d.2.length→(d.1++ks).Nodup→(ks.zip vs).foldl (fun d kv=>eB d.1 d.2 kv.1 kv.2) d=(d.1++ks,d.2++vs)
 |[],[],d,_,_,_=>by rw [NH,NH];rfl
 |[],_::_,_,h,_,_=>nomatch h
 |_::_,[],_,h,_,_=>nomatch h
 |k::ks,v::vs,d,h,hd,hn=>by
  have hk:k∉d.1:=fun m=>(OL.mp hn).2.2 k m k (.head _) rfl
  show (ks.zip vs).foldl _ (eB d.1 d.2 k v)=_
  rw [o5 hk hd,uE ks vs _ (PO h) (by show (d.1++[k]).length=(d.2++[v]).length;rw [Nj,Nj,hd];rfl) (by show ((d.1++[k])++ks).Nodup;rw [NI];exact hn)]
  show ((d.1++[k])++ks,(d.2++[v])++vs)=_
  rw [NI,NI];rfl
noncomputable def oh (u:V) (r1 r2 r3 r4 r5 r6:Nh aA):Loc:=[some (.v u),r1,r2,r3,r4,r5,r6,none,none,none,none]
theorem sq:∀(L:List ah) (k:Nat),((L.zipIdx k).flatMap fun p=>p.1.labs.map fun x=>V.tup [.str x,ai p.2]).length=nlab L
 |[],_=>rfl
 |l::L,k=>by
  rw [Qj,Pm,Nj,Nl,sq L (k+1)]
  exact Nj.symm
theorem Cz (S:bX L):(run aj (n+40)).e M6 (oh (told L) none none none none none none) σ=some (.v (an L),σ):=by
 have c:=gY (n:=n+38) (elt:= .tup [(.var 9),(.var 7)]) (t:= .two 7 8) (it:= .enum (.var 0)) (ifs:=[]) (gs:=[(.mk (.one 9) (.seq (.idx (.var 8) (.cst (.int 0)))) [])]) (ρ:=oh (told L) none none none none none none) (σ:=σ) (xs:=L.zipIdx 0) (enc:=v7) (g:=fun p=>p.1.labs.map fun x=>V.tup [.str x,ai p.2])
  (show some (jm 0 (L.map bT),σ)=_ by rw [nj]) (fun p m=>by
   obtain ⟨l,k⟩:=p
   have q:=jE (f:=jh (run aj (n+38)) (.one 9) [] (dQ (run aj (n+38)) (.tup [(.var 9),(.var 7)]) []) [some (.v (told L)),none,none,none,none,none,none,some (.v (ai k)),some (.v (bT l)),none,none]) (enc:=V.str) (g:=fun x=>[V.tup [.str x,ai k]]) (σ:=σ) (xs:=l.labs) fun x _=>rfl
   rw [f9] at q
   exact q)
  (by rw [sq];exact Ni S.labs (by decide))
 refine eQ (n:=n+39) (us:=[.lst ((L.zipIdx 0).flatMap fun p=>p.1.labs.map fun x=>V.tup [.str x,ai p.2])]) (by rw [en,a0,c];rfl) ?_
 show (hS _).bind _=_
 rw [sv]
 show (if cU (aq L).length=true then some (V.dct (jR (aq L) ((cD 0 L).map ai)).1 (jR (aq L) ((cD 0 L).map ai)).2) else none)=_
 rw [NG (eU (Ni S.labs (by decide)))]
 unfold jR
 rw [uE (aq L) ((cD 0 L).map ai) ([],[]) (by rw [Nl,mV]) rfl S.nodup];rfl
theorem BI {a b:Nat} (ha:a≤L.length) (hb:b≤L.length):i8 (told L) (some (ai a)) (some (ai b))=some (told ((L.take b).drop a)):=by
 show some (V.lst (((L.map bT).take (if (0:Int)≤(b:Int) then min (b:Int).toNat (L.map bT).length else _)).drop (if (0:Int)≤(a:Int) then min (a:Int).toNat (L.map bT).length else _)))=_
 rw [NG (Oi a),NG (Oi b),O7,O7,Nl,P3 ha,P3 hb,←Sp,←Uk];rfl
noncomputable def Kg:CE:= .or [(.cmp (.slc (.idx (.idx (.var 4) (.cst (.int 1))) (.cst (.int 0))) none (some (.cst (.int 4)))) .eq (.cst (.str [108,111,111,112]))),(.cmp (.idx (.idx (.var 4) (.cst (.int 1))) (.cst (.int 0))) .eq (.cst (.str [106,114,99,120,122])))]
noncomputable def Mc:CE:= .and [(.cmp (.var 5) .ge (.cst (.int 0))),Kg]
noncomputable def MM:CE:= .comp (.idx (.idx (.idx (.idx (.var 10) (.cst (.int 1))) (.cst (.int 2))) (.cst (.int 1))) (.cst (.int 1))) [(.mk (.one 10) (.seq (.var 6)) [(.and [(.cmp (.idx (.var 10) (.cst (.int 1))) .ne (.tup [])),(.cmp (.idx (.idx (.var 10) (.cst (.int 1))) (.cst (.int 0))) .eq (.cst (.str [109,111,118])))])])]
noncomputable def MU:CS:= .assign 5 (.callS .get (.var 1) [(.callF 41 [(.idx (.var 4) (.cst (.int 1)))]),(.neg 1)])
noncomputable def Mv:CS:= .assign 6 (.ite (.cmp (.var 5) .le (.var 3)) (.slc (.var 0) (some (.var 5)) (some (.var 3))) (.slc (.var 0) (some (.bin .add (.var 3) (.cst (.int 1)))) (some (.var 5))))
noncomputable def LM:CS:= .setIdx (.var 2) (.idx (.idx (.var 4) (.cst (.int 1))) (.cst (.int 0))) MM
noncomputable def KO:List CS:=[MU,.ite Mc [Mv,LM] []]
variable {r1 r2 r3 r4 r5 r6:Nh aA} {u:V}
theorem JG {ls:List Sg} (i:cr):cv (run aj (n+50)) Kg (oh u r1 r2 r3 (some (.v (bT ⟨ls,some i⟩))) r5 r6) σ=some (HX i,σ):=by
 cases i with
 |jump m t=>cases m<;>kernel_rfl
 |ret=>kernel_rfl
 |mov=>kernel_rfl
theorem KM {ls:List Sg} (o:Nh cr) (p:Nh Nat) (h:p.isSome=true→o.isSome=true):cv (run aj (n+52)) Mc (oh u r1 r2 r3 (some (.v (bT ⟨ls,o⟩))) (some (.v (DB p))) r6) σ=some (p.isSome&&o.any HX,σ):=by
 refine rq (n:=n+51) (bJ (n:=n+50) (o:= .ge) (U:= .v (DB p)) (W:= .v (.int 0)) rfl rfl rfl rfl ?_) fun hp=> ?_
 ·cases p with
  |none=>rfl
  |some g=>exact Nt some (Nw (Oi g))
 ·cases o with
  |none=>exact nomatch h hp
  |some i=>exact JG (n:=n+1) i
theorem m5:∀L:List ah,(L.flatMap fun l=>(Bp l).toList)=hH L
 |[]=>rfl
 |l::L=>by
  rw [Pm,m5 L]
  unfold hH
  cases h:Bp l with
  |none=>rw [Sq h];rfl
  |some v=>rw [Sr h];rfl
theorem HC (hz:L.length≤1000):(run aj (n+50)).e MM (oh u r1 r2 r3 r4 r5 (some (.v (told L)))) σ=some (.own (.lst (hH L)),σ):=by
 have h:=gY (n:=n+49) (elt:=(.idx (.idx (.idx (.idx (.var 10) (.cst (.int 1))) (.cst (.int 2))) (.cst (.int 1))) (.cst (.int 1)))) (t:= .one 10) (it:= .seq (.var 6)) (ifs:=[(.and [(.cmp (.idx (.var 10) (.cst (.int 1))) .ne (.tup [])),(.cmp (.idx (.idx (.var 10) (.cst (.int 1))) (.cst (.int 0))) .eq (.cst (.str [109,111,118])))])]) (gs:=[]) (ρ:=oh u r1 r2 r3 r4 r5 (some (.v (told L)))) (σ:=σ) (xs:=L) (enc:=bT) (g:=fun l=>(Bp l).toList) rfl
  (fun l _=>by
   obtain ⟨ls,o⟩:=l
   cases o with
   |none=>kernel_rfl
   |some i=>cases i with
    |jump m t=>cases m<;>kernel_rfl
    |ret=>kernel_rfl
    |mov=>kernel_rfl) (by rw [m5];exact Ni (Ss _ _) (Ni hz (by decide)))
 rw [m5] at h
 exact h
theorem L8 {ls:List Sg} {o:Nh cr}:(run aj (n+60)).s MU (oh u (some (.v (an L))) r2 r3 (some (.v (bT ⟨ls,o⟩))) r5 r6) σ=some (.next,oh u (some (.v (an L))) r2 r3 (some (.v (bT ⟨ls,o⟩))) (some (.v (DB (place L (bg o))))) r6,σ):=
 aD (n:=n+59) rfl (FW (n:=n+58) rfl (aB (n:=n+57) (us:=[j5 o]) (Us:=[.v (j5 o)]) rfl rfl (He o (n+27)) rfl) rfl) rfl
theorem yz {a b:CE} {p q:Nat} (h1:(run aj (n+49)).e a (oh (told L) r1 r2 r3 r4 r5 r6) σ=some (.v (ai p),σ)) (h2:(run aj (n+49)).e b (oh (told L) r1 r2 r3 r4 r5 r6) σ=some (.v (ai q),σ)) (hp:p≤L.length) (hq:q≤L.length):(run aj (n+50)).e (.slc (.var 0) (some a) (some b)) (oh (told L) r1 r2 r3 r4 r5 r6) σ=some (.v (told ((L.take q).drop p)),σ):=by
 rw [i3,dW,cC (show (run aj (n+49)).e (.var 0) (oh (told L) r1 r2 r3 r4 r5 r6) σ=some (.v (told L),σ) from rfl) rfl]
 show (NK (Pi _ (eO _ a _ σ)) _)=_
 rw [cC h1 rfl]
 show (NK (Pi _ (eO _ b _ σ)) _)=_
 rw [cC h2 rfl]
 show (i8 (told L) (some (ai p)) (some (ai q))).map (fun v=>(aA.v v,σ))=_
 rw [BI hp hq];rfl
theorem LY {s g:Nat} (hs:s <L.length) (hg:g <L.length):(run aj (n+52)).s Mv (oh (told L) r1 r2 (some (.v (ai s))) r4 (some (.v (ai g))) r6) σ=some (.next,oh (told L) r1 r2 (some (.v (ai s))) r4 (some (.v (ai g))) (some (.v (told (f6 L s g)))),σ):=by
 refine aD (n:=n+51) (U:= .v (told (f6 L s g))) rfl ?_ rfl
 rw [i3,fe,bJ (n:=n+49) (o:= .le) (U:= .v (ai g)) (W:= .v (ai s)) rfl rfl rfl rfl (Fu g s)]
 show (run aj (n+50)).e (bif decide (g≤s) then _ else _) (oh (told L) r1 r2 (some (.v (ai s))) r4 (some (.v (ai g))) r6) σ=_
 unfold f6
 by_cases h:g≤s
 ·rw [Nw h,NG h];exact yz rfl rfl (NP hg) (NP hs)
 ·rw [NR h,NV h];exact yz (fU (n:=n+47) (i:=3) rfl 1) rfl hs (NP hg)
theorem LX {ls:List Sg} {m:Nm} {t:Sg} {ks:List Sg} {vs:List V} {M:List ah} (hz:M.length≤1000) (hk:ks.length≤1000):(run aj (n+51)).s LM (oh u r1 (some (.cell 0)) r3 (some (.v (bT ⟨ls,some (.jump m t)⟩))) r5 (some (.v (told M)))) [.dct ks vs]=
  some (.next,oh u r1 (some (.cell 0)) r3 (some (.v (bT ⟨ls,some (.jump m t)⟩))) r5 (some (.v (told M))),[.dct (eB ks vs m.s (.lst (hH M))).1 (eB ks vs m.s (.lst (hH M))).2]):=
 IH (n:=n+50) (c:=0) (ks:=ks) (vs:=vs) (k:=m.s) (u:= .lst (hH M)) (cC (HC hz) rfl) rfl rfl rfl (Ni hk (by decide))
end
section
variable {n j k g a s:Nat} {L:List ah} {l l' x:ah} {i:cr} {ρ:Loc} {σ:ag} {m:Nm} {t:Sg} {ks:List Sg} {vs:List V}
structure oJ (L:List ah) (s:Nat) (m:Nm) (t:Sg) (g:Nat):Prop where
 row:∃ls,L[s]? =some ⟨ls,some (.jump m t)⟩
 bw:HX (.jump m t)=true
 plc:place L t=some g
structure zi (L:List ah) (a:Nat) (ks:List Sg) (vs:List V):Prop where
 len:ks.length=vs.length
 le:ks.length≤a
 sound:∀k v,f0 ks vs k=some v→∃s m t g,oJ L s m t g∧m.s=k∧v= .lst (hH (f6 L s g))
 compl:∀s m t g,s <a→oJ L s m t g→f0 ks vs m.s=some (.lst (hH (f6 L s g)))
theorem nq:∀{ks:List Sg} {vs:List V} {x y:Sg} {v:V},ks.length=vs.length→f0 (eB ks vs x v).1 (eB ks vs x v).2 y=if x=y then some v else f0 ks vs y
 |[],[],x,y,v,_=>rfl
 |[],_::_,_,_,_,h=>nomatch h
 |_::_,[],_,_,_,h=>nomatch h
 |k::ks,w::vs,x,y,v,h=>by
  have e:eB (k::ks) (w::vs) x v=if k=x then (k::ks,v::vs) else (k::(eB ks vs x v).1,w::(eB ks vs x v).2):=rfl
  rw [e]
  by_cases hk:k=x
  ·rw [NG hk]
   show (if k=y then some v else f0 ks vs y)=if x=y then some v else (if k=y then some w else f0 ks vs y)
   rw [hk]
   by_cases hx:x=y
   ·rw [NG hx,NG hx]
   ·rw [NV hx,NV hx]
    exact (NV hx).symm
  ·rw [NV hk]
   show (if k=y then some w else f0 (eB ks vs x v).1 (eB ks vs x v).2 y)=if x=y then some v else (if k=y then some w else f0 ks vs y)
   rw [nq (PO h)]
   by_cases hx:x=y
   ·rw [NG hx,NG hx,NV fun z=>hk (z.trans hx.symm)]
   ·rw [NV hx,NV hx]
theorem mY:∀{ks:List Sg} {vs:List V} {x:Sg} {v:V},ks.length=vs.length→(eB ks vs x v).1.length=(eB ks vs x v).2.length∧(eB ks vs x v).1.length≤ks.length+1
 |[],[],_,_,_=>⟨rfl,Nz _⟩
 |[],_::_,_,_,h=>nomatch h
 |_::_,[],_,_,h=>nomatch h
 |k::ks,w::vs,x,v,h=>by
  have e:eB (k::ks) (w::vs) x v=if k=x then (k::ks,v::vs) else (k::(eB ks vs x v).1,w::(eB ks vs x v).2):=rfl
  rw [e]
  by_cases hk:k=x
  ·rw [NG hk];exact ⟨h,NQ _⟩
  ·rw [NV hk]
   obtain ⟨h1,h2⟩:=mY (x:=x) (v:=v) (PO h)
   exact ⟨Nt (· +1) h1,NO h2⟩
theorem Ar {i j:Nat} (h1:L[i]? =some l) (h2:L[j]? =some l') (h:i <j):[l,l'].Sublist L:=by
 rw [gQ h1]
 exact (Tc l (Pg.mpr (mo h2 h))).trans (N8 _ _)
theorem I4 (h:HX (.jump m t)=true):qH (.jump m t)=[.lp m t]:=by cases m<;>first|rfl|cases h
theorem pQ (h:oJ L s m t g):∃l,L[s]? =some l∧ .lp m t∈jG l∧l.ins=some (.jump m t):=by
 obtain ⟨ls,q⟩:=h.row
 exact ⟨_,q,Nx.mpr (.inr (show Itm.lp m t∈qH (.jump m t) by rw [I4 h.bw];exact .head _)),rfl⟩
theorem Fb (U:((items L).filterMap Itm.lp?).Nodup) {s':Nat} {t':Sg} {g':Nat} (h1:oJ L s m t g) (h2:oJ L s' m t' g'):s=s':=by
 have no:∀{i j:Nat} {t t':Sg} {g g':Nat},i <j→oJ L i m t g→oJ L j m t' g'→Rr:=fun {i j t t' g g'} h h1 h2=>by
  obtain ⟨l,q1,m1,_⟩:=pQ h1
  obtain ⟨l',q2,m2,_⟩:=pQ h2
  have sub:=((jl (Ar q1 q2 h)).filterMap Itm.lp?)
  have e:items [l,l']=jG l++(jG l'++[]):=rfl
  rw [e,NH,Ow] at sub
  exact (OL.mp (U.sublist sub)).2.2 m (AU m1) m (AU m2) rfl
 rcases Sf s s' with z|z|z
 ·exact (no z h1 h2).elim
 ·exact z
 ·exact (no z h2 h1).elim
theorem zi.skip (D:zi L a ks vs) (h:∀m t g,¬oJ L a m t g):zi L (a+1) ks vs:=
 ⟨D.len,PE D.le,D.sound,fun s m t g hs q=>D.compl s m t g (R7 (OE hs) fun z=>h m t g (z▸q)) q⟩
theorem zi.put (U:((items L).filterMap Itm.lp?).Nodup) (D:zi L a ks vs) (q:oJ L a m t g):zi L (a+1) (eB ks vs m.s (.lst (hH (f6 L a g)))).1 (eB ks vs m.s (.lst (hH (f6 L a g)))).2 where
 len:=(mY D.len).1
 le:=Ni (mY D.len).2 (NO D.le)
 sound:=fun k v h=>by
  rw [nq D.len] at h
  by_cases z:m.s=k
  ·rw [NG z] at h;cases h;exact ⟨a,m,t,g,q,z,rfl⟩
  ·rw [NV z] at h;exact D.sound k v h
 compl:=fun s m' t' g' hs q'=>by
  rw [nq D.len]
  by_cases z:m.s=m'.s
  ·have:=HR z
   refine Nf fun nG=> ?_
   subst this
   have:=Fb U q q'
   subst this
   obtain ⟨ls,e1⟩:=q.row
   obtain ⟨ls',e2⟩:=q'.row
   rw [e1] at e2
   cases e2
   have:=q.plc.symm.trans q'.plc
   cases this
   refine nG ?_
   exact NG rfl
  ·rw [NV z]
   exact D.compl s m' t' g' (R7 (OE hs) fun w=>z (by
    subst w
    obtain ⟨ls,e1⟩:=q.row
    obtain ⟨ls',e2⟩:=q'.row
    rw [e1] at e2
    cases e2;rfl)) q'
noncomputable def Jm (L:List ah) (xs:List (ah×Nat)) (ks:List Sg) (vs:List V) (ks':List Sg) (vs':List V):Prop:=∀n r3 r4 r5 r6,∃r3' r4' r5' r6',fy (bd (run aj (n+61)) (.two 3 4) KO) (xs.map v7) (oh (told L) (some (.v (an L))) (some (.cell 0)) r3 r4 r5 r6) [.dct ks vs]=some (.next,oh (told L) (some (.v (an L))) (some (.cell 0)) r3' r4' r5' r6',[.dct ks' vs'])
theorem DV (S:bX L) (h0:[]∉aq L) (U:((items L).filterMap Itm.lp?).Nodup) (D:zi L a ks vs) (hl:L[a]? =some l):∃ks' vs',zi L (a+1) ks' vs'∧∀n r3 r4 r5 r6,∃r5' r6',bd (run aj (n+61)) (.two 3 4) KO (v7 (l,a)) (oh (told L) (some (.v (an L))) (some (.cell 0)) r3 r4 r5 r6) [.dct ks vs]=some (.next,oh (told L) (some (.v (an L))) (some (.cell 0)) (some (.v (ai a))) (some (.v (bT l))) r5' r6',[.dct ks' vs']):=by
 have ha:=(Nq.mp hl).1
 obtain ⟨ls,o⟩:=l
 have ho:(place L (bg o)).isSome=true→o.isSome=true:=fun h=>by
  cases o with
  |none=>rw [show bg none=[] from rfl,k7 h0] at h;cases h
  |some i=>rfl
 have go:∀{n r3 r4 r5 r6 r},aH (run aj (n+61)) [.ite Mc [Mv,LM] []] (oh (told L) (some (.v (an L))) (some (.cell 0)) (some (.v (ai a))) (some (.v (bT ⟨ls,o⟩))) (some (.v (DB (place L (bg o))))) r6) [.dct ks vs]=some r→bd (run aj (n+61)) (.two 3 4) KO (v7 (⟨ls,o⟩,a)) (oh (told L) (some (.v (an L))) (some (.cell 0)) r3 r4 r5 r6) [.dct ks vs]=some r:=fun {n r3 r4 r5 r6 r} h=>
  show aH _ KO (oh (told L) (some (.v (an L))) (some (.cell 0)) (some (.v (ai a))) (some (.v (bT ⟨ls,o⟩))) r5 r6) _=_ from av (L8 (n:=n+1)) h
 cases hb:((place L (bg o)).isSome&&o.any HX) with
 |false=>
  refine ⟨ks,vs,D.skip fun m t g q=> ?_,fun n r3 r4 r5 r6=>⟨_,_,go (bk (bc (n:=n+60) (KM (n:=n+8) o _ ho) (by rw [hb];rfl)))⟩⟩
  obtain ⟨ls',e⟩:=q.row
  rw [hl] at e
  cases e
  rw [show place L (bg (some (.jump m t)))=some g from q.plc,show (some (cr.jump m t)).any HX=true from q.bw] at hb
  cases hb
 |true=>
  obtain ⟨b1,b2⟩:=Np.mp hb
  obtain ⟨g,hg⟩:=Og.mp b1
  cases o with
  |none=>cases b2
  |some i=>cases i with
   |ret=>cases b2
   |mov=>cases b2
   |jump m t=>
    have hz:(f6 L a g).length≤1000:=by
     unfold f6
     split
     ·exact Ni (gM _ _ S) (by decide)
     ·exact Ni (gM _ _ S) (by decide)
    have hk:ks.length≤1000:=Ni D.le (Ni (NP ha) S.len')
    refine ⟨_,_,D.put U ⟨⟨ls,hl⟩,b2,hg⟩,fun n r3 r4 r5 r6=>⟨_,_,go (bk (bc (n:=n+60) (KM (n:=n+8) (some (.jump m t)) _ ho) (by
     rw [hb,show place L (bg (some (.jump m t)))=some g from hg]
     exact av (LY (n:=n+8) ha (fQ hg)) (bk (LX (n:=n+9) hz hk)))))⟩⟩
theorem Eb (S:bX L) (h0:[]∉aq L) (U:((items L).filterMap Itm.lp?).Nodup):∀(xs:List ah) a ks vs,zi L a ks vs→L.drop a=xs→∃ks' vs',zi L (a+xs.length) ks' vs'∧Jm L (xs.zipIdx a) ks vs ks' vs':=by
 intro xs
 induction xs with
 |nil=>exact fun a ks vs D _=>⟨ks,vs,D,fun n r3 r4 r5 r6=>⟨_,_,_,_,rfl⟩⟩
 |cons l xs ih=>
  intro a ks vs D hd
  have hl:L[a]? =some l:=by
   have:=Nt (·[0]?) hd
   simp only [PA,Nat.add_zero] at this
   exact this
  refine Nf fun nG=> ?_
  obtain ⟨k1,v1,D1,t1⟩:=DV S h0 U D hl
  obtain ⟨k2,v2,D2,t2⟩:=ih (a+1) k1 v1 D1 (by
   have:=Nt List.tail hd
   rw [List.tail_drop] at this;exact this)
  refine nG ?_
  refine ⟨k2,v2,?_,fun n r3 r4 r5 r6=> ?_⟩
  ·rw [O8] at D2;exact D2
  ·obtain ⟨s5,s6,e1⟩:=t1 n r3 r4 r5 r6
   refine Nf fun nG=> ?_
   obtain ⟨u3,u4,u5,u6,e2⟩:=t2 n (some (.v (ai a))) (some (.v (bT l))) s5 s6
   refine nG ?_
   refine ⟨u3,u4,u5,u6,?_⟩
   rw [Qj,NA,aQ,e1]
   exact e2
theorem sd (S:bX L) (h0:[]∉aq L) (U:((items L).filterMap Itm.lp?).Nodup):∃ks vs,zi L L.length ks vs∧l7 80 42 [told L] (.dct ks vs):=by
 refine Nf fun nG=> ?_
 obtain ⟨ks,vs,D,go⟩:=Eb S h0 U L 0 [] [] ⟨rfl,Nz 0,fun k v h=>(nomatch h),fun s m t g h=>absurd h (PI s)⟩ rfl
 refine nG ?_
 rw [Om] at D
 refine ⟨ks,vs,D,fun n=> ?_⟩
 refine Nf fun nG=> ?_
 obtain ⟨r3,r4,r5,r6,e⟩:=go (n+17) none none none none
 refine nG ?_
 have hi:dN (run aj (n+78)) (.enum (.var 0)) (oh (told L) (some (.v (an L))) (some (.cell 0)) none none none none) [.dct [] []]=some ((L.zipIdx 0).map v7,[.dct [] []]):=by
  show some (jm 0 (L.map bT),_)=_
  rw [nj]
 exact bV (n:=n+79) (fn:=kh) (W:= .cell 0) rfl rfl
  (av (aD (n:=n+78) rfl (Cz (n:=n+38) S) rfl) (av (ρ':=oh (told L) (some (.v (an L))) (some (.cell 0)) none none none none) (σ':=[.dct [] []]) rfl (av (gp (n:=n+78) (t:= .two 3 4) (body:=KO) hi e) (dY (n:=n+78) rfl)))) rfl
end
section
variable {n j k g a s:Nat} {L:List ah} {l l' x:ah} {m:Nm} {t:Sg} {w:Bool} {i:Int} {y:Sg} {v:V}
theorem vg (h:v∈hH L):∃l∈L,∃w i y,l.ins=some (.mov w i y)∧v= .int i:=by
 obtain ⟨l,m,e⟩:=Pb.mp h
 refine ⟨l,m,?_⟩
 obtain ⟨ls,o⟩:=l
 cases o with
 |none=>cases e
 |some x=>cases x with
  |jump=>cases e
  |ret=>cases e
  |mov w i y=>cases e;exact ⟨w,i,y,rfl,rfl⟩
theorem yk {i j:Nat} (h:l∈(L.take j).drop i):∃k,i≤k∧k <j∧L[k]? =some l:=by
 obtain ⟨q,hq⟩:=Oo.mp h
 rw [PA] at hq
 have lt:i+q <j:=by
  rcases Qk (i+q) j with z|z
  ·exact z
  ·rw [List.getElem?_take_eq_none z] at hq;cases hq
 rw [QI lt] at hq
 exact ⟨i+q,Oa _ _,lt,hq⟩
theorem Ga {i j k:Nat} {l1 l2 l3:ah} (h1:L[i]? =some l1) (h2:L[j]? =some l2) (h3:L[k]? =some l3) (a:i <j) (b:j <k):[l1,l2,l3].Sublist L:=by
 have h2':(L.drop (i+1))[j -(i+1)]? =some l2:=by rw [PA,P9 a];exact h2
 have h3':(L.drop (i+1))[k -(i+1)]? =some l3:=by rw [PA,P9 (Pu a b)];exact h3
 rw [gQ h1]
 exact (Tc l1 (Ar h2' h3' (Nat.sub_lt_sub_right a b))).trans (N8 _ _)
theorem AE {l1 l2 l3:ah} {p q r:Itm} (h:[l1,l2,l3].Sublist L) (m1:p∈jG l1) (m2:q∈jG l2) (m3:r∈jG l3):[p,q,r].Sublist (items L):=
 ((Pg.mpr m1).append ((Pg.mpr m2).append ((Pg.mpr m3).append (Vg [])))).trans (jl h)
theorem wi (h:l.ins=some (.mov w i y)): .mv w i y∈jG l:=Nx.mpr (.inr (by rw [h];exact .head _))
theorem AW {x:Sg} (h:x∈l.labs): .lab x∈jG l:=Nx.mpr (.inl (OS h))
theorem At (h:oJ L s m t g) (hv:v∈hH (f6 L s g)):∃w i y,v= .int i∧Lj (items L) m t w i y:=by
 refine Nf fun nG=> ?_
 obtain ⟨l,ml,w,i,y,e,rfl⟩:=vg hv
 refine nG ?_
 refine ⟨w,i,y,rfl,?_⟩
 refine Nf fun nG=> ?_
 obtain ⟨lg,hg,tg⟩:=iC h.plc
 obtain ⟨ls,hs,ms,_⟩:=pQ h
 refine nG ?_
 unfold f6 at ml
 by_cases z:g≤s
 ·rw [NG z] at ml
  obtain ⟨k,k1,k2,hk⟩:=yk ml
  refine .inr ?_
  rcases ON k1 with q|q
  ·exact AE (Ga hg hk hs q k2) (AW tg) (wi e) ms
  ·subst q
   rw [hk] at hg
   refine Nf fun nG=> ?_
   cases hg
   refine nG ?_
   have s1:[Itm.lab t,.mv w i y].Sublist (jG l):=(Pg.mpr (OS tg)).append (Pg.mpr (by rw [e];exact .head _))
   exact (s1.append ((Pg.mpr ms).append (Vg []))).trans (jl (Ar hk hs k2))
 ·rw [NV z] at ml
  obtain ⟨k,k1,k2,hk⟩:=yk ml
  exact .inl (AE (Ga hs hk hg k1 k2) ms (wi e) (AW tg))
noncomputable def rk (k:Nat) (L:List ah):List (Itm×Nat):=List.rec (motive:=fun _=>Nat→List (Itm×Nat)) (fun _=>[]) (fun l _ ih k=>l.labs.map (fun x=>(.lab x,2*k))++((kf l.ins).map (fun g=>(g,2*k+1))++ih (k+1))) L k
theorem Ax:∀(L:List ah) (k:Nat),(rk k L).map (·.1)=items L
 |[],_=>rfl
 |l::L,k=>by
  show (l.labs.map (fun x=>(Itm.lab x,2*k))++((kf l.ins).map (fun g=>(g,2*k+1))++rk (k+1) L)).map (·.1)=_
  rw [NS,NS,OG,OG,Ax L (k+1),aR,jG,NI]
  congr 2
  exact Vo _
theorem tS:∀{L:List ah} {k:Nat} {p:Itm×Nat},p∈rk k L→∃j l,L[j]? =some l∧((p.1∈l.labs.map Itm.lab∧p.2=2*(k+j))∨(p.1∈kf l.ins∧p.2=2*(k+j)+1))
 |[],_,_,h=>nomatch h
 |l::L,k,p,h=>by
  rcases Nx.mp h with h|h
  ·obtain ⟨x,m,e⟩:=Of.mp h
   exact ⟨0,l,rfl,.inl ⟨by rw [←e];exact OS m,by rw [←e];rfl⟩⟩
  ·rcases Nx.mp h with h|h
   ·obtain ⟨x,m,e⟩:=Of.mp h
    exact ⟨0,l,rfl,.inr ⟨by rw [←e];exact m,by rw [←e];rfl⟩⟩
   ·obtain ⟨j,l',q,r⟩:=tS h
    exact ⟨j+1,l',q,by rw [←Oq,R8];exact r⟩
theorem GP {L:List ah} {k:Nat} {p:Itm×Nat} (h:p∈rk k L):2*k≤p.2:=by
 obtain ⟨j,l,_,q⟩:=tS h
 rcases q with ⟨_,q⟩|⟨_,q⟩<;>rw [q]<;>omega
theorem rU:∀(L:List ah) (k:Nat),(rk k L).Pairwise fun p q=>p.2≤q.2
 |[],_=>List.Pairwise.nil
 |l::L,k=>by
  refine TN.mpr ⟨Rf.mpr (SU fun _ _=>Nz _),TN.mpr ⟨Rf.mpr (SU fun _ _=>Nz _),rU L (k+1),fun p hp q hq=> ?_⟩,fun p hp q hq=> ?_⟩
  ·obtain ⟨_,_,e⟩:=Of.mp hp
   have:=GP hq
   rw [←e]
   show 2*k+1≤q.2
   omega
  ·obtain ⟨_,_,e⟩:=Of.mp hp
   rw [←e]
   show 2*k≤q.2
   rcases Nx.mp hq with hq|hq
   ·obtain ⟨_,_,e⟩:=Of.mp hq
    rw [←e];exact NQ _
   ·have:=GP hq;omega
theorem F4 {p q r:Itm} (h:[p,q,r].Sublist (items L)):∃a b c,(p,a)∈rk 0 L∧(q,b)∈rk 0 L∧(r,c)∈rk 0 L∧a≤b∧b≤c:=by
 refine Nf fun nG=> ?_
 rw [←Ax L 0] at h
 obtain ⟨s,hs,e⟩:=List.sublist_map_iff.mp h
 obtain ⟨x,s1,e1,e2,e⟩:=RB.mp e.symm
 obtain ⟨y,s2,e3,e4,e⟩:=RB.mp e
 obtain ⟨z,s3,e5,e6,e⟩:=RB.mp e
 rw [e1,e3,e5] at hs
 have pw:=(rU L 0).sublist hs
 exact nG ⟨x.2,y.2,z.2,e2▸hs.mem (.head _),e4▸hs.mem (.tail _ (.head _)),e6▸hs.mem (.tail _ (.tail _ (.head _))),(R9.mp pw).1 _ (.head _),(R9.mp (R9.mp pw).2).1 _ (.head _)⟩
theorem AM {p:Itm} {r:Nat} (h:(p,r)∈rk 0 L) (hp:∀x,p≠ .lab x):∃j l,L[j]? =some l∧p∈kf l.ins∧r=2*j+1:=by
 refine Nf fun nG=> ?_
 obtain ⟨j,l,q,z⟩:=tS h
 refine nG ?_
 rw [Om] at z
 rcases z with ⟨z,_⟩|⟨z,e⟩
 ·obtain ⟨x,_,e⟩:=Of.mp z
  exact (hp x e.symm).elim
 ·exact ⟨j,l,q,z,e⟩
theorem Ha {x:Sg} {r:Nat} (h:(.lab x,r)∈rk 0 L):∃j l,L[j]? =some l∧x∈l.labs∧r=2*j:=by
 refine Nf fun nG=> ?_
 obtain ⟨j,l,q,z⟩:=tS h
 refine nG ?_
 rw [Om] at z
 rcases z with ⟨z,e⟩|⟨z,_⟩
 ·obtain ⟨y,m,e2⟩:=Of.mp z
  cases e2
  exact ⟨j,l,q,m,e⟩
 ·exact nD z (fun _ _ _ e _=>nomatch e) (fun _ _ e=>nomatch e) fun _ _ _ _ e=>nomatch e
theorem Ih {o:Nh cr} (h: .lp m t∈kf o):o=some (.jump m t)∧HX (.jump m t)=true:=
 nD h (fun m' t' e1 e2 hl=>by
  have e:=Itm.lp.inj e2
  rw [e.1,e.2];exact ⟨e1,by cases m'<;>first|rfl|cases hl⟩) (fun _ _ e=>nomatch e) fun _ _ _ _ e=>nomatch e
theorem Aj {o:Nh cr} (h: .mv w i y∈kf o):o=some (.mov w i y):=
 nD h (fun _ _ _ e _=>nomatch e) (fun _ _ e=>nomatch e) fun _ _ _ e1 e2=>by have e:=Itm.mv.inj e2;rw [e.1,e.2.1,e.2.2];exact e1
theorem Fs (h:L[k]? =some l) (e:l.ins=some (.mov w i y)) {M:List ah} (hm:l∈M):V.int i∈hH M:=Pb.mpr ⟨l,hm,by unfold Bp;rw [e]⟩
theorem AX (hn:(aq L).Nodup) (b:Lj (items L) m t w i y):∃s g,oJ L s m t g∧V.int i∈hH (f6 L s g):=by
 have fin:∀{a b c},(Itm.lp m t,a)∈rk 0 L→(Itm.mv w i y,b)∈rk 0 L→(Itm.lab t,c)∈rk 0 L→(a≤b∧b≤c)∨(c≤b∧b≤a)→∃s g,oJ L s m t g∧V.int i∈hH (f6 L s g):=fun {a b c} h1 h2 h3 h=>by
  refine Nf fun nG=> ?_
  obtain ⟨s,l1,q1,m1,e1⟩:=AM h1 fun x z=>nomatch z
  obtain ⟨k,l2,q2,m2,e2⟩:=AM h2 fun x z=>nomatch z
  obtain ⟨g,l3,q3,m3,e3⟩:=Ha h3
  obtain ⟨i1,b1⟩:=Ih m1
  have i2:=Aj m2
  have ne:s≠k:=fun z=>by
   subst z
   rw [q1] at q2
   cases q2
   rw [i1] at i2
   cases i2
  subst e1 e2 e3
  refine nG ?_
  refine ⟨s,g,⟨⟨l1.labs,by rw [q1,←i1]⟩,b1,mh hn q3 m3⟩,Fs q2 i2 ?_⟩
  unfold f6
  rcases h with ⟨h,h'⟩|⟨h,h'⟩
  ·rw [NV (by omega)];exact gr q2 (by omega) (by omega)
  ·rw [NG (by omega)];exact gr q2 (by omega) (by omega)
 rcases b with b|b
 ·obtain ⟨a,b,c,h1,h2,h3,h4,h5⟩:=F4 b;exact fin h1 h2 h3 (.inl ⟨h4,h5⟩)
 ·obtain ⟨a,b,c,h1,h2,h3,h4,h5⟩:=F4 b;exact fin h3 h2 h1 (.inr ⟨h4,h5⟩)
end
section
variable {n j k g a s:Nat} {L G:List ah} {y:Sg} {i:Int}
noncomputable def dO (i:Int) (y:Sg) (G:List ah):List ah:=⟨[[98]],some (.mov true i y)⟩::G
theorem Bm (h:G≠[]):(dO i y G).dropLast=⟨[[98]],some (.mov true i y)⟩::G.dropLast:=by
 cases G with
 |nil=>exact (h rfl).elim
 |cons g G=>rfl
theorem Eu {r1 r2:Nh aA} (hG:G≠[]) (h0:[]∉aq (dO i y G)) (hy:y∈aq (dO i y G)) (hi:i≠0):∃r1' r2',(run aj (n+80)).s (.for_ (.one 1) (.seq (.slc (.var 0) none (some (.neg 1)))) qO) (jQ (dO i y G) r1 r2 (some (.v (an (dO i y G))))) []=some (.exc,jQ (dO i y G) r1' r2' (some (.v (an (dO i y G)))),[]):=by
 let o1:V:= .inst .reg [.str [114,101,103],w0 true]
 let o2:V:= .inst .imm [.str [105,109,109],.int i,.str y]
 let l:ah:=⟨[[98]],some (.mov true i y)⟩
 have e1:=vB (n:=n+18) (L:=dO i y G) (r1:=some (.v (ay l))) (r2:=r2) (o:=o1) (x:=[]) (b:=false) rfl (fun h=>by rw [k7 h0] at h;cases h) fun _=>rfl
 have e2:=vB (n:=n+18) (L:=dO i y G) (r1:=some (.v (ay l))) (r2:=some (.v o1)) (o:=o2) (x:=y) (b:=true) rfl (fun h=>⟨i,rfl,by rw [NR hi];rfl⟩) fun h=>by
  rw [←ij,Nw hy] at h;cases h
 have hi2:dN (run aj (n+78)) (.seq (.attr (.attr (.var 1) .instruction) .operands)) (jQ (dO i y G) (some (.v (ay l))) r2 (some (.v (an (dO i y G))))) []=some ([o1,o2],[]):=rfl
 have inner:(run aj (n+79)).s (.for_ (.one 2) (.seq (.attr (.attr (.var 1) .instruction) .operands)) FA) (jQ (dO i y G) (some (.v (ay l))) r2 (some (.v (an (dO i y G))))) []=some (.exc,jQ (dO i y G) (some (.v (ay l))) (some (.v o2)) (some (.v (an (dO i y G)))),[]):=by
  refine gp (n:=n+78) (t:= .one 2) (body:=FA) hi2 ?_
  show fy (bd (run aj (n+78)) (.one 2) FA) [o1,o2] _ _=_
  rw [aQ,e1]
  show fy (bd (run aj (n+78)) (.one 2) FA) [o2] _ _=_
  rw [aQ,e2];rfl
 refine ⟨some (.v (ay l)),some (.v o2),?_⟩
 refine gp (n:=n+79) (t:= .one 1) (body:=qO) (sJ (n:=n+76) (k:=0)) ?_
 rw [Bm hG]
 show fy (bd (run aj (n+79)) (.one 1) qO) (ay l::G.dropLast.map ay) _ _=_
 rw [aQ]
 have:bd (run aj (n+79)) (.one 1) qO (ay l) (jQ (dO i y G) r1 r2 (some (.v (an (dO i y G))))) []=some (.exc,jQ (dO i y G) (some (.v (ay l))) (some (.v o2)) (some (.v (an (dO i y G)))),[]):=by
  show aH (run aj (n+79)) [_] (jQ (dO i y G) (some (.v (ay l))) r2 (some (.v (an (dO i y G))))) []=_
  rw [iZ];exact inner
 rw [this];rfl
theorem uW (S:bX (dO i y G)) (T:Tg (dO i y G)) (hG:G≠[]) (h0:[]∉aq (dO i y G)) (hy:y∈aq (dO i y G)) (hi:i≠0) (n:Nat):∃r,aH (run aj (n+300)) aU.body (jQ (dO i y G) none none none) []=some r∧r.1= .exc:=by
 refine Nf fun nG=> ?_
 obtain ⟨a,b,h⟩:=Am (n:=n+210) (cs:=[.for_ (.one 1) (.seq (.slc (.var 0) none (some (.neg 1)))) qO]) S T
 obtain ⟨c,d,e⟩:=Eu (n:=n+220) (r1:=a) (r2:=b) hG h0 hy hi
 exact nG ⟨_,h _ (by rw [iZ];exact e),rfl⟩
theorem nQ {P0:List Itm} (I:Inv P0 L) (hn:nlab L≤100) (F:xE L) (n:Nat):(run aj (n+302)).s (.expr (.callF 32 [.var 0])) [some (.v (lst L))] []=some (.next,[some (.v (lst L))],[]):=by
 refine Nf fun nG=> ?_
 obtain ⟨Lf,r,D⟩:=qe I hn F
 exact nG (sM (n:=n+301) (us:=[lst L]) (Us:=[.v (lst L)]) rfl rfl (r (n+91)))
end
section
variable {n j k g a s:Nat} {L G:List ah} {u:V} {σ:ag} {a2 a4 a5 a6 a7 a8 a9 a10 a11 a12 a13 a14 a15:Nh aA}
noncomputable def lw (u:V) (a2 a4 a5 a6 a7 a8 a9 a10 a11 a12 a13 a14 a15:Nh aA):Loc:=[some (.v u),some (.cell 0),a2,some (.cell 1),a4,a5,a6,a7,a8,a9,a10,a11,a12,a13,a14,a15,none,none,none,none,none,none,none,none,none]
noncomputable def Nd:CE:= .cmp (.comp (.var 19) [(.mk (.one 19) (.seq (.idx (.var 10) (.var 11))) [(.cmp (.var 19) .nin (.idx (.var 9) (.var 11)))])]) .ne (.lst [])
noncomputable def Mh:List CS:=[.ite Nd [.ret (.cst (.bool false))] []]
theorem FD {v:V} {ys:List V} (h:v∈ys) (hy:∀y∈ys,∃i,y= .int i):Cp v (.lst ys)=some true:=by
 have d:V.dats ys=true∧V.deps ys=0:=by
  clear h
  induction ys with
  |nil=>exact ⟨rfl,rfl⟩
  |cons y ys ih=>
   obtain ⟨i,rfl⟩:=hy y (.head _)
   obtain ⟨h1,h2⟩:=ih fun y m=>hy y (.tail _ m)
   exact ⟨h1,by show max 0 (V.deps ys)=0;rw [h2];rfl⟩
 obtain ⟨i,rfl⟩:=hy v h
 have:gW (.int i) ys=true:=by
  show (V.dats ys&&(decide ((V.int i).dep≤60)&&decide (V.deps ys≤60)))=true
  rw [d.1,d.2];rfl
 show (if gW (.int i) ys=true then _ else none)=_
 rw [NG this,Nw h]
theorem Cj (y:V) (h:y∈hH L):∃i,y= .int i:=let ⟨_,_,_,i,_,_,e⟩:=vg h;⟨i,e⟩
theorem jg {α:Type}:∀xs:List α,(xs.flatMap fun _=>([]:List V))=[]
 |[]=>rfl
 |_::xs=>jg xs
theorem rn {E:Ev} {t:kN} {e:CE} {rest:Loc→ag→Nh (List V×ag)} {ρ ρ':Loc} {x:V} (hb:gS t x ρ=some ρ') (h:cv E e ρ' σ=some (false,σ)):jh E t [e] rest ρ x σ=some ([],σ):=by
 unfold jh
 rw [hb]
 show NK (NK (cv E e ρ' σ) _) _=_
 rw [h];rfl
theorem FJ {ks ks':List Sg} {vs vs':List V} {x:Sg} {xs:List V} (h1:f0 ks' vs' x=some (.lst xs)) (h2:∀v∈xs,∃ys,f0 ks vs x=some (.lst ys)∧v∈ys∧∀y∈ys,∃i,y= .int i):
  bd (run aj (n+60)) (.one 11) Mh (.str x) (lw u a2 a4 a5 a6 a7 a8 (some (.v (.dct ks vs))) (some (.v (.dct ks' vs'))) a11 a12 a13 a14 a15) σ=some (.next,lw u a2 a4 a5 a6 a7 a8 (some (.v (.dct ks vs))) (some (.v (.dct ks' vs'))) (some (.v (.str x))) a12 a13 a14 a15,σ):=by
 have c:(run aj (n+58)).e (.comp (.var 19) [(.mk (.one 19) (.seq (.idx (.var 10) (.var 11))) [(.cmp (.var 19) .nin (.idx (.var 9) (.var 11)))])]) (lw u a2 a4 a5 a6 a7 a8 (some (.v (.dct ks vs))) (some (.v (.dct ks' vs'))) (some (.v (.str x))) a12 a13 a14 a15) σ=some (.own (.lst []),σ):=by
  have h:=gY (n:=n+57) (elt:= .var 19) (t:= .one 19) (it:= .seq (.idx (.var 10) (.var 11))) (ifs:=[(.cmp (.var 19) .nin (.idx (.var 9) (.var 11)))]) (gs:=[]) (ρ:=lw u a2 a4 a5 a6 a7 a8 (some (.v (.dct ks vs))) (some (.v (.dct ks' vs'))) (some (.v (.str x))) a12 a13 a14 a15) (σ:=σ) (xs:=xs) (enc:=id) (g:=fun _=>[])
   (by rw [uf,cC (fj (n:=n+56) (cM (U:= .v (.dct ks' vs')) (W:= .v (.str x)) rfl rfl rfl rfl) (show iW (.dct ks' vs') (.str x)=_ from h1)) rfl,Vo];rfl) (fun v m=>by
    refine Nf fun nG=> ?_
    obtain ⟨ys,e1,e2,e3⟩:=h2 v m
    refine nG ?_
    have q:=bJ (n:=n+56) (o:= .nin) (a:= .var 19) (b:= .idx (.var 9) (.var 11)) (ρ:=[some (.v u),some (.cell 0),a2,some (.cell 1),a4,a5,a6,a7,a8,some (.v (.dct ks vs)),some (.v (.dct ks' vs')),some (.v (.str x)),a12,a13,a14,a15,none,none,none,some (.v v),none,none,none,none,none]) (σ:=σ) (U:= .v v) rfl rfl (fj (n:=n+55) (cM (U:= .v (.dct ks vs)) (W:= .v (.str x)) rfl rfl rfl rfl) (show iW (.dct ks vs) (.str x)=_ from e1)) rfl (by rw [bH,FD e2 e3];rfl)
    exact rn rfl q) (by rw [jg];exact N5 _)
  rw [jg] at h
  exact h
 exact bk (bc (n:=n+59) (b:=false) (bJ (n:=n+58) (o:= .ne) (W:= .own (.lst [])) c rfl rfl rfl rfl) rfl)
theorem DA {ks ks':List Sg} {vs vs':List V}:∀(xs:List Sg) a11,(∀x∈xs,∃ws,f0 ks' vs' x=some (.lst ws)∧∀v∈ws,∃ys,f0 ks vs x=some (.lst ys)∧v∈ys∧∀y∈ys,∃i,y= .int i)→
  ∃a11',fy (bd (run aj (n+60)) (.one 11) Mh) (xs.map .str) (lw u a2 a4 a5 a6 a7 a8 (some (.v (.dct ks vs))) (some (.v (.dct ks' vs'))) a11 a12 a13 a14 a15) σ=some (.next,lw u a2 a4 a5 a6 a7 a8 (some (.v (.dct ks vs))) (some (.v (.dct ks' vs'))) a11' a12 a13 a14 a15,σ):=by
 intro xs
 induction xs with
 |nil=>exact fun a11 _=>⟨a11,rfl⟩
 |cons x xs ih=>
  intro a11 h
  refine Nf fun nG=> ?_
  obtain ⟨ws,h1,h2⟩:=h x (.head _)
  obtain ⟨b,e⟩:=ih (some (.v (.str x))) fun y m=>h y (.tail _ m)
  refine nG ?_
  exact ⟨b,by rw [NA,aQ,FJ h1 h2];exact e⟩
theorem rV:∀{ks:List Sg} {vs:List V} {x:Sg},ks.length=vs.length→x∈ks→∃v,f0 ks vs x=some v
 |[],_,_,_,h=>nomatch h
 |_::_,[],_,h,_=>nomatch h
 |k::ks,v::vs,x,hl,h=>by
  show∃w,(if k=x then some v else f0 ks vs x)=some w
  by_cases z:k=x
  ·exact ⟨v,NG z⟩
  ·rw [NV z]
   exact rV (PO hl) ((NN.mp h).resolve_left fun e=>z e.symm)
theorem Aw {ks ks':List Sg} {vs vs':List V} (hn:(aq G).Nodup) (C:kQ (items G) (items L)) (D:zi G G.length ks vs) (D':zi L L.length ks' vs') (x:Sg) (hx:x∈ks'):∃ws,f0 ks' vs' x=some (.lst ws)∧∀v∈ws,∃ys,f0 ks vs x=some (.lst ys)∧v∈ys∧∀y∈ys,∃i,y= .int i:=by
 refine Nf fun nG=> ?_
 obtain ⟨v,hv⟩:=rV D'.len hx
 obtain ⟨s,m,t,g,q,rfl,rfl⟩:=D'.sound x v hv
 refine nG ?_
 refine ⟨_,hv,fun v mv=> ?_⟩
 refine Nf fun nG=> ?_
 obtain ⟨w,i,y,rfl,b⟩:=At q mv
 obtain ⟨s0,g0,q0,m0⟩:=AX hn (C.span _ _ _ _ _ b)
 obtain ⟨ls,hs⟩:=q0.row
 refine nG ?_
 exact ⟨_,D.compl s0 m t g0 (Nq.mp hs).1 q0,m0,fun y my=>Cj y my⟩
noncomputable def Nc:CE:= .var 21
noncomputable def M9:List CG:=[(.mk (.one 20) (.seq (.var 8)) []),(.mk (.one 21) (.seq (.idx (.var 20) (.cst (.int 0)))) [])]
theorem rM:∀L:List ah,(L.flatMap fun l=>l.labs.map V.str)=(aq L).map V.str
 |[]=>rfl
 |l::L=>by
  rw [Pm,rM L]
  show _=(l.labs++aq L).map V.str
  rw [NS]
theorem w9:dQ (run aj (n+60)) Nc M9 (lw u a2 a4 a5 a6 a7 (some (.v (told L))) a9 a10 a11 a12 a13 a14 a15) σ=some ((aq L).map .str,σ):=by
 have h:=tQ (n:=n+60) (elt:= .var 21) (t:= .one 20) (it:= .seq (.var 8)) (ifs:=[]) (gs:=[(.mk (.one 21) (.seq (.idx (.var 20) (.cst (.int 0)))) [])]) (ρ:=lw u a2 a4 a5 a6 a7 (some (.v (told L))) a9 a10 a11 a12 a13 a14 a15) (σ:=σ) (xs:=L) (enc:=bT) (g:=fun l=>l.labs.map .str) rfl (fun l _=>by
  have q:=jE (f:=jh (run aj (n+60)) (.one 21) [] (dQ (run aj (n+60)) (.var 21) []) [some (.v u),some (.cell 0),a2,some (.cell 1),a4,a5,a6,a7,some (.v (told L)),a9,a10,a11,a12,a13,a14,a15,none,none,none,none,some (.v (bT l)),none,none,none,none]) (enc:=V.str) (g:=fun x=>[V.str x]) (σ:=σ) (xs:=l.labs) fun x _=>rfl
  rw [f9] at q
  exact q)
 rw [rM] at h
 exact h
noncomputable def callS (l:ah):List Sg:=match l.ins with
 |some (.jump m t)=>match m with
  | .call=>[t]
  | .jmp=>[]
  | .jrcxz=>[]
  | .loop=>[]
  | .loope=>[]
  | .loopne=>[]
  | .je=>[]
  | .jne=>[]
  | .jae=>[]
  | .jb=>[]
 |some .ret=>[]
 |some (.mov _ _ _)=>[]
 |none=>[]
noncomputable def hZ (L:List ah):List Sg:=L.flatMap callS
noncomputable def JI:CE:= .callF 41 [(.idx (.var 22) (.cst (.int 1)))]
noncomputable def Ln:List CG:=[(.mk (.one 22) (.seq (.var 8)) [(.and [(.cmp (.idx (.var 22) (.cst (.int 1))) .ne (.tup [])),(.cmp (.idx (.idx (.var 22) (.cst (.int 1))) (.cst (.int 0))) .eq (.cst (.str [99,97,108,108])))])])]
theorem pU:∀L:List ah,(L.flatMap fun l=>(callS l).map V.str)=(hZ L).map V.str
 |[]=>rfl
 |l::L=>by
  rw [Pm,pU L]
  show _=(callS l++hZ L).map V.str
  rw [NS]
theorem I9:dQ (run aj (n+60)) JI Ln (lw u a2 a4 a5 a6 a7 (some (.v (told L))) a9 a10 a11 a12 a13 a14 a15) σ=some ((hZ L).map .str,σ):=by
 have h:=tQ (n:=n+60) (elt:=JI) (t:= .one 22) (it:= .seq (.var 8)) (ifs:=[(.and [(.cmp (.idx (.var 22) (.cst (.int 1))) .ne (.tup [])),(.cmp (.idx (.idx (.var 22) (.cst (.int 1))) (.cst (.int 0))) .eq (.cst (.str [99,97,108,108])))])]) (gs:=[]) (ρ:=lw u a2 a4 a5 a6 a7 (some (.v (told L))) a9 a10 a11 a12 a13 a14 a15) (σ:=σ) (xs:=L) (enc:=bT) (g:=fun l=>(callS l).map .str) rfl (fun l _=>by
  obtain ⟨ls,o⟩:=l
  cases o with
  |none=>kernel_rfl
  |some i=>cases i with
   |jump m t=>cases m<;>kernel_rfl
   |ret=>kernel_rfl
   |mov=>kernel_rfl)
 rw [pU] at h
 exact h
theorem vA {t:Sg} (h:t∈hZ L): .call t∈items L:=by
 refine Nf fun nG=> ?_
 obtain ⟨l,m1,m2⟩:=Pf.mp h
 obtain ⟨ls,o⟩:=l
 refine nG ?_
 refine Pf.mpr ⟨_,m1,Nx.mpr (.inr ?_)⟩
 cases o with
 |none=>cases m2
 |some i=>cases i with
  |ret=>cases m2
  |mov=>cases m2
  |jump m x=>cases m<;>first|(cases m2;done)|(cases NU.mp m2;exact .head _)
noncomputable def Mb:CE:= .cmp (.comp (.var 23) [(.mk (.one 23) (.seq (.var 13)) [(.or [(.cmp (.var 23) .in_ (.var 12)),(.cmp (.var 23) .nin (.comp (.callF 41 [(.idx (.var 24) (.cst (.int 1)))]) [(.mk (.one 24) (.seq (.var 6)) [])]))])])]) .ne (.lst [])
theorem M2 {xs ys:List Sg} (hz:G.length≤1000) (h1:∀x∈xs,x∉ys) (h2:∀x∈xs,x∈G.map fun l=>bg l.ins):cv (run aj (n+60)) Mb (lw u a2 a4 a5 (some (.v (told G))) a7 a8 a9 a10 a11 (some (.v (.lst (ys.map .str)))) (some (.v (.lst (xs.map .str)))) a14 a15) σ=some (false,σ):=by
 have c:(run aj (n+59)).e (.comp (.var 23) [(.mk (.one 23) (.seq (.var 13)) [(.or [(.cmp (.var 23) .in_ (.var 12)),(.cmp (.var 23) .nin (.comp (.callF 41 [(.idx (.var 24) (.cst (.int 1)))]) [(.mk (.one 24) (.seq (.var 6)) [])]))])])]) (lw u a2 a4 a5 (some (.v (told G))) a7 a8 a9 a10 a11 (some (.v (.lst (ys.map .str)))) (some (.v (.lst (xs.map .str)))) a14 a15) σ=some (.own (.lst []),σ):=by
  have h:=gY (n:=n+58) (elt:= .var 23) (t:= .one 23) (it:= .seq (.var 13)) (ifs:=[(.or [(.cmp (.var 23) .in_ (.var 12)),(.cmp (.var 23) .nin (.comp (.callF 41 [(.idx (.var 24) (.cst (.int 1)))]) [(.mk (.one 24) (.seq (.var 6)) [])]))])]) (gs:=[]) (ρ:=lw u a2 a4 a5 (some (.v (told G))) a7 a8 a9 a10 a11 (some (.v (.lst (ys.map .str)))) (some (.v (.lst (xs.map .str)))) a14 a15) (σ:=σ) (xs:=xs) (enc:=V.str) (g:=fun _=>[]) rfl
   (fun x m=>by
    generalize hr:([some (.v u),some (.cell 0),a2,some (.cell 1),a4,a5,some (.v (told G)),a7,a8,a9,a10,a11,some (.v (.lst (ys.map .str))),some (.v (.lst (xs.map .str))),a14,a15,none,none,none,none,none,none,none,some (.v (.str x)),none]:Loc)=ρ
    have q1:cv (run aj (n+57)) (.cmp (.var 23) .in_ (.var 12)) ρ σ=some (false,σ):=by
     refine Nf fun nG=> ?_
     subst hr
     refine nG ?_
     exact bJ (n:=n+56) (o:= .in_) (U:= .v (.str x)) (W:= .v (.lst (ys.map .str))) rfl rfl rfl rfl (by rw [cP,bI,NR (h1 x m)])
    have q2:(run aj (n+56)).e (.comp (.callF 41 [(.idx (.var 24) (.cst (.int 1)))]) [(.mk (.one 24) (.seq (.var 6)) [])]) ρ σ=some (.own (.lst ((G.map fun l=>bg l.ins).map .str)),σ):=by
     subst hr
     have h:=gY (n:=n+55) (elt:= .callF 41 [(.idx (.var 24) (.cst (.int 1)))]) (t:= .one 24) (it:= .seq (.var 6)) (ifs:=[]) (gs:=[]) (ρ:=[some (.v u),some (.cell 0),a2,some (.cell 1),a4,a5,some (.v (told G)),a7,a8,a9,a10,a11,some (.v (.lst (ys.map .str))),some (.v (.lst (xs.map .str))),a14,a15,none,none,none,none,none,none,none,some (.v (.str x)),none]) (σ:=σ) (xs:=G) (enc:=bT) (g:=fun l=>[V.str (bg l.ins)]) rfl
      (fun l _=>by
       obtain ⟨ls,o⟩:=l
       cases o with
       |none=>kernel_rfl
       |some i=>cases i with
        |jump m t=>cases m<;>kernel_rfl
        |ret=>kernel_rfl
        |mov=>kernel_rfl) (by rw [iw,Nl,Nl];exact Ni hz (by decide))
     rw [iw] at h
     exact h
    have q3:cv (run aj (n+57)) (.cmp (.var 23) .nin (.comp (.callF 41 [(.idx (.var 24) (.cst (.int 1)))]) [(.mk (.one 24) (.seq (.var 6)) [])])) ρ σ=some (false,σ):=
     bJ (n:=n+56) (o:= .nin) (U:= .v (.str x)) (by subst hr;rfl) rfl q2 rfl (by rw [bH,bI,Nw (h2 x m)];rfl)
    have q4:=vt q1 fun _=>q3
    rw [←hr] at q4
    exact rn rfl q4) (by rw [jg];exact N5 _)
  rw [jg] at h
  exact h
 exact bJ (n:=n+59) (o:= .ne) (W:= .own (.lst [])) c rfl rfl rfl rfl
end
section
variable {n j k g a s:Nat} {L G:List ah} {u:V} {σ:ag} {a2 a4 a5 a6 a7 a8 a9 a10 a11 a12 a13 a14 a15:Nh aA} {is:List cr} {count:Nat} {y:Sg} {i:Int}
theorem v6.odd (F:v6 G) (hb:[98]∉aq G) (hc:∀l∈G,l.ins≠some (.jump .call [98])):v6 (dO i y G) where
 labs:=by
  show ([98]::aq G).Nodup
  exact Pc.mpr ⟨hb,F.labs⟩
 lps:=F.lps
 tg:=fun l m k t e=>(NN.mp m).elim (fun z=>by subst z;cases e) fun m=>F.tg l m k t e
 call:=fun l m t e q=>by
  rcases NN.mp m with z|m
  ·subst z;cases e
  ·rcases NN.mp (show t∈[98]::aq G from q) with z|q
   ·subst z;exact hc l m e
   ·exact F.call l m t e q
 nil:=fun m=>(NN.mp (show []∈[98]::aq G from m)).elim (fun z=>nomatch z) F.nil
theorem EG (C:iq count 0 4 is) (hz:is.length≤9) (i:Int) (y:Sg):Inv (items (dO i y (aX is))) (dO i y (aX is)):=by
 have nb:[98]∉aq (aX is):=fun m=>by
  rw [eH] at m
  obtain ⟨k,_,e⟩:=Of.mp m
  exact (yB k).2.1 e
 have F:v6 (dO i y (aX is)):=(jx C hz).odd nb fun l m e=>nomatch (NU.mp ((NN.mp ((NN.mp (pa C m e)).resolve_left fun z=>nomatch z)).resolve_left fun z=>nomatch z))
 have I:=rm C hz
 refine ⟨F.core,?_,F.tg,NO (Ni (NZ kA) (Ni (NO hz) (by decide)))⟩
 have e:dO i y (aX is)=(⟨[[98]],some (.mov true i y)⟩::cH 0 (is.map some))++[⟨[gN is.length],none⟩]:=Nt (ah.mk [[98]] (some (.mov true i y)):: ·) (pC is)
 rw [e]
 exact .mk' rfl fun x m=>(NN.mp m).elim (fun z=>by rw [z];rfl) (tP is 0 x)
theorem AC (hz:is.length≤9):nlab (dO i y (aX is))≤100:=by
 show ([98]::aq (aX is)).length≤100
 rw [OX,eH,Nl,PF]
 exact Ni (NO (NO hz)) (by decide)
theorem wN (hz:is.length≤9):nlab (aX is)≤100:=by
 show (aq (aX is)).length≤100
 rw [eH,Nl,PF]
 exact Ni (NO hz) (by decide)
noncomputable def kM:Sg:=[102,97,114]
theorem Ep:kM∉aq (dO i y (aX is)):=fun m=>by
 rcases NN.mp (show kM∈[98]::aq (aX is) from m) with z|m
 ·cases z
 ·rw [eH] at m
  obtain ⟨k,_,e⟩:=Of.mp m
  exact (yB k).2.2 (e▸ .tail _ (.head _))
theorem zx (C:iq count 0 4 is) (hz:is.length≤9) (hy:y=kM∨y∈aq (aX is)) (n:Nat):((!decide (y=kM)&& !decide (i=0))=true→∃r,aH (run aj (n+300)) aU.body (jQ (dO i y (aX is)) none none none) []=some r∧r.1= .exc)∧
  ((!decide (y=kM)&& !decide (i=0))=false→(run aj (n+302)).s (.expr (.callF 32 [.var 0])) [some (.v (lst (dO i y (aX is))))] []=some (.next,[some (.v (lst (dO i y (aX is))))],[])):=by
 have I:=EG C hz i y
 have hn:=AC (i:=i) (y:=y) hz
 have free:(y=kM∨i=0)→xE (dO i y (aX is)):=fun h l m w j x e q=>by
  rcases NN.mp m with z|m
  ·subst z
   cases e
   exact h.elim (fun z=>(Ep (z▸q)).elim) id
  ·obtain ⟨k,hk⟩:=Oo.mp m
   obtain ⟨_,_,h3⟩:=m6 C hk e
   exact (I.core.nil (eT.mpr (h3▸q))).elim
 by_cases h1:y=kM
 ·exact ⟨fun z=>(by rw [Nw h1] at z;cases z),fun _=>nQ I hn (free (.inl h1)) n⟩
 by_cases h2:i=0
 ·exact ⟨fun z=>(by rw [Nw h2,Bool.not_true,VR] at z;cases z),fun _=>nQ I hn (free (.inr h2)) n⟩
 refine ⟨fun _=> ?_,fun z=>(by rw [NR h1,NR h2] at z;cases z)⟩
 exact uW (I.small hn) I.tg (fun z=>by have:=Nt PR z;rw [kA] at this;cases this) (fun m=>I.core.nil (eT.mpr m)) (OJ _ (hy.resolve_left h1)) h2 n
theorem JA {e:CE} {ρ:Loc} {σ σ':ag} {w:V} {i:Nat} (hc:e.comp?=none) (h:(run aj n).e e ρ σ=some (.own w,σ')):(run aj (n+1)).s (.own i e) ρ σ=some (.next,ρ.set i (some (.cell σ'.length)),σ'++[w]):=by
 rw [iR,eZ,hc]
 show ((run aj n).e e ρ σ).bind _=_
 rw [h];rfl
theorem wu {i j:Nat} {p q:CE} {ρ:Loc} {σ σ1 σ2:ag} {U W:aA} {u w:V} (h1:(run aj n).e p ρ σ=some (U,σ1)) (k1:U.toV=some u) (h2:(run aj n).e q ρ σ1=some (W,σ2)) (k2:W.toV=some w):(run aj (n+1)).s (.assignT [(i,false),(j,false)] [p,q]) ρ σ=some (.next,(ρ.set i (some (.v u))).set j (some (.v w)),σ2):=by
 rw [iR,aK,f8,h1]
 show NK (NK (U.toV) fun u=>(wb (run aj n) [(j,false)] [q] ρ σ1).map fun q=>(aA.v u::q.1,q.2)) _=_
 rw [k1,f8,h2]
 show NK (Pi _ (NK (W.toV) fun u=>(wb (run aj n) [] [] ρ σ2).map fun q=>(aA.v u::q.1,q.2))) _=_
 rw [k2];rfl
noncomputable def Jt:CS:= .assignT [(2,false),(3,true)] [(.bin .add (.cst (.int 4)) (.callF 39 [(.var 1),(.cst (.int 6))])),(.lst [(.cst (.str [106,114,99,120,122])),(.cst (.str [108,111,111,112,110,101])),(.cst (.str [108,111,111,112,101])),(.cst (.str [108,111,111,112]))])]
theorem JP {s d c s' d' c':Int} {f k:Nat} (T:tI k 6 s d c f s' d' c'):(run aj (n+329)).s Jt [some (.v u),some (.cell 0),none,none,none,none,none,none,none,none,none,none,none,none,none,none,none,none,none,none,none,none,none,none,none] [d7 s d c]=
  some (.next,lw u (some (.v (ai (4+f)))) none none none none none none none none none none none none,eS s' d' c' 4):=by
 have e1:(run aj (n+328)).e (.bin .add (.cst (.int 4)) (.callF 39 [(.var 1),(.cst (.int 6))])) [some (.v u),some (.cell 0),none,none,none,none,none,none,none,none,none,none,none,none,none,none,none,none,none,none,none,none,none,none,none] [d7 s d c]=some (.v (ai (4+f)),[d7 s' d' c']):=
  bW (n:=n+327) (o:= .add) (aI (σ1:=[d7 s d c]) (U:= .v (.int 4)) rfl rfl (k8 (n:=n+296) (r:=[]) T rfl) rfl) (show some (V.int (4+(f:Int)))=some (V.int ((4+f:Nat):Int)) by rw [Vw];rfl)
 rw [Jt,iR,aK,f8,e1];rfl
theorem Kt {s d c s' d' c':Int} {j':Nat} {count:Nat} (hc:count≤9) (hl:is.length=count) (h:∀n ρ,vX ρ count→jt (jh (run aj (n+62)) (.one 16) [] (dQ (run aj (n+62)) xB []) ρ) ((PS 0 count).map ai) (eS s d c 4)=some (is.map aP,eS s' d' c' j')):
  (run aj (n+329)).s (.assign 4 (.comp xB [(.mk (.one 16) (.range [(.var 2)]) [])])) (lw u (some (.v (ai count))) none none none none none none none none none none none none) (eS s d c 4)=some (.next,lw u (some (.v (ai count))) (some (.v (.lst (is.map aP)))) none none none none none none none none none none none,eS s' d' c' j'):=by
 refine kr (n:=n+328) ?_ (by rw [Nl,hl];exact Ni hc (by decide))
 show NK (dN _ _ _ _) _=_
 have hi:dN (run aj (n+328)) (.range [(.var 2)]) (lw u (some (.v (ai count))) none none none none none none none none none none none none) (eS s d c 4)=some ((PS 0 count).map ai,eS s d c 4):=by
  show (iD [ai count]).map _=_
  rw [ug (Ni hc (by decide)),Ry];rfl
 rw [hi]
 exact h (n+266) _ ⟨(by decide:16 <25),rfl,rfl,rfl⟩
theorem JH (hz:is.length≤100):(run aj (n+329)).s (.assign 5 (.comp FZ Gc)) (lw u a2 (some (.v (.lst (is.map aP)))) none none none none none none none none none none none) σ=some (.next,lw u a2 (some (.v (.lst (is.map aP)))) (some (.v (lst (aX is)))) none none none none none none none none none none,σ):=
 kr (n:=n+328) (EZ (n:=n+269) (ρ:=lw u a2 (some (.v (.lst (is.map aP)))) none none none none none none none none none none none) (by decide:18 <25) rfl hz) (by rw [Nl];exact Ni (NZ kA) (Ni (NO hz) (by decide)))
theorem yD {j:Nat} {ρ:Loc} (hz:L.length≤1000) (h:ρ[j]? =some (some (.v (lst L)))):(run aj (n+60)).e (.callF 33 [(.var j)]) ρ σ=some (.own (told L),σ):=by
 have v:(run aj (n+59)).e (.var j) ρ σ=some (.v (lst L),σ):=by show ρ[j]?.join.map _=_;rw [h];rfl
 exact aB (n:=n+59) (us:=[lst L]) (Us:=[.v (lst L)]) (by rw [a0,v];rfl) rfl (wx (Ni hz (by decide)) (n+19)) rfl
theorem Dk {j:Nat} {ρ:Loc} {w:V} (h:ρ[j]? =some (some (.v (told L)))) (b:l7 80 42 [told L] w):(run aj (n+90)).e (.callF 42 [(.var j)]) ρ σ=some (.own w,σ):=by
 have v:(run aj (n+89)).e (.var j) ρ σ=some (.v (told L),σ):=by show ρ[j]?.join.map _=_;rw [h];rfl
 exact aB (n:=n+89) (us:=[told L]) (Us:=[.v (told L)]) (by rw [a0,v];rfl) rfl (b (n+9)) rfl
noncomputable def LP:CE:= .cmp (.callF 33 [(.callF 32 [(.var 7)])]) .ne (.var 8)
theorem Lz (hz:L.length≤1000) (h:nU 210 32 [lst L] (lst L)):cv (run aj (n+320)) LP (lw u a2 a4 a5 a6 (some (.v (lst L))) (some (.v (told L))) a9 a10 a11 a12 a13 a14 a15) σ=some (false,σ):=by
 have e1:(run aj (n+318)).e (.callF 32 [(.var 7)]) (lw u a2 a4 a5 a6 (some (.v (lst L))) (some (.v (told L))) a9 a10 a11 a12 a13 a14 a15) σ=some (.v (lst L),σ):=aB (n:=n+317) (us:=[lst L]) (Us:=[.v (lst L)]) rfl rfl (h (n+107)) rfl
 have e2:(run aj (n+319)).e (.callF 33 [(.callF 32 [(.var 7)])]) (lw u a2 a4 a5 a6 (some (.v (lst L))) (some (.v (told L))) a9 a10 a11 a12 a13 a14 a15) σ=some (.own (told L),σ):=aB (n:=n+318) (us:=[lst L]) (Us:=[.v (lst L)]) (by rw [a0,e1];rfl) rfl (wx (Ni hz (by decide)) (n+278)) rfl
 exact bJ (n:=n+319) (o:= .ne) (W:= .v (told L)) e2 rfl rfl rfl (by rw [bN,vI,Nw rfl];rfl)
noncomputable def KG:CS:= .assignT [(11,false),(14,false)] [(.idx (.lst [(.cst (.str [97,48])),(.bin .add (.cst (.str [97])) (.callB .str_ [(.var 2)])),(.cst (.str [102,97,114]))]) (.callF 39 [(.var 1),(.cst (.int 3))])),(.idx (.lst [(.cst (.int 0)),(.cst (.int 4)),(.neg 1)]) (.callF 39 [(.var 1),(.cst (.int 3))]))]
theorem Hj {s d c s1 d1 c1 s2 d2 c2 f1 f2:Int} {k1 k2:Nat} {r:ag} (hc:count <201) (T1:tI k1 3 s d c f1 s1 d1 c1) (T2:tI k2 3 s1 d1 c1 f2 s2 d2 c2) (h1:iW (.lst [.str (gN 0),.str (gN count),.str kM]) (.int f1)=some (.str y)) (h2:iW (.lst [.int 0,.int 4,.int (-1)]) (.int f2)=some (.int i)):
  (run aj (n+329)).s KG (lw u (some (.v (ai count))) a4 a5 a6 a7 a8 a9 a10 a11 a12 a13 a14 a15) (d7 s d c::r)=some (.next,lw u (some (.v (ai count))) a4 a5 a6 a7 a8 a9 a10 (some (.v (.str y))) a12 a13 (some (.v (.int i))) a15,d7 s2 d2 c2::r):=by
 have b:(run aj (n+326)).e (.bin .add (.cst (.str [97])) (.callB .str_ [(.var 2)])) (lw u (some (.v (ai count))) a4 a5 a6 a7 a8 a9 a10 a11 a12 a13 a14 a15) (d7 s d c::r)=some (.v (.str (gN count)),d7 s d c::r):=
  bW (n:=n+325) (o:= .add) (aI (σ1:=d7 s d c::r) (U:= .v (.str [97])) rfl rfl (eQ (n:=n+324) (us:=[ai count]) rfl (x5 hc)) rfl) (wR hc)
 have l1:(run aj (n+327)).e (.lst [(.cst (.str [97,48])),(.bin .add (.cst (.str [97])) (.callB .str_ [(.var 2)])),(.cst (.str [102,97,114]))]) (lw u (some (.v (ai count))) a4 a5 a6 a7 a8 a9 a10 a11 a12 a13 a14 a15) (d7 s d c::r)=some (.own (.lst [.str (gN 0),.str (gN count),.str kM]),d7 s d c::r):=by
  rw [i3,d6,vY (U:= .v (.str (gN 0))) rfl rfl (aI b rfl (W:= .v (.str kM)) rfl rfl)];rfl
 exact wu (n:=n+328) (fj (n:=n+327) (cM l1 (k8 (n:=n+296) T1 rfl) rfl rfl) h1) rfl (fj (n:=n+327) (cM (U:= .own (.lst [.int 0,.int 4,.int (-1)])) (σ1:=d7 s1 d1 c1::r) rfl (k8 (n:=n+296) T2 rfl) rfl rfl) h2) rfl
noncomputable def J5:CE:= .lst [(.mk .line [(.lst [(.cst (.str [98]))]),(.mk .ins [(.cst (.str [109,111,118])),(.lst [(.mk .reg [(.callF 36 [(.cst (.int 0)),(.cst (.int 64))])]),(.mk .imm [(.var 14),(.var 11)])])])])]
theorem H5 (hz:G.length≤1000):(run aj (n+329)).s (.assign 15 (.bin .add J5 (.var 5))) (lw u a2 a4 (some (.v (lst G))) a6 a7 a8 a9 a10 (some (.v (.str y))) a12 a13 (some (.v (.int i))) a15) σ=some (.next,lw u a2 a4 (some (.v (lst G))) a6 a7 a8 a9 a10 (some (.v (.str y))) a12 a13 (some (.v (.int i))) (some (.v (lst (dO i y G)))),σ):=
 aD (n:=n+328) (u:=lst (dO i y G)) rfl (bW (n:=n+327) (o:= .add) (aI (σ1:=σ) (U:= .own (lst [⟨[[98]],some (.mov true i y)⟩])) (W:= .v (lst G)) (by kernel_rfl) rfl rfl rfl) (qd (A:=[⟨[[98]],some (.mov true i y)⟩]) (Ni (NT hz 1) (by decide)))) rfl
theorem DH:(run aj (n+327)).e sF (lw u a2 a4 a5 a6 a7 a8 a9 a10 (some (.v (.str y))) a12 a13 (some (.v (.int i))) a15) σ=some (.v (.bool (!decide (y=kM)&& !decide (i=0))),σ):=
 jj (rq (n:=n+326) (a:= .cmp (.var 11) .ne (.cst (.str [102,97,114]))) (b:= .cmp (.var 14) .ne (.cst (.int 0)))
  (bJ (n:=n+325) (o:= .ne) (U:= .v (.str y)) (W:= .v (.str kM)) rfl rfl rfl rfl (by rw [bN,bE];rfl)) fun _=>bJ (n:=n+325) (o:= .ne) (U:= .v (.int i)) (W:= .v (.int 0)) rfl rfl rfl rfl (by rw [bN,bh];rfl))
end
theorem Lc {ns:List Int} (hz:ns.length≤63):∃ρ σ u b,xb 326 ns ρ σ u b:=by
 refine Nf fun nG=> ?_
 obtain ⟨s0,d0,c0,P,hp⟩:=Kd ns hz
 obtain ⟨f,s1,d1,c1,T⟩:=lA (k:=99) (many:=6) P (by decide) (by decide)
 have t0:=T.lo
 have t1:=T.hi
 obtain ⟨f,rfl,hf⟩:=nh (n:=6) t0 t1
 have hc:4+f≤9:=NT (OE hf) 4
 obtain ⟨is,s2,d2,c2,j2,hl,C,P2,rows⟩:=zP hc (4+f) 0 4 2 s1 d1 c1 (T.pen.le (by omega)) (Nz 4)
 have hz9:is.length≤9:=by rw [hl];exact hc
 have G:=rm C hz9
 have gn:=wN hz9
 have gf:=xv C hz9
 have gs:=G.small gn
 have g0:[]∉aq (aX is):=fun m=>G.core.nil (eT.mpr m)
 obtain ⟨L,rt,D⟩:=qe G gn gf
 have LI:=D.inv
 have ln:nlab L≤100:=by
  have:=rJ LI
  rw [D.kept] at this
  exact Ni this (by decide)
 have ls:=LI.small ln
 have l0:[]∉aq L:=fun m=>LI.core.nil (eT.mpr m)
 have lf:xE L:=fun l m w x y e q=>by
  have m1:=LI.core.mvs w x y (Pf.mpr ⟨l,m,wi e⟩)
  obtain ⟨l',m2,m3⟩:=Pf.mp m1
  obtain ⟨k,hk⟩:=Oo.mp m2
  have m4:Itm.mv w x y∈kf l'.ins:=(Nx.mp m3).resolve_left fun z=>let ⟨_,_,e⟩:=Of.mp z;nomatch e
  obtain ⟨_,_,h3⟩:=m6 C hk (Aj m4)
  exact (l0 (h3▸q)).elim
 have ra:=Fd D ln lf
 obtain ⟨ks,vs,B,rb⟩:=sd gs g0 G.core.lps
 obtain ⟨ks',vs',B',rb'⟩:=sd ls l0 LI.core.lps
 obtain ⟨f1,s3,d3,c3,T1⟩:=lA (k:=1) (many:=3) P2 (by decide) (by decide)
 obtain ⟨f2,s4,d4,c4,T2⟩:=lA (k:=0) (many:=3) T1.pen (by decide) (by decide)
 have p0:=T1.lo
 have p1:=T1.hi
 have q0:=T2.lo
 have q1:=T2.hi
 have glab:∀k,k≤is.length→gN k∈aq (aX is):=fun k h=>by
  rw [eH];exact OS (Qg.mpr (O9 h))
 obtain ⟨y,hy,h1⟩:∃y,(y=kM∨y∈aq (aX is))∧iW (.lst [.str (gN 0),.str (gN (4+f)),.str kM]) (.int f1)=some (.str y):=by
  obtain ⟨f,rfl,hf⟩:=nh (n:=3) p0 p1
  exact qJ (P:=fun f=>∃y,(y=kM∨y∈aq (aX is))∧iW (.lst [.str (gN 0),.str (gN (4+_)),.str kM]) (.int (f:Nat))=some (.str y)) hf ⟨_,.inl rfl,rfl⟩ fun hf=>qJ hf ⟨_,.inr (glab _ (NZ hl.symm)),rfl⟩ fun hf=>qJ hf ⟨_,.inr (glab 0 (N5 _)),rfl⟩ uB
 obtain ⟨i,h2⟩:∃i,iW (.lst [.int 0,.int 4,.int (-1)]) (.int f2)=some (.int i):=by
  obtain ⟨f,rfl,hf⟩:=nh (n:=3) q0 q1
  exact qJ (P:=fun f=>∃i,iW (.lst [.int 0,.int 4,.int (-1)]) (.int (f:Nat))=some (.int i)) hf ⟨_,rfl⟩ fun hf=>qJ hf ⟨_,rfl⟩ fun hf=>qJ hf ⟨_,rfl⟩ uB
 have ref:=zx (i:=i) C hz9 hy 26
 have z1:(run aj 329).s (.own 1 (.callF 38 [(.var 0)])) [some (.v (.lst (ns.map .int))),none,none,none,none,none,none,none,none,none,none,none,none,none,none,none,none,none,none,none,none,none,none,none,none] []=some (.next,[some (.v (.lst (ns.map .int))),some (.cell 0),none,none,none,none,none,none,none,none,none,none,none,none,none,none,none,none,none,none,none,none,none,none,none],[d7 s0 d0 c0]):=
  JA (n:=328) rfl (aB (n:=327) (us:=[.lst (ns.map .int)]) (Us:=[.v (.lst (ns.map .int))]) rfl rfl (hp 247) rfl)
 obtain ⟨b11,z8⟩:=DA (n:=268) (u:= .lst (ns.map .int)) (a2:=some (.v (ai (4+f)))) (a4:=some (.v (.lst (is.map aP)))) (a5:=some (.v (lst (aX is)))) (a6:=some (.v (told (aX is)))) (a7:=some (.v (lst L))) (a8:=some (.v (told L))) (a12:=none) (a13:=none) (a14:=none) (a15:=none) (σ:=eS s2 d2 c2 j2) ks' none (Aw G.nodup LI.core B B')
 refine nG ?_
 have w9':=kr (n:=328) (i:=12) (w9 (n:=268) (L:=L) (u:= .lst (ns.map .int)) (a2:=some (.v (ai (4+f)))) (a4:=some (.v (.lst (is.map aP)))) (a5:=some (.v (lst (aX is)))) (a6:=some (.v (told (aX is)))) (a7:=some (.v (lst L))) (a9:=some (.v (.dct ks vs))) (a10:=some (.v (.dct ks' vs'))) (a11:=b11) (a12:=none) (a13:=none) (a14:=none) (a15:=none) (σ:=eS s2 d2 c2 j2)) (by rw [Nl];exact Ni ln (by decide))
 have cl:(hZ L).length≤1000:=by
  have:∀M:List ah,(hZ M).length≤M.length:=fun M=>by
   induction M with
   |nil=>exact Nz _
   |cons l M ih=>
    show (callS l++hZ M).length≤_
    rw [Nj,OX,OT]
    refine N6 ih ?_
    obtain ⟨ls,o⟩:=l
    cases o with
    |none=>exact N5 _
    |some i=>cases i with
     |ret=>exact N5 _
     |mov=>exact N5 _
     |jump m t=>cases m<;>first|exact N5 _|exact Nz _
  exact Ni (this L) ls.len'
 have w10':=kr (n:=328) (i:=13) (I9 (n:=268) (L:=L) (u:= .lst (ns.map .int)) (a2:=some (.v (ai (4+f)))) (a4:=some (.v (.lst (is.map aP)))) (a5:=some (.v (lst (aX is)))) (a6:=some (.v (told (aX is)))) (a7:=some (.v (lst L))) (a9:=some (.v (.dct ks vs))) (a10:=some (.v (.dct ks' vs'))) (a11:=b11) (a12:=some (.v (.lst ((aq L).map .str)))) (a13:=none) (a14:=none) (a15:=none) (σ:=eS s2 d2 c2 j2)) (by rw [Nl];exact cl)
 have w11a:=M2 (n:=267) (G:=aX is) (xs:=hZ L) (ys:=aq L) (u:= .lst (ns.map .int)) (a2:=some (.v (ai (4+f)))) (a4:=some (.v (.lst (is.map aP)))) (a5:=some (.v (lst (aX is)))) (a7:=some (.v (lst L))) (a8:=some (.v (told L))) (a9:=some (.v (.dct ks vs))) (a10:=some (.v (.dct ks' vs'))) (a11:=b11) (a14:=none) (a15:=none) (σ:=eS s2 d2 c2 j2) gs.len'
  (fun x m q=>LI.core.call x (vA m) (eT.mpr q)) (fun x m=>tJ (LI.core.old x (vA m)) (.inl rfl))
 have w11o:=vt (n:=327) (y:=false) w11a fun _=>Lz (n:=7) ls.len' ra
 refine ⟨lw (.lst (ns.map .int)) (some (.v (ai (4+f)))) (some (.v (.lst (is.map aP)))) (some (.v (lst (aX is)))) (some (.v (told (aX is)))) (some (.v (lst L))) (some (.v (told L))) (some (.v (.dct ks vs))) (some (.v (.dct ks' vs'))) (some (.v (.str y))) (some (.v (.lst ((aq L).map .str)))) (some (.v (.lst ((hZ L).map .str)))) (some (.v (.int i))) (some (.v (lst (dO i y (aX is))))),eS s4 d4 c4 j2,lst (dO i y (aX is)),_,?_,rfl,DH (n:=2),ref.1,ref.2⟩
 refine av z1 (av (JP (n:=0) T) (av (Kt (n:=0) hc hl rows) (av (JH (n:=0) (Ni hz9 (by decide))) ?_)))
 refine av (kj (n:=328) (yD (n:=268) (L:=aX is) gs.len' rfl) rfl (aB (n:=327) (us:=[lst (aX is)]) (Us:=[.v (lst (aX is))]) rfl rfl (rt 117) rfl) rfl) ?_
 refine av (aD (n:=328) rfl (yD (n:=268) (L:=L) ls.len' rfl) rfl) ?_
 refine av (kj (n:=328) (Dk (n:=238) (L:=aX is) rfl rb) rfl (Dk (n:=238) (L:=L) rfl rb') rfl) ?_
 refine av (gp (n:=328) (t:= .one 11) (it:= .seq (.var 10)) (body:=Mh) rfl z8) ?_
 refine av w9' (av w10' (av (bc (n:=328) w11o rfl) ?_))
 refine av (Hj (n:=0) (ND hc (by decide)) T1 T2 h1 h2) (av (H5 (n:=0) gs.len') rfl)
end
section
open PySem PySem.W PyProof.Rows
set_option tactic.hygienic false
theorem Br {Z:Wd} {D:Addr→Prop} {h:Heap} {vs:List Nk} {ns:List Int} (r:IntsAre vs ns):ak Z D h vs (ns.map V.int):=by
 induction r with
 |nil=>exact .nil
 |cons n t r ih=>exact .cons (.int n t) ih
noncomputable def yg (n:Nat):Prop:=∀ns:List Int,ns.length≤63→∃ρ σ u b,xb n ns ρ σ u b
theorem uq {n:Nat} (hn:n <500):aN (n+4) callerA:=⟨by show 1+claimMargin+(n+4)+40 <recursionLimit;unfold claimMargin recursionLimit;omega,by show 4+10*(n+4)+200 <Sv;unfold Sv;omega,rfl⟩
theorem CN {K:Frag} {prog p:N2} {w:PK} {loose:List Str} {mg mb:Str→Nh Nk} {n:Nat} {s:Nn} (O:(gZ prog w K s.heap).Ok p loose mg mb) (gk:LZ K=true) (hn:n <500) {ns:List Int} {ρ:Loc} {σ:ag} {u:V} {b:Bool} (I:xb n ns ρ σ u b) {v:Nk}
  (rep:bS (gZ prog w K s.heap) [] (fun _=>Rr) s.heap [v] [.v (.lst (ns.map .int))]) {RR:Qo→Nn→Prop} (hR:∀h' tk,(∀b o,s.heap.get? b=some o→h'.get? b=some o)→RR (.ok (.ret (.bool true))) {s with heap:=h',toks:=tk}):Pr (model prog w) callerA (.call (.ref ((gZ prog w K s.heap).fa 44)) ⟨[v],[]⟩) RR s:=by
 have g1:=ac gk
 have g2:=ac g1.2
 have S:=yR O (KP (ac g1.1).2 O) (j8 (ac g1.1).1)
 refine Nf fun nG=> ?_
 obtain ⟨fo,fd,body,ps,c,kk,m,F⟩:=j8 (prog:=prog) (w:=w) (h:=s.heap) (ac g1.1).1 44 vZ rfl
 refine nG ?_
 have Rm:aN (n+4) callerA:=uq hn
 have Gg0:Gg (gZ prog w K s.heap) [] [] (fun _=>Rr) s.heap:=⟨fun b o e=>e,fun a d=>d.elim,.inr rfl,fun a d=>d.elim,⟨rfl,.nil,fun k a u e _=>(by cases e),fun a m=>(by cases m)⟩⟩
 refine jf O F (args:=[.v (.lst (ns.map .int))]) (Nz 1) (Nz 1) Rm Gg0 rep fun h₁ tk x=> ?_
 have ck:bG (cA (gZ prog w K s.heap).fname m c kk) body (wa++[.ret (.cmp (.callF 43 [.var 15]) .eq sF)])=true:=F.chk
 refine DM (S (n+3)).s x.eo Rm.into ck (s:={s with heap:=h₁,toks:=tk}) x.st I.run fun st hc h' t' CA' D' St'=>Ol ?_
 exact BC O (S (n+3)).e (s:={s with heap:=h',toks:=t'}) hc x.eo St' Rm.into (Rv rfl) rfl I.odd (FF O (Hp g2.1) g2.2 (ac g1.1).1 S I.exc I.ok) I.rhs hR
end
section
open PySem PySem.W PyProof.Rows
theorem BQ {n:Nat} (hL:yg n) (hn:n <500) {d:DefRec} {kwd:List (Str×Expr)} (hd:d.name=NB "law"):WalkO qv pw.boundNames XP (fun _ _=>True) PySem.Challenge.rw_qd0111_01.row.toRowW d kwd fun f vs=>VU f vs:=by
 intro w s₀ s₁ mg mb G _ fa o pm cd doc dV kV ho hdd hcd hD hmg hg args vals as hpre hlay hrd hwl hlo
 wrow_args hpre hlay hrd hwl hlo
 rename_i ns _ _ _ _ _ _ _ l xs _ hL' _ w1 _ hI _ hlen _
 refine Nf fun nG=> ?_
 obtain ⟨K,XK,gk⟩:=G.X
 have O:(gZ pw w K s₁.heap).Ok qv (looseW qv pw.boundNames) mg mb:=KW (ac (ac gk).1).1 XK (topRead_of G.T)
 have hfa:fa=677:=by
  have e2:=mg_of O.X O.T.g (O.fn 44 (NB "law") rfl).1
  rw [hd] at hmg
  rw [hmg] at e2
  cases Ng e2
  rfl
 subst hfa
 have hz:ns.length≤63:=by omega
 obtain ⟨ρ,σ,u,b,I⟩:=hL ns hz
 obtain ⟨ol,k0,g1,g2,g3,g4⟩:∃o k,s₁.heap.get? l=some o∧o.cls= .type "list"∧o.dict=none∧o.data= .seq xs.toArray k:=by
  obtain ⟨o',q1,q2,k',q3⟩:=hL'
  cases w1 with
  |list q _=>
   rw [q1] at q
   cases Ng q
   exact ⟨_,k',q1,rfl,rfl,q3⟩
 refine nG ?_
 have rep:bS (gZ pw w K s₁.heap) [] (fun _=>Rr) s₁.heap [.ref l] [.v (.lst (ns.map .int))]:= .cons (U:= .v _) (b8.lst (by rw [Nl];exact Ni hz (by decide)) (fun z=>z) g1 g2 g3 g4 (Br hI)) .nil
 show Ny (model pw w) callerA (VU (.ref 677) [.ref l]) _ _ s₁
 refine PV (CN O gk hn I rep fun h2 tk k2=> ?_)
 exact GoodW.toG ⟨.inl ⟨.bool true,.bool true,[],rfl,fun _=>rfl,.bool true,by wrow_post,fun _=>⟨.nil,fun a m=>(by cases m)⟩⟩,k2,rfl,hg⟩
theorem Jb {n:Nat} (hL:yg n) (hn:n <500):PySem.Challenge.rw_qd0111_01.Holds:=Mp (BQ hL hn G6)
end
end Mine.Internal
theorem PySem.Challenge.cw_qd0111_01_holds : PySem.Challenge.rw_qd0111_01.Holds :=
  Mine.Internal.Jb (fun _ hz => Mine.Internal.Lc hz) (by decide)
