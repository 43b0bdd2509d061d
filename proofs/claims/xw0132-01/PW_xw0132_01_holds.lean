import PyProof.Rows.All
import Wide.All
import OpenK.AllK
import Wide.FinOn
import PyProof.NeKinds
import KE.KDictSum
import KE.KIsAll
import Lean
import PySem.Challenge.RW_xw0132_01
set_option linter.all false
set_option tactic.hygienic false
set_option Elab.async false
set_option maxRecDepth 100000
open Bool renaming true→Z,false→N,and_eq_true→I8,false_ne_true→Jd,or_eq_true→JL,not_eq_true→JN,or_false→JQ,not_eq_true'→JU,eq_false_iff→JZ,false_or→J7,not_true→Kp,noConfusion→Kx,or_eq_false_iff→KA,eq_iff_iff→K7,true_and→K9,false_and→LP,not_false→LR,or_true→LS,or_assoc→L7,beq_comm→L8,and_true→MN,and_false→Np,false_eq_true→NX,and_comm→Py,true_or→PY
open Int renaming ofNat→I9,natCast_nonneg→Ky,eq_ofNat_of_zero_le→MZ,ofNat_lt→Nc,ofNat_le→Ol,ediv_one→PM,le_trans→PP
open List renaming mem_singleton→Ja,all_eq_true→Jb,append_nil→Je,mem_of_getElem?→Jf,mem_cons→Jh,getElem?_eq_some_iff→Ji,length_map→Jj,length_append→Jk,mem_filter→Jm,eq_nil_of_length_eq_zero→Jo,getD_eq_getElem?_getD→Jp,mem_append→Ju,mem_map→Jv,getElem?_eq_getElem→Jw,getElem?_append_right→Jx,append_assoc→Jy,getElem?_append_left→Jz,range→JE,length_cons→JH,getElem?_map→JK,getElem?_cons_zero→JM,not_mem_nil→JO,getElem?_concat_length→JS,map_cons→JT,length_filter_le→JV,getElem?_cons_succ→J1,any_eq_true→J2,filter_congr→J3,exists_mem_of_ne_nil→J4,length_nil→J5,mem_range→J6,nodup_append→Kb,getElem?_set_self→Kc,map_append→Ki,getElem_mem→Kk,flatMap_cons→Kq,length_take→Kv,take_length→Kw,map→KF,lookup_cons→KI,length_singleton→KL,getElem?_take_of_lt→KQ,filter_eq_self→KT,map_congr_left→KU,mem_flatMap→KW,take_of_length_le→K3,pairwise_cons→K4,filter_filter→K6,nil_append→K8,getElem?_inj→Lc,length_range→Lf,getElem?_set_ne→Lh,any_cons→Ls,nodup_cons→Lz,foldl_cons→LA,length_eq_zero_iff→LF,drop_of_length_le→LN,set_append_right→LU,length_pos_iff_exists_mem→L0,all_cons→L3,mem_iff_getElem→Ma,range_eq_range'→Mc,length_set→Mh,map_map→Mq,map_nil→Mr,take_left→MA,drop_eq_getElem_cons→MD,any_eq_false→MK,all_eq_false→ML,filterMap_cons_some→MU,filter_cons→M1,getElem_map→M3,mem_toArray→M4,range'_succ→M5,mem_reverse→M6,set_getElem_self→Nl,append_inj_left'→Nm,mem_append_left→No,mem_of_mem_take→Nq,getElem_of_mem→NB,length_reverse→NC,mem_cons_self→NY,all_map→N6,flatten_cons→N8,take_sublist→N9,size_toArray→Ob,any_map→Oi,map_inj_left→On,foldl_append→Os,mem_flatten→Ow,flatMap_nil→Ox,cons_append→OB,getD→OD,cons_ne_nil→OH,isEmpty_iff→OI,range'→OO,all_nil→PU,set_set→PW,any_nil→PX
open PySem renaming wpAny_bind→Jc,wpAny_pure→Jg,NameKind→Js,sizeLine_eq→JP,mainGlobals→JY,mem_of_lookup→J9,compareOp→Kg,wpAny_items_cons→Kl,strKind→Km,wpAny_standAt→Ko,wpAny_mono→Ks,starEach→Ku,wpAny_items_nil→KB,wpAny_truthy_bool→KN,wpAny_holding→KP,wpAny_assignInOrder_more→KS,wpAny_newObj_type→Ld,wpAny_assign_Name→Le,DictEntry→Lm,valueAt→Ln,sizeLine→Lu,wpAny_specialOf→Ly,sysModules→LB,intKind→LK,bootBuiltins→LL,builtinsNs→LW,wpAny_Call_NameR→LY,wpAny_newList→L5,binaryOp→L9,wpAny_letTemporaryGo→Mb,letOwnedTupleGo→Me,backTo→Mg,wpAny_Constant_none→Mj,getItem→Mn,behindInMarks→MR,foldedForSure→MS,wpAny_assignInOrder_none→MT,wpAny_call_entry→MV,noFill_tuple_add→MX,swapsWith→M0,treeTable→M2,wpAny_rule→M8,concat_meets→Na,meets_dict_get_default→Nb,wpAny_execs_nil→Ng,wpAny_isTrue_Compare1→Nk,wpAny_setItem_pairs→Nx,seq_tuple_add→ND,swappedStores→NF,wpAny_getItem_list→NT,wpAny_pyIter_tuple→NW,newList→Oa,codeAny→Oc,wpAny_pyIter_list→Od,call_meetsIn→Of,FuncData→Om,wpAny_forIn_list→Ou,eqIsQuiet→Ov,seqIndex?→Oy,wpAny_getItem_of→OA,cellsFrom→OC,wpAny_field→OK,wpAny_operating→OX,importedModules→OY,wpAny_notIn_of→O3,sliceRange→O6,recursionLimit→O7,compEnvC→O8,wpAny_loadPart→Pb,constantsAlone→Pj,letTemporaryGo→Pk,callWith→Pl,methodCallForm→Pm,evalEach→Pp,wpAny_Compare1→Pq,wpAny_bindName→Pr,call_len_dict→Pu,methodCallPos→Pw,wpAny_UnaryOp→Px,slicePick→PC,getMethod→PE,Builtin→PK,storedH→PL,wpAny_typeOf→PN,rawInt→PO,allTrue→PT,wpAny_in_of→P2,sliceBounds→P7,SubscriptOn→P9,keeperOf→Qb,wpAny_Slice→Qd,boolOp→Qq,setItem→Qz,argBest→QA,UnaryOp→QC
open PySem.Challenge renaming rw_xw0132_01→Jl
open PySem.Heap renaming get?_push_of_some→Jn,get?_push_size→JG,lt_size→Kr,SameBut→K0,ExtBut→Li,size_push→MB
open PySem.Str renaming ofString→Jq
open Option renaming some→O,none→U,map_eq_some_iff→Jr,isSome_iff_exists→KO,eq_none_iff_forall_ne_some→LI,map_some→Ni,mem_toList→N7
open Option.some renaming inj→Jt,injEq→JF
open Nat renaming lt_of_le_of_lt→JA,le_of_lt→JB,le_refl→JC,le_trans→JD,le_of_succ_le_succ→JJ,le_add_right→JX,add_le_add_left→J8,le_of_ble_eq_true→Ka,zero_mul→Ke,add_comm→Kh,mod_lt→Kj,eq_zero_of_le_zero→Kt,pos_of_ne_zero→Kz,add_lt_add_left→KC,zero_le→KG,le_of_not_lt→KH,lt_succ_self→KZ,le_of_eq→K5,not_succ_le_zero→Lg,ble→Lk,zero_add→Ll,ne_of_lt→Lo,succ_le_succ→Lp,lt_irrefl→Lv,lt_of_lt_of_le→LC,add_assoc→L2,mul_le_mul_left→Mi,add_sub_cancel→My,lt_succ_of_lt→MH,le_succ_of_le→MJ,le_of_lt_succ→MM,lt_add_of_pos_right→M7,not_lt→M9,le_add_left→Nd,add_le_add_right→Nn,sub_lt_sub_left→Ny,add_right_comm→NQ,lt_trans→Oe,sub_self→Oo,lt_of_succ_lt→Op,succ_pos→Oq,zero_lt_succ→OJ,le_succ→OL,min_eq_left→OR,le_antisymm→OS,min_self→PH,blt→PV,mul_succ→PZ,one_mul→Qe,blt_eq→Qv,ble_eq→Qw,sub_le→Qx
open Array renaming getElem?_toList→JI,length_toList→JR,isEmpty_iff_size_eq_zero→LX,getElem?_eq_getElem→MC,toList_push→ME,any_toList→MW,forIn_toList→NR,mk→Ps
open PySem.Builtin.Tuple renaming tupleHashOf→JW,tupleExact→Lx,tupleItemsOf→Mw
open Eq renaming subst→J0,symm→N5
open PySem.PyData renaming keyHash→KJ
open PySem.Builtin.Slice renaming slicePlaces→KM,sliceAdjust→Lq,sliceApplied→O5
open PySem.NameKind renaming free→KR,cell→NE
open PySem.IsL renaming update→KY
open PySem.F renaming slot_dict_get→La,slot_tuple_getitem→Lj,args_tuple_add_2→Lw,entry_tuple_add→LD,args_dict_get_3→LG,plainAttrs_list→LH,slot_tuple_hash→LJ,slot_tuple_add→LO,entry_dict_get→LQ,slot_list_extend→MQ,slot_list_pop→Nj
open PySem.W.Fast renaming tw12908688711261696721→Lb,tw13343964577679436407→Mk,tw17119622794617984870→Ml,tw17868728402115742887→Mm,tw8377067652309620493→Ms,tw3471404346716756564→Mt,tw8326940854005059898→Mu,tw9807087744658564304→Mv,tw10110043849684766642→NG,tw14364793385576792824→NH,te10110043849684766642→NI,te14364793385576792824→NJ,tw15667345088766844465→NK,tw11892475500146522536→NL,te15667345088766844465→NM,te11892475500146522536→NN,tw9446332074065402090→NO,te9446332074065402090→NP,tw4187177175401517315→N3,te4187177175401517315→N4,sDec→QG
open PySem.Heap.SameBut renaming update→Lr
open Ne renaming symm→LM
open PySem.W renaming boot_heap→LZ,instObj→MF,emptyDict→MY,topFrame→Nu,hasDictIn→Nv,absHeap→Nw,dictOf→NS,findIn→NZ,plainGet_of→OM,plainGet→Pa,plainOver→PD,putName_dict→PQ,keepIn→Qp,topRun→Qu,takerIn→QB,keeps_K→QD
open PySem.Value renaming isStrOf→L4,none→Mx,isInt→MG,int→QK,ref→QN
open Int.ofNat renaming inj→L6
open ForInStep renaming yield→Mf
open PySem.Code renaming builtin→Mo
open PySem.Keeper renaming boundFrame→MI,machine→Nt,frame→Oj
open PySem.Builtin.List renaming listTooLong→MO
open PySem.AutoSeq1 renaming wpAny_loadPart'→MP
open List.cons renaming injEq→Nf
open PySem.Expr.Tuple renaming elim→Nh
open PySem.Calls renaming Name_function_global→Nr,call_len_list→Pt
open PySem.Expr.Attribute renaming elim→Nz
open PySem.Expr.Subscript renaming elim→NA
open PySem.Obj renaming mapSeq→NU
open PyProof.Rows renaming slot_tuple_getitem→NV,IntsAre→OZ,getItem_tuple→O0,strKind_oneLt→O9,truthy_int→PB,len_tuple→PJ,add_int→P3,sub_int→P4,mul_int→P5,neg_int→P6,lt_int→Qg,gt_int→Qh,ge_int→Qi,le_int→Qj
open PySem.Expr.Constant renaming elim→N0
open PySem.Expr.ListComp renaming elim→N1
open PySem.ScopeKind renaming function→N2
open PySem.Expr.UnaryOp renaming elim→Og
open PySem.Expr.Compare renaming elim→Oh
open PySem.W.OpenLaw renaming wellSaid→Ot
open Classical renaming choose→Oz,choose_spec→P1
open PySem.Expr.BoolOp renaming elim→OE
open PySem.Stmt.Assign renaming elim→OF
open PySem.Stmt.Return renaming elim→OG
open PySem.CmpOp renaming IsNot→ON,Is→P8
open PySem.MeetsSeq renaming list_pop_last→OP
open PySem.Heap.DictOf renaming new→OQ
open PySem.Expr.BinOp renaming elim→OT
open PySem.Expr.IfExp renaming elim→OU
open PySem.Expr.Slice renaming elim→OV
open PySem.Stmt.While renaming elim→OW
open PySem.Builtin renaming bitAnd→O4
open PySem.Expr.Name renaming elim→Pd
open PySem.Expr.List renaming elim→Pe
open PySem.Expr.Dict renaming elim→Pf
open PySem.Expr.Call renaming elim→Ph
open PySem.Stmt.Expr renaming elim→Pi
open PySem.Stmt.For renaming elim→Pv
open PySem.SeqAt.EqAt renaming same→Pz,of_refs→PI
open PySem.Flow renaming next→PF
open PySem.Builtin.Range renaming rangeSize→PG
open PySem.Stmt.If renaming elim→PR
open List.Perm renaming append_left→P0
open PySem.Builtin.Int renaming intBits→Qf
open List.Nodup renaming sublist→Ql
open PySem.BoolOp renaming And→Qm,Or→QM
open PySem.W.SharedT renaming mk→Qr
open List.Sublist renaming refl→Qy
open List.Pairwise renaming imp→QE
open PySem.W.R renaming filterR→QF
open PySem.Heap.DictOfH renaming new→QH
open PySem.IntMulOk renaming of_left→QJ
open PySem.DictEntry renaming refKey→QL
open PySem.Const.none renaming elim→QO
open Prod renaming ext→QP
open Decidable renaming decide→QQ
open PySem PySem.W PyProof.Rows PySem.SeqAt PySem.Calls
namespace Mine
local macro_rules
  | `(%[$es,*|_]) => do
    let mut r : Lean.TSyntax `term ← `(.nil)
    for a in es.getElems.reverse do r ← `(.cons $a $r)
    return r
section
set_option tactic.hygienic true
set_option maxHeartbeats 1000000
noncomputable abbrev HO:=NO
theorem C1: @Ot= @HO:=NP
theorem cH{a b:Bool}(h:a=Z)(g:b=Z):(a&&b)=Z:=by rw[h,g];rfl
theorem EC{p:Program}(h:Ms p=Z)
  (f:QF (Mk p p.main.body) [⟨⟨[118,97,114,115]⟩⟩,⟨⟨[100,105,114]⟩⟩,⟨⟨[108,111,99,97,108,115]⟩⟩]=[])
  (g:R.allR (Fast.tw5923862056798008813 p.main.body) (@Mt Str (@instBEqOfDecidableEq Str QG) Fast.tw17691160309236699985)=Z)
  (m:Mu {strict:=N,foot:=U,bare:=[]} p.main.body=Z)
  (n:Ml p p.main.body (λ_ n=>Mm n)=Z)
  (x:Fast.tw11788848310118352699 p.main=Z) (y:((Mv p.main.body).isEmpty||Fast.tw12862048085361865435 (Mv p.main.body) p.main.body)=Z)
  (z:(R.allR (Fast.tw18344453789297297638 p) λn=> !@Mt Str (@instBEqOfDecidableEq Str QG) Fast.tw14412699480532031325 n)=Z):Lb p=Z:=by
 delta Lb;rw[f,g];exact cH (cH (cH (cH (cH x y) h) z) m) n
theorem FX:Ms Jl.prog=Z:=by kernel_rfl
theorem FW:QF (Mk Jl.prog Jl.prog.main.body) [⟨⟨[118,97,114,115]⟩⟩,⟨⟨[100,105,114]⟩⟩,⟨⟨[108,111,99,97,108,115]⟩⟩]=[]:=by kernel_rfl
theorem FQ:Mu {strict:=N,foot:=U,bare:=[]} Jl.prog.main.body=Z:=by kernel_rfl
theorem E0:Ml Jl.prog Jl.prog.main.body (λ_ n=>Mm n)=Z:=by kernel_rfl
theorem EZ:Lb (Fast.tw2368527892694137696 Jl).prog=Z:=by
 refine EC (p:=Jl.prog) FX FW ?_ FQ E0 ?_ ?_ ?_<;>kernel_rfl
theorem Gb:HO Jl=Z:=by
 delta HO Fast.tw9446332074065402090
 repeat' with_reducible refine cH ?_ ?_
 ·delta Fast.tw17960256430627541270
  with_reducible refine cH (cH ?_ ?_) ?_
  ·delta Fast.tw2436336058641802641
   repeat' with_reducible refine cH ?_ ?_
   ·exact EZ
   all_goals kernel_rfl
  all_goals kernel_rfl
 all_goals kernel_rfl
theorem E4:Ot Jl=Z:=by rw[C1];exact Gb
end
theorem aO{p q:Prop}{M:Prop}(h:p∧q)(K:p→q→M):M:=K h.1 h.2
theorem cI{p q r:Prop}{M:Prop}(h:p∧q∧r)(K:p→q→r→M):M:=K h.1 h.2.1 h.2.2
theorem DX{p q r s:Prop}{M:Prop}(h:p∧q∧r∧s)(K:p→q→r→s→M):M:=K h.1 h.2.1 h.2.2.1 h.2.2.2
theorem qY{p q r s o:Prop}{M:Prop}(h:p∧q∧r∧s∧o)(K:p→q→r→s→o→M):M:=K h.1 h.2.1 h.2.2.1 h.2.2.2.1 h.2.2.2.2
theorem aG.{u}{A:Sort u}{p:A→Prop}{M:Prop}(h:∃a,p a)(K:∀a,p a→M):M:=h.elim λa h=>K a h
theorem ak.{u}{A:Sort u}{p q:A→Prop}{M:Prop}(h:∃a,p a∧q a)(K:∀a,p a→q a→M):M:=h.elim λa h=>K a h.1 h.2
theorem cG.{u}{A:Sort u}{p q r:A→Prop}{M:Prop}(h:∃a,p a∧q a∧r a)(K:∀a,p a→q a→r a→M):M:=h.elim λa h=>K a h.1 h.2.1 h.2.2
theorem pE.{u}{A:Sort u}{p q r s:A→Prop}{M:Prop}(h:∃a,p a∧q a∧r a∧s a)(K:∀a,p a→q a→r a→s a→M):M:=h.elim λa h=>K a h.1 h.2.1 h.2.2.1 h.2.2.2
theorem te.{u,v}{A:Sort u}{B:Sort v}{p:A→B→Prop}{M:Prop}(h:∃a b,p a b)(K:∀a b,p a b→M):M:=h.elim λa h=>h.elim λb h=>K a b h
theorem b9.{u,v}{A:Sort u}{B:Sort v}{p q:A→B→Prop}{M:Prop}(h:∃a b,p a b∧q a b)(K:∀a b,p a b→q a b→M):M:=h.elim λa h=>h.elim λb h=>K a b h.1 h.2
theorem aX.{u,v}{A:Sort u}{B:Sort v}{p q r:A→B→Prop}{M:Prop}(h:∃a b,p a b∧q a b∧r a b)(K:∀a b,p a b→q a b→r a b→M):M:=h.elim λa h=>h.elim λb h=>K a b h.1 h.2.1 h.2.2
theorem EQ.{u,v,w}{A:Sort u}{B:Sort v}{C:Sort w}{p q:A→B→C→Prop}{M:Prop}(h:∃a b c,p a b c∧q a b c)(K:∀a b c,p a b c→q a b c→M):M:=h.elim λa h=>h.elim λb h=>h.elim λc h=>K a b c h.1 h.2
theorem Bs.{u,v,w}{A:Sort u}{B:Sort v}{C:Sort w}{p q r:A→B→C→Prop}{M:Prop}(h:∃a b c,p a b c∧q a b c∧r a b c)(K:∀a b c,p a b c→q a b c→r a b c→M):M:=h.elim λa h=>h.elim λb h=>h.elim λc h=>K a b c h.1 h.2.1 h.2.2
theorem vj.{u,v,w}{A:Sort u}{B:Sort v}{C:Sort w}{p q r s:A→B→C→Prop}{M:Prop}(h:∃a b c,p a b c∧q a b c∧r a b c∧s a b c)(K:∀a b c,p a b c→q a b c→r a b c→s a b c→M):M:=h.elim λa h=>h.elim λb h=>h.elim λc h=>K a b c h.1 h.2.1 h.2.2.1 h.2.2.2
theorem E5.{u,v,w}{A:Sort u}{B:Sort v}{C:Sort w}{p q r s o n:A→B→C→Prop}{M:Prop}(h:∃a b c,p a b c∧q a b c∧r a b c∧s a b c∧o a b c∧n a b c)(K:∀a b c,p a b c→q a b c→r a b c→s a b c→o a b c→n a b c→M):M:=h.elim λa h=>h.elim λb h=>h.elim λc h=>K a b c h.1 h.2.1 h.2.2.1 h.2.2.2.1 h.2.2.2.2.1 h.2.2.2.2.2
theorem xc.{u,v,w,x}{A:Sort u}{B:Sort v}{C:Sort w}{D:Sort x}{p q:A→B→C→D→Prop}{M:Prop}(h:∃a b c d,p a b c d∧q a b c d)(K:∀a b c d,p a b c d→q a b c d→M):M:=h.elim λa h=>h.elim λb h=>h.elim λc h=>h.elim λd h=>K a b c d h.1 h.2
theorem dJ.{u,v,w,x}{A:Sort u}{B:Sort v}{C:Sort w}{D:Sort x}{p q r s o:A→B→C→D→Prop}{M:Prop}(h:∃a b c d,p a b c d∧q a b c d∧r a b c d∧s a b c d∧o a b c d)(K:∀a b c d,p a b c d→q a b c d→r a b c d→s a b c d→o a b c d→M):M:=h.elim λa h=>h.elim λb h=>h.elim λc h=>h.elim λd h=>K a b c d h.1 h.2.1 h.2.2.1 h.2.2.2.1 h.2.2.2.2
theorem kc.{u,v,w,x}{A:Sort u}{B:Sort v}{C:Sort w}{D:Sort x}{p q r s o n:A→B→C→D→Prop}{M:Prop}(h:∃a b c d,p a b c d∧q a b c d∧r a b c d∧s a b c d∧o a b c d∧n a b c d)(K:∀a b c d,p a b c d→q a b c d→r a b c d→s a b c d→o a b c d→n a b c d→M):M:=h.elim λa h=>h.elim λb h=>h.elim λc h=>h.elim λd h=>K a b c d h.1 h.2.1 h.2.2.1 h.2.2.2.1 h.2.2.2.2.1 h.2.2.2.2.2
theorem Dn.{u,v,w,x}{A:Sort u}{B:Sort v}{C:Sort w}{D:Sort x}{p q r s o n m:A→B→C→D→Prop}{M:Prop}(h:∃a b c d,p a b c d∧q a b c d∧r a b c d∧s a b c d∧o a b c d∧n a b c d∧m a b c d)(K:∀a b c d,p a b c d→q a b c d→r a b c d→s a b c d→o a b c d→n a b c d→m a b c d→M):M:=h.elim λa h=>h.elim λb h=>h.elim λc h=>h.elim λd h=>K a b c d h.1 h.2.1 h.2.2.1 h.2.2.2.1 h.2.2.2.2.1 h.2.2.2.2.2.1 h.2.2.2.2.2.2
theorem Ho.{u,v,w,x}{A:Sort u}{B:Sort v}{C:Sort w}{D:Sort x}{p q r s o n m l:A→B→C→D→Prop}{M:Prop}(h:∃a b c d,p a b c d∧q a b c d∧r a b c d∧s a b c d∧o a b c d∧n a b c d∧m a b c d∧l a b c d)(K:∀a b c d,p a b c d→q a b c d→r a b c d→s a b c d→o a b c d→n a b c d→m a b c d→l a b c d→M):M:=h.elim λa h=>h.elim λb h=>h.elim λc h=>h.elim λd h=>K a b c d h.1 h.2.1 h.2.2.1 h.2.2.2.1 h.2.2.2.2.1 h.2.2.2.2.2.1 h.2.2.2.2.2.2.1 h.2.2.2.2.2.2.2
theorem i2.{u1,u2}{α1:Sort u1}{α2:Sort u2}{p:α1→α2→Prop}(a1:α1)(a2:α2)(h:p a1 a2):∃a1 a2,p a1 a2:=⟨a1,a2,h⟩
theorem i3.{u1,u2,u3}{α1:Sort u1}{α2:Sort u2}{α3:Sort u3}{p:α1→α2→α3→Prop}(a1:α1)(a2:α2)(a3:α3)(h:p a1 a2 a3):∃a1 a2 a3,p a1 a2 a3:=⟨a1,a2,a3,h⟩
theorem i4.{u1,u2,u3,u4}{α1:Sort u1}{α2:Sort u2}{α3:Sort u3}{α4:Sort u4}{p:α1→α2→α3→α4→Prop}(a1:α1)(a2:α2)(a3:α3)(a4:α4)(h:p a1 a2 a3 a4):∃a1 a2 a3 a4,p a1 a2 a3 a4:=⟨a1,a2,a3,a4,h⟩
theorem i5.{u1,u2,u3,u4,u5}{α1:Sort u1}{α2:Sort u2}{α3:Sort u3}{α4:Sort u4}{α5:Sort u5}{p:α1→α2→α3→α4→α5→Prop}(a1:α1)(a2:α2)(a3:α3)(a4:α4)(a5:α5)(h:p a1 a2 a3 a4 a5):∃a1 a2 a3 a4 a5,p a1 a2 a3 a4 a5:=⟨a1,a2,a3,a4,a5,h⟩
theorem i6.{u1,u2,u3,u4,u5,u6}{α1:Sort u1}{α2:Sort u2}{α3:Sort u3}{α4:Sort u4}{α5:Sort u5}{α6:Sort u6}{p:α1→α2→α3→α4→α5→α6→Prop}(a1:α1)(a2:α2)(a3:α3)(a4:α4)(a5:α5)(a6:α6)(h:p a1 a2 a3 a4 a5 a6):∃a1 a2 a3 a4 a5 a6,p a1 a2 a3 a4 a5 a6:=⟨a1,a2,a3,a4,a5,a6,h⟩
theorem i7.{u1,u2,u3,u4,u5,u6,u7}{α1:Sort u1}{α2:Sort u2}{α3:Sort u3}{α4:Sort u4}{α5:Sort u5}{α6:Sort u6}{α7:Sort u7}{p:α1→α2→α3→α4→α5→α6→α7→Prop}(a1:α1)(a2:α2)(a3:α3)(a4:α4)(a5:α5)(a6:α6)(a7:α7)(h:p a1 a2 a3 a4 a5 a6 a7):∃a1 a2 a3 a4 a5 a6 a7,p a1 a2 a3 a4 a5 a6 a7:=⟨a1,a2,a3,a4,a5,a6,a7,h⟩
theorem aw{G:Prop}(h:∀M:Prop,(G→M)→M):G:=h G id
section
variable{β:Type}
theorem ns{α:Type}{a:α}{M:Prop}(h:U=O a):M:=nomatch h
noncomputable def oO{α:Type}(q:Option α)(f:α→Option β):Option β:=match q with
 |some x=>f x
 |none=>U
theorem aI{α:Type}{q:Option α}{f:α→Option β}{r:β}{M:Prop}(h:oO q f=O r)(K:∀x,q=O x→f x=O r→M):M:=by
 cases q with
 |none=>exact ns h
 |some a=>exact K a rfl h
theorem bH{c:Prop}[Decidable c]{x:Option β}{r:β}{M:Prop}(h:(if c then x else U)=O r)(K:c→x=O r→M):M:=
 if q:c then K q ((if_pos q).symm.trans h) else ns ((if_neg q).symm.trans h)
theorem qp{c:Bool}{X Y:Prop}(hx:c=Z→X)(hy:c=N→Y):if c=Z then X else Y:=by
 cases c with
 |true=>exact hx rfl
 |false=>exact hy rfl
end
theorem nc{a b:Nat}(e:Lk a b=Z:=by rfl):a≤b:=Ka e
theorem nl{a b c:Nat}(h:b≤c)(e:Lk a b=Z:=by rfl):a≤c:=JD (Ka e) h
theorem nr{a b c:Nat}(h:a≤b)(e:Lk b c=Z:=by rfl):a≤c:=JD h (Ka e)
theorem na{a d k:Nat}(e:Lk a d=Z:=by rfl):a≤k+d:=JD (Ka e) (Nd _ _)
theorem nq{a b k:Nat}(h:b≤k)(e:Lk a b=Z:=by rfl):k=k - a+a:=(Nat.sub_add_cancel (nl h e)).symm
theorem nu{a b c d:Nat}(h:a+b<d)(e:Lk c b=Z:=by rfl):a+c<d:=JA (J8 (Ka e) a) h
theorem nx{n m k c d:Nat}(h:n≤m)(e:Lk (k*m+c) d=Z:=by rfl):k*n+c≤d:=JD (Nn (Mi k h) c) (Ka e)
theorem BN{n m k d:Nat}(h:n≤m)(e:Lk (k*m) d=Z:=by rfl):k*n≤d:=JD (Mi k h) (Ka e)
theorem nz{a l d:Nat}(h:a+(l+1)<d):a+(0+1)+l<d:=by rw[Ll,L2,Kh 1 l];exact h
theorem HJ{w:Nat}(h:w<6):w=0∨w=1∨w=2∨w=3∨w=4∨w=5:=(by decide:∀w<6,w=0∨w=1∨w=2∨w=3∨w=4∨w=5) w h
theorem ny{a b c:Nat}(h:a≤b)(e:Lk (b+1) c=Z:=by rfl):a<c:=JA h (Ka e)
theorem G0{p q r s o n:Prop}{M:Prop}(h:p∧q∧r∧s∧o∧n)(K:p→q→r→s→o→n→M):M:=K h.1 h.2.1 h.2.2.1 h.2.2.2.1 h.2.2.2.2.1 h.2.2.2.2.2
theorem DN{p q r s o n m l:Prop}{M:Prop}(h:p∧q∧r∧s∧o∧n∧m∧l)(K:p→q→r→s→o→n→m→l→M):M:=K h.1 h.2.1 h.2.2.1 h.2.2.2.1 h.2.2.2.2.1 h.2.2.2.2.2.1 h.2.2.2.2.2.2.1 h.2.2.2.2.2.2.2
theorem vH.{u,v}{A:Sort u}{B:Sort v}{p q r s o:A→B→Prop}{M:Prop}(h:∃a b,p a b∧q a b∧r a b∧s a b∧o a b)(K:∀a b,p a b→q a b→r a b→s a b→o a b→M):M:=h.elim λa h=>h.elim λb h=>K a b h.1 h.2.1 h.2.2.1 h.2.2.2.1 h.2.2.2.2
theorem Hi.{u,v,w}{A:Sort u}{B:Sort v}{C:Sort w}{p:A→B→C→Prop}{M:Prop}(h:∃a b c,p a b c)(K:∀a b c,p a b c→M):M:=h.elim λa h=>h.elim λb h=>h.elim λc h=>K a b c h
theorem HB.{u,v,w}{A:Sort u}{B:Sort v}{C:Sort w}{p q r s o:A→B→C→Prop}{M:Prop}(h:∃a b c,p a b c∧q a b c∧r a b c∧s a b c∧o a b c)(K:∀a b c,p a b c→q a b c→r a b c→s a b c→o a b c→M):M:=h.elim λa h=>h.elim λb h=>h.elim λc h=>K a b c h.1 h.2.1 h.2.2.1 h.2.2.2.1 h.2.2.2.2
theorem Hb.{u,v,w,x}{A:Sort u}{B:Sort v}{C:Sort w}{D:Sort x}{p q r s:A→B→C→D→Prop}{M:Prop}(h:∃a b c d,p a b c d∧q a b c d∧r a b c d∧s a b c d)(K:∀a b c d,p a b c d→q a b c d→r a b c d→s a b c d→M):M:=h.elim λa h=>h.elim λb h=>h.elim λc h=>h.elim λd h=>K a b c d h.1 h.2.1 h.2.2.1 h.2.2.2
theorem vB.{u,v}{A:Sort u}{B:Sort v}{p q r s:A→B→Prop}{M:Prop}(h:∃a b,p a b∧q a b∧r a b∧s a b)(K:∀a b,p a b→q a b→r a b→s a b→M):M:=h.elim λa h=>h.elim λb h=>K a b h.1 h.2.1 h.2.2.1 h.2.2.2
section
inductive AV where
 |none
 |bool (b:Bool)
 |int (i:Int)
 |str (x:List Nat)
 |tup (l:List AV)
 |lst (l:List AV)
set_option genInjectivity false in
inductive GV where
 |dat (v:AV)
 |ref (n:Nat)
set_option genInjectivity false in
inductive LV where
 |val (v:AV)
 |loc (n:Nat)
 |ref (n:Nat)
 |tab (a:Nat)
inductive KD where
 |int|str|tup
 deriving DecidableEq
set_option genInjectivity false in
inductive CO where
 |list (l:List AV)
 |dict (k:KD) (es:List (AV×AV))
set_option genInjectivity false in
inductive GO where
 |inst (c:Nat) (fs:List (Nat×GV))
 |con (o:CO)
 |rlist (l:List GV)
set_option genInjectivity false in
structure St where
 G:List GO
 S:List CO
noncomputable abbrev v8{β:Type}(b:AV)(n:β)(bo:Bool→β)(i:Int→β)(s:List Nat→β)(t l:List AV→β):β:=AV.casesOn (motive_1:=λ_=>β) b n bo i s t l
noncomputable abbrev dq{α:Type}(_:α):Bool:=N
mutual
noncomputable def AV.beq:AV→AV→Bool
 | .none,b=>v8 b Z dq dq dq dq dq
 | .bool x,b=>v8 b N (λy=>x==y) dq dq dq dq
 | .int x,b=>v8 b N dq (λy=>x==y) dq dq dq
 | .str x,b=>v8 b N dq dq (λy=>x==y) dq dq
 | .tup x,b=>v8 b N dq dq dq (λy=>AV.beqL x y) dq
 | .lst x,b=>v8 b N dq dq dq dq (λy=>AV.beqL x y)
noncomputable def AV.beqL:List AV→List AV→Bool
 |[],m=>m.isEmpty
 |a::l,m=>List.casesOn (motive:=λ_=>Bool) m N λb m=>AV.beq a b&&AV.beqL l m
end
theorem ff{p:Prop}(n:¬p):(N=Z)↔p:=⟨λh=>(Jd h).elim,λh=>(n h).elim⟩
mutual
theorem AV.beq_iff:∀{a b:AV},AV.beq a b=Z↔a=b
 | .none,b=>by cases b<;>first|exact ff (λh=>nomatch h)|exact⟨λ_=>rfl,λ_=>rfl⟩
 | .bool a,b=>by cases b<;>first|exact ff (λh=>nomatch h)|exact beq_iff_eq.trans ⟨congrArg _,AV.bool.inj⟩
 | .int a,b=>by cases b<;>first|exact ff (λh=>nomatch h)|exact beq_iff_eq.trans ⟨congrArg _,AV.int.inj⟩
 | .str a,b=>by cases b<;>first|exact ff (λh=>nomatch h)|exact beq_iff_eq.trans ⟨congrArg _,AV.str.inj⟩
 | .tup l,b=>by cases b<;>first|exact ff (λh=>nomatch h)|exact AV.beqL_iff.trans ⟨congrArg _,AV.tup.inj⟩
 | .lst l,b=>by cases b<;>first|exact ff (λh=>nomatch h)|exact AV.beqL_iff.trans ⟨congrArg _,AV.lst.inj⟩
theorem AV.beqL_iff:∀{l m:List AV},AV.beqL l m=Z↔l=m
 |[],m=>by cases m<;>first|exact ff (λh=>nomatch h)|exact⟨λ_=>rfl,λ_=>rfl⟩
 |a::l,m=>by
  induction m with
  |nil=>exact ff (λh=>nomatch h)
  |cons b m=>
   show(AV.beq a b&&AV.beqL l m)=Z↔_;rw[I8,Nf];exact and_congr AV.beq_iff AV.beqL_iff
end
noncomputable instance:DecidableEq AV:=λa b=>if h:AV.beq a b=Z then .isTrue (AV.beq_iff.mp h) else .isFalse λe=>h (AV.beq_iff.mpr e)
mutual
noncomputable def AV.dep:AV→Nat
 | .tup l=>AV.depL l+1
 | .lst l=>AV.depL l+1
 |_=>0
noncomputable def AV.depL:List AV→Nat
 |[]=>0
 |a::l=>max a.dep (AV.depL l)
end
theorem AV.dep_le:∀{l:List AV} {a:AV},a∈l→a.dep≤AV.depL l
 |b::l,a,h=>(Jh.mp h).elim (λe=>e▸Nat.le_max_left _ _) λh=>JD (AV.dep_le h) (Nat.le_max_right _ _)
mutual
noncomputable def AV.eqv:AV→AV→Bool
 | .none,b=>v8 b Z dq dq dq dq dq
 | .bool x,b=>v8 b N (λy=>x==y) (λy=>(if x then 1 else 0)==y) dq dq dq
 | .int x,b=>v8 b N (λy=>x==(if y then 1 else 0)) (λy=>x==y) dq dq dq
 | .str x,b=>v8 b N dq dq (λy=>x==y) dq dq
 | .tup x,b=>v8 b N dq dq dq (λy=>AV.eqvL x y) dq
 | .lst x,b=>v8 b N dq dq dq dq (λy=>AV.eqvL x y)
noncomputable def AV.eqvL:List AV→List AV→Bool
 |[],m=>m.isEmpty
 |a::l,m=>List.casesOn (motive:=λ_=>Bool) m N λb m=>AV.eqv a b&&AV.eqvL l m
end
mutual
theorem AV.eqv_self:∀a:AV,AV.eqv a a=Z
 | .none=>rfl
 | .bool x=>beq_self_eq_true x
 | .int x=>beq_self_eq_true x
 | .str x=>beq_self_eq_true x
 | .tup l=>AV.eqvL_self l
 | .lst l=>AV.eqvL_self l
theorem AV.eqvL_self:∀l:List AV,AV.eqvL l l=Z
 |[]=>rfl
 |a::l=>(I8 _ _).mpr ⟨AV.eqv_self a,AV.eqvL_self l⟩
end
mutual
noncomputable def AV.key:AV→Bool
 | .int _=>Z
 | .str _=>Z
 | .tup l=>AV.keyL l
 |_=>N
noncomputable def AV.keyL:List AV→Bool
 |[]=>Z
 |a::l=>a.key&&AV.keyL l
end
theorem ua{α:Type}[BEq α][LawfulBEq α]{x y:α}{p:Prop}[Decidable p](h:x=y↔p):(x==y)=decide p:=K7.mpr (beq_iff_eq.trans (h.trans decide_eq_true_iff.symm))
theorem kS{p:Prop}[Decidable p](h:¬p):N=decide p:=(decide_eq_false h).symm
mutual
theorem AV.eqv_key:∀{a b:AV},a.key=Z→b.key=Z→AV.eqv a b=QQ (a=b)
 | .int a,b,_,hb=>by
  cases b<;>first|exact kS (λh=>nomatch h)|cases hb|skip
  exact ua ⟨congrArg _,AV.int.inj⟩
 | .str a,b,_,hb=>by
  cases b<;>first|exact kS (λh=>nomatch h)|cases hb|skip
  exact ua ⟨congrArg _,AV.str.inj⟩
 | .tup l,b,ha,hb=>by
  cases b<;>first|exact kS (λh=>nomatch h)|cases hb|skip
  exact(AV.eqvL_key ha hb).trans (decide_eq_decide.mpr ⟨congrArg _,AV.tup.inj⟩)
 | .none,_,ha,_=>nomatch ha
 | .bool _,_,ha,_=>nomatch ha
 | .lst _,_,ha,_=>nomatch ha
theorem AV.eqvL_key:∀{l m:List AV},AV.keyL l=Z→AV.keyL m=Z→AV.eqvL l m=QQ (l=m)
 |[],m,_,_=>by cases m<;>first|exact kS (λh=>nomatch h)|exact(decide_eq_true rfl).symm
 |a::l,[],_,_=>kS (λh=>nomatch h)
 |a::l,b::m,ha,hb=>by
  have ha:=(I8 _ _).mp ha;have hb:=(I8 _ _).mp hb;refine(congr (congrArg and (AV.eqv_key ha.1 hb.1)) (AV.eqvL_key ha.2 hb.2)).trans ?_;rw[←Bool.decide_and];exact decide_eq_decide.mpr (Iff.of_eq (Nf _ _ _ _).symm)
end
noncomputable def b8(x:List Nat):Str:=⟨x.toArray⟩
theorem jg{x y:List Nat}(h:b8 x=b8 y):x=y:=by
 injection h with h
 simpa using congrArg Array.toList h
set_option genInjectivity false in
structure Mp where
 g:List (Addr×Option Addr)
 s:List Addr
 off:Nat
noncomputable def Mp.Mem(μ:Mp)(a:Addr):Prop:=(∃p∈μ.g,a=p.1∨p.2=O a)∨a∈μ.s
mutual
noncomputable def ay(h:Heap)(μ:Mp):AV→Value→Prop
 | .none,v=>v= .none
 | .bool b,v=>v= .bool b
 | .int i,v=>∃t,v= .int i t
 | .str x,v=>∃t,v= .str (b8 x) t
 | .tup l,v=>∃a o vs n,v= .ref a∧¬μ.Mem a∧h.get? a=O o∧o.cls= .type "tuple"∧o.data= .seq vs n∧ax h μ l vs.toList
 | .lst l,v=>∃a o vs n,v= .ref a∧¬μ.Mem a∧h.get? a=O o∧o.cls= .type "list"∧o.data= .seq vs n∧ax h μ l vs.toList
noncomputable def ax(h:Heap)(μ:Mp):List AV→List Value→Prop
 |[],vs=>vs=[]
 |a::l,vs=>∃v r,vs=v::r∧ay h μ a v∧ax h μ l r
end
noncomputable def fv(h:Heap)(μ:Mp):GV→Value→Prop
 | .dat a,v=>ay h μ a v
 | .ref n,v=>∃p,μ.g[n]? =O p∧v= .ref p.1
noncomputable def ai(h:Heap)(μ:Mp):LV→Value→Prop
 | .val a,v=>ay h μ a v
 | .loc n,v=>∃a,μ.s[μ.off+n]? =O a∧v= .ref a
 | .ref n,v=>∃p,μ.g[n]? =O p∧v= .ref p.1
 | .tab a,v=>v= .ref a
structure aH(X:Addr→Prop)(h:Heap)(μ:Mp)(h':Heap)(μ':Mp):Prop where
 g:∃x,μ'.g=μ.g++x
 s:∃x,μ'.s=μ.s++x
 keep:∀b o,h.get? b=O o→¬μ.Mem b→¬X b→h'.get? b=O o
 imm:∀b o vs n,h.get? b=O o→o.data= .seq vs n→¬μ.Mem b→h'.get? b=O o
 alive:∀b o,h.get? b=O o→∃o',h'.get? b=O o'
 new:∀a,μ'.Mem a→μ.Mem a∨h.get? a=U
 off:μ'.off=μ.off
 hid:∀(i:Nat) b o,i<μ.off→μ.s[i]? =O b→h.get? b=O o→h'.get? b=O o
noncomputable def X0(_:Addr):Prop:=False
theorem Mp.mem_mono{μ μ':Mp}(g:∃x,μ'.g=μ.g++x)(s:∃x,μ'.s=μ.s++x){a:Addr}(m:μ.Mem a):μ'.Mem a:=by
 obtain⟨x,hx⟩:=g;obtain⟨y,hy⟩:=s
 rcases m with⟨p,hp,e⟩|m
 ·exact .inl ⟨p,by rw[hx];exact No _ hp,e⟩
 ·exact .inr (by rw[hy];exact No _ m)
theorem aH.refl(X:Addr→Prop)(h:Heap)(μ:Mp):aH X h μ h μ:=⟨⟨[],(Je _).symm⟩,⟨[],(Je _).symm⟩,λ_ _ e _ _=>e,λ_ _ _ _ e _ _=>e,λ_ o e=>⟨o,e⟩,λ_ m=> .inl m,rfl,λ_ _ _ _ _ e=>e⟩
theorem aH.notMem{X:Addr→Prop}{h h':Heap}{μ μ':Mp}(x:aH X h μ h' μ'){a:Addr}{o:Obj}(e:h.get? a=O o)(m:¬μ.Mem a):¬μ'.Mem a:=λm'=>by
 rcases x.new a m' with m'|m'
 ·exact m m'
 ·rw[e] at m';cases m'
theorem aH.sget{X:Addr→Prop}{h h':Heap}{μ μ':Mp}(x:aH X h μ h' μ'){n:Nat}{p:Addr}(e:μ.s[n]? =O p):μ'.s[n]? =O p:=by
 refine aG x.s λy hy=> ?_
 rw[hy,Jz (Ji.mp e).1];exact e
theorem aH.trans{X:Addr→Prop}{h₁ h₂ h₃:Heap}{μ₁ μ₂ μ₃:Mp}(x:aH X h₁ μ₁ h₂ μ₂)(y:aH X h₂ μ₂ h₃ μ₃):aH X h₁ μ₁ h₃ μ₃:=by
 refine⟨?_,?_,λb o e m nx=> ?_,λb o vs n e d m=> ?_,λb o e=> ?_,λa m=> ?_,y.off.trans x.off,λi b o hi e q=>y.hid i b o (by rw[x.off];exact hi) (x.sget e) (x.hid i b o hi e q)⟩
 ·obtain⟨u,hu⟩:=x.g;obtain⟨v,hv⟩:=y.g;exact⟨u++v,by rw[hv,hu,Jy]⟩
 ·obtain⟨u,hu⟩:=x.s;obtain⟨v,hv⟩:=y.s;exact⟨u++v,by rw[hv,hu,Jy]⟩
 ·exact y.keep b o (x.keep b o e m nx) (x.notMem e m) nx
 ·exact y.imm b o vs n (x.imm b o vs n e d m) d (x.notMem e m)
 ·obtain⟨o',e'⟩:=x.alive b o e;exact y.alive b o' e'
 ·rcases y.new a m with m|m
  ·exact x.new a m
  ·refine .inr ?_;cases q:h₁.get? a with
   |none=>rfl
   |some o=>obtain⟨o',e'⟩:=x.alive a o q;rw[m] at e';cases e'
theorem aH.weak{X Y:Addr→Prop}{h h':Heap}{μ μ':Mp}(x:aH X h μ h' μ')(k:∀a,X a→Y a):aH Y h μ h' μ':=
 ⟨x.g,x.s,λb o e m nx=>x.keep b o e m λq=>nx (k b q),x.imm,x.alive,x.new,x.off,x.hid⟩
theorem aH.at0{Y:Addr→Prop}{h h':Heap}{μ μ':Mp}(x:aH X0 h μ h' μ'):aH Y h μ h' μ':=x.weak λ_ q=>q.elim
mutual
theorem ay.to{h h':Heap}{μ μ':Mp}(x:∀b o vs n,h.get? b=O o→o.data= .seq vs n→¬μ.Mem b→h'.get? b=O o∧¬μ'.Mem b):∀{a:AV} {v:Value},ay h μ a v→ay h' μ' a v
 | .none,_,r=>r
 | .bool _,_,r=>r
 | .int _,_,r=>r
 | .str _,_,r=>r
 | .tup l,_,r=>by
  refine kc r λa o vs n e m ho hc hd hl=> ?_
  exact⟨a,o,vs,n,e,(x _ _ _ _ ho hd m).2,(x _ _ _ _ ho hd m).1,hc,hd,ax.to x hl⟩
 | .lst l,_,r=>by
  refine kc r λa o vs n e m ho hc hd hl=> ?_
  exact⟨a,o,vs,n,e,(x _ _ _ _ ho hd m).2,(x _ _ _ _ ho hd m).1,hc,hd,ax.to x hl⟩
theorem ax.to{h h':Heap}{μ μ':Mp}(x:∀b o vs n,h.get? b=O o→o.data= .seq vs n→¬μ.Mem b→h'.get? b=O o∧¬μ'.Mem b):∀{l:List AV} {vs:List Value},ax h μ l vs→ax h' μ' l vs
 |[],_,r=>r
 |a::l,_,r=>by
  refine aX r λv rest e h1 h2=> ?_
  exact⟨v,rest,e,ay.to x h1,ax.to x h2⟩
end
theorem aH.to{X:Addr→Prop}{h h':Heap}{μ μ':Mp}(x:aH X h μ h' μ'):∀b o vs n,h.get? b=O o→o.data= .seq vs n→¬μ.Mem b→h'.get? b=O o∧¬μ'.Mem b:=
 λb o vs n e d m=>⟨x.imm b o vs n e d m,x.notMem e m⟩
theorem ay.step{X:Addr→Prop}{h h':Heap}{μ μ':Mp}(x:aH X h μ h' μ'){a:AV}{v:Value}(r:ay h μ a v):ay h' μ' a v:=r.to x.to
theorem ax.step{X:Addr→Prop}{h h':Heap}{μ μ':Mp}(x:aH X h μ h' μ'){l:List AV}{vs:List Value}(r:ax h μ l vs):ax h' μ' l vs:=r.to x.to
theorem aH.gget{X:Addr→Prop}{h h':Heap}{μ μ':Mp}(x:aH X h μ h' μ'){n:Nat}{p:Addr×Option Addr}(e:μ.g[n]? =O p):μ'.g[n]? =O p:=by
 refine aG x.g λy hy=> ?_
 rw[hy,Jz (Ji.mp e).1];exact e
theorem fv.step{X:Addr→Prop}{h h':Heap}{μ μ':Mp}(x:aH X h μ h' μ'){a:GV}{v:Value}(r:fv h μ a v):fv h' μ' a v:=by
 induction a with
 |dat a=>exact ay.step x r
 |ref n=>obtain⟨a,ha,e⟩:=r;exact⟨a,x.gget ha,e⟩
theorem ai.step{X:Addr→Prop}{h h':Heap}{μ μ':Mp}(x:aH X h μ h' μ'){a:LV}{v:Value}(r:ai h μ a v):ai h' μ' a v:=by
 induction a with
 |val a=>exact ay.step x r
 |loc n=>obtain⟨a,ha,e⟩:=r;exact⟨a,by rw[x.off];exact x.sget ha,e⟩
 |ref n=>obtain⟨a,ha,e⟩:=r;exact⟨a,x.gget ha,e⟩
 |tab a=>exact r
section
variable{h:Heap}{μ:Mp}
theorem ax.length:∀{l:List AV} {vs:List Value},ax h μ l vs→vs.length=l.length
 |[],_,r=>by subst r;rfl
 |_::_,_,r=>by
  refine aX r λv rest oz13 _ h2=> ?_
  subst oz13;simp[ax.length h2]
theorem ax.get:∀{l:List AV} {vs:List Value} {i:Nat} {a:AV},ax h μ l vs→l[i]? =O a→∃v,vs[i]? =O v∧ay h μ a v
 |[],_,_,_,_,e=>by simp at e
 |_::_,_,0,_,r,e=>by
  refine aX r λv rest oz14 h1 _=> ?_
  subst oz14;simp only[JM,JF] at e;subst e;exact⟨v,rfl,h1⟩
 |_::_,_,i+1,_,r,e=>by
  refine aX r λv rest oz15 _ h2=> ?_
  subst oz15;simp only[J1] at e ⊢;exact ax.get h2 e
theorem ax.get':∀{l:List AV} {vs:List Value} {i:Nat} {v:Value},ax h μ l vs→vs[i]? =O v→∃a,l[i]? =O a∧ay h μ a v
 |[],_,_,_,r,e=>by subst r;simp at e
 |a::l,_,0,_,r,e=>by
  refine aX r λv rest oz16 h1 _=> ?_
  subst oz16;simp only[JM,JF] at e;subst e;exact⟨a,rfl,h1⟩
 |_::_,_,i+1,_,r,e=>by
  refine aX r λv rest oz17 _ h2=> ?_
  subst oz17;simp only[J1] at e ⊢;exact ax.get' h2 e
theorem ax.append:∀{l l':List AV} {vs vs':List Value},ax h μ l vs→ax h μ l' vs'→ax h μ (l++l') (vs++vs')
 |[],_,_,_,r,r'=>by subst r;exact r'
 |_::_,_,_,_,r,r'=>by
  refine aX r λv rest oz18 h1 h2=> ?_
  subst oz18;exact⟨v,rest++_,rfl,h1,ax.append h2 r'⟩
theorem ax.nil:ax h μ [] []:=rfl
theorem ax.cons{a:AV}{v:Value}{l:List AV}{vs:List Value}(r:ay h μ a v)(r':ax h μ l vs):ax h μ (a::l) (v::vs):=⟨v,vs,rfl,r,r'⟩
theorem ax.one{a:AV}{v:Value}(r:ay h μ a v):ax h μ [a] [v]:= .cons r .nil
theorem ax.take:∀{l:List AV} {vs:List Value} (n:Nat),ax h μ l vs→ax h μ (l.take n) (vs.take n)
 |l,vs,0,r=>(Je _).symm
 |[],_,n+1,r=>by subst r;exact ax.nil
 |_::_,_,n+1,r=>by
  refine aX r λv rest oz19 h1 h2=> ?_
  subst oz19;exact ax.cons h1 (ax.take n h2)
theorem ax.drop:∀{l:List AV} {vs:List Value} (n:Nat),ax h μ l vs→ax h μ (l.drop n) (vs.drop n)
 |_,_,0,r=>r
 |[],_,n+1,r=>by subst r;exact ax.nil
 |_::_,_,n+1,r=>by
  refine aX r λv rest oz20 h1 h2=> ?_
  subst oz20;exact ax.drop n h2
theorem ax.set:∀{l:List AV} {vs:List Value} {a:AV} {v:Value} (n:Nat),ax h μ l vs→ay h μ a v→ax h μ (l.set n a) (vs.set n v)
 |[],_,_,_,_,r,_=>by subst r;exact ax.nil
 |_::_,_,_,_,0,r,ra=>by
  refine aX r λv rest oz21 h1 h2=> ?_
  subst oz21;exact ax.cons ra h2
 |_::_,_,_,_,n+1,r,ra=>by
  refine aX r λv rest oz22 h1 h2=> ?_
  subst oz22;exact ax.cons h1 (ax.set n h2 ra)
theorem ay.handed{a:AV}{v:Value}(r:ay h μ a v):handedIn v=Z:=by
 cases a<;>simp only[ay] at r
 ·refine aw λMz kz65=> ?_
  subst r;refine kz65 ?_;rfl
 ·refine aw λMz kz66=> ?_
  subst r;refine kz66 ?_;rfl
 ·refine aw λMz kz67=> ?_
  refine aG r λt oz56=> ?_
  subst oz56;refine kz67 ?_;rfl
 ·refine aw λMz kz68=> ?_
  refine aG r λt oz57=> ?_
  subst oz57;refine kz68 ?_;rfl
 ·refine aw λMz kz69=> ?_
  refine xc r λa o vs n oz58 _=> ?_
  subst oz58;refine kz69 ?_;rfl
 ·refine aw λMz kz70=> ?_
  refine xc r λa o vs n oz59 _=> ?_
  subst oz59;refine kz70 ?_;rfl
theorem fv.handed{a:GV}{v:Value}(r:fv h μ a v):handedIn v=Z:=by
 induction a with
 |dat a=>exact ay.handed r
 |ref n=>obtain⟨p,_,rfl⟩:=r;rfl
end
mutual
theorem ay.inj{h:Heap}{μ μ':Mp}:∀{a b:AV} {v:Value},ay h μ a v→ay h μ' b v→a=b
 | .none,b,v,r,q=>by
  simp only[ay] at r;subst r
  cases b<;>simp[ay] at q
  rfl
 | .bool x,b,v,r,q=>by
  simp only[ay] at r;subst r
  cases b<;>simp[ay] at q
  rw[q]
 | .int x,b,v,r,q=>by
  simp only[ay] at r;obtain⟨t,rfl⟩:=r
  cases b<;>simp[ay] at q
  rw[q]
 | .str x,b,v,r,q=>by
  simp only[ay] at r;obtain⟨t,rfl⟩:=r
  cases b<;>simp[ay] at q
  rw[jg q]
 | .tup l,b,v,r,q=>by
  simp only[ay] at r;obtain⟨a,o,vs,n,rfl,_,ho,hc,hd,hl⟩:=r
  cases b<;>simp[ay] at q
  case tup=>
   obtain⟨_,o',ho',hc',vs',⟨n',hd'⟩,hl'⟩:=q;obtain rfl:o=o':=Jt (ho.symm.trans ho');rw[hd] at hd';injection hd' with h1 _
   subst h1;rw[ax.inj hl hl']
  case lst=>
   obtain⟨_,o',ho',hc',_⟩:=q;obtain rfl:o=o':=Jt (ho.symm.trans ho');rw[hc] at hc';simp at hc'
 | .lst l,b,v,r,q=>by
  simp only[ay] at r;obtain⟨a,o,vs,n,rfl,_,ho,hc,hd,hl⟩:=r
  cases b<;>simp[ay] at q
  case lst=>
   obtain⟨_,o',ho',hc',vs',⟨n',hd'⟩,hl'⟩:=q;obtain rfl:o=o':=Jt (ho.symm.trans ho');rw[hd] at hd';injection hd' with h1 _
   subst h1;rw[ax.inj hl hl']
  case tup=>
   obtain⟨_,o',ho',hc',_⟩:=q;obtain rfl:o=o':=Jt (ho.symm.trans ho');rw[hc] at hc';simp at hc'
theorem ax.inj{h:Heap}{μ μ':Mp}:∀{l m:List AV} {vs:List Value},ax h μ l vs→ax h μ' m vs→l=m
 |[],m,_,r,q=>by
  simp only[ax] at r;subst r
  cases m with
  |nil=>rfl
  |cons b m=>obtain⟨_,_,q,_⟩:=q;cases q
 |a::l,m,_,r,q=>by
  simp only[ax] at r;obtain⟨v,rest,rfl,h1,h2⟩:=r
  cases m with
  |nil=>simp only[ax] at q;cases q
  |cons b m=>
   obtain⟨_,_,q,k1,k2⟩:=q;cases q;rw[ay.inj h1 k1,ax.inj h2 k2]
end
inductive RV(h:Heap)(μ:Mp):AV→Value→Prop
 |none:RV h μ .none .none
 |bool (b:Bool):RV h μ (.bool b) (.bool b)
 |int (i:Int) (t:Tok):RV h μ (.int i) (.int i t)
 |str (x:List Nat) (t:Tok):RV h μ (.str x) (.str (b8 x) t)
 |tup (l:List AV) (c:Addr) (vs:Array Value):h.IsTuple c vs→ax h μ l vs.toList→RV h μ (.tup l) (.ref c)
 |lst (l:List AV) (c:Addr) (vs:Array Value):h.IsList c vs→ax h μ l vs.toList→RV h μ (.lst l) (.ref c)
theorem tx{h:Heap}{a:Addr}{o:Obj}{vs:Array Value}{n:Nat}(ho:h.get? a=O o)(hc:o.cls= .type "tuple")(hd:o.data= .seq vs n):h.IsTuple a vs:=⟨o,ho,hc,n,hd⟩
theorem vh{h:Heap}{a:Addr}{o:Obj}{vs:Array Value}{n:Nat}(ho:h.get? a=O o)(hc:o.cls= .type "list")(hd:o.data= .seq vs n):h.IsList a vs:=⟨o,ho,hc,n,hd⟩
theorem ay.view{h:Heap}{μ:Mp}{a:AV}{v:Value}(r:ay h μ a v):RV h μ a v:=by
 cases a with
 |none=>exact J0 (motive:=RV h μ .none) (N5 r) .none
 |bool b=>exact J0 (motive:=RV h μ (.bool b)) (N5 r) (.bool b)
 |int i=>exact aG r λt e=>J0 (motive:=RV h μ (.int i)) (N5 e) (.int i t)
 |str x=>exact aG r λt e=>J0 (motive:=RV h μ (.str x)) (N5 e) (.str x t)
 |tup l=>exact kc r λc o vs n e _ ho hc hd hl=>J0 (motive:=RV h μ (.tup l)) (N5 e) (.tup l c vs (tx ho hc hd) hl)
 |lst l=>exact kc r λc o vs n e _ ho hc hd hl=>J0 (motive:=RV h μ (.lst l)) (N5 e) (.lst l c vs (vh ho hc hd) hl)
end
noncomputable def Gp(l m:List AV)(j:Nat):Bool:=l[j]?.elim Z λx=>m[j]?.elim Z λy=>AV.eqv x y
theorem fI:∀(l m:List AV),AV.eqvL l m=((JE (min l.length m.length)).all (Gp l m)&&l.length==m.length)
 |[],[]=>rfl
 |[],b::m=>by rw[J5,Nat.zero_min];rfl
 |a::l,[]=>by rw[J5,Nat.min_zero];rfl
 |a::l,b::m=>by
  rw[JH,JH,Nat.add_min_add_right,List.range_succ_eq_map,L3,N6,Bool.and_assoc];have e:(l.length+1==m.length+1)=(l.length==m.length):=K7.mpr (by rw[beq_iff_eq,beq_iff_eq,Nat.add_right_cancel_iff]);rw[e];exact congrArg (AV.eqv a b&&·) (fI l m)
theorem uU(x y:List Nat):(x==y)=(b8 x==b8 y):=K7.mpr (by rw[beq_iff_eq,beq_iff_eq];exact⟨congrArg b8,jg⟩)
theorem pu(x y:List Nat):(b8 x==b8 y)=AV.eqv (.str x) (.str y):=(uU x y).symm
section
variable{μ:Mp}{s:Shared}{A:Around}{n:Nat}
noncomputable def D9(μ:Mp)(s:Shared)(A:Around)(n:Nat):Prop:=∀{l m:List AV} {vs us:Array Value},(AV.depL l+1≤n∨AV.depL m+1≤n)→ax s.heap μ l vs.toList→ax s.heap μ m us.toList→
 ∀j (h1:j<vs.size) (h2:j<us.size),EqAt A.in1 s vs[j] us[j] (Gp l m j)
theorem sz{l:List AV}{vs:Array Value}(h:ax s.heap μ l vs.toList):vs.size=l.length:=JR.symm.trans h.length
theorem yJ(E:D9 μ s A n){a b:AV}{v u:Value}(ra:ay s.heap μ a v)(rb:ay s.heap μ b u)(hd:a.dep≤n∨b.dep≤n)(hu:A.units<cLine):RcAt A s v u (AV.eqv a b):=by
 replace ra:=ra.view
 replace rb:=rb.view
 induction ra with
 |none=>induction rb with
  |none=>exact RcAt.none_none
  |bool y=>exact RcAt.none_bool _
  |int y t2=>exact RcAt.none_int _ _
  |str y t2=>exact RcAt.none_str _ _
  |tup m c2 us T2 hm=>exact RcAt.none_tuple T2 hu
  |lst m c2 us T2 hm=>exact RcAt.none_list T2 hu
 |bool x=>induction rb with
  |none=>exact RcAt.bool_none _
  |bool y=>exact RcAt.bool_bool _ _
  |int y t2=>exact RcAt.bool_int _ _ _
  |str y t2=>exact RcAt.bool_str _ _ _
  |tup m c2 us T2 hm=>exact RcAt.bool_tuple _ T2 hu
  |lst m c2 us T2 hm=>exact RcAt.bool_list _ T2 hu
 |int x t=>induction rb with
  |none=>exact RcAt.int_none _ _
  |bool y=>exact RcAt.int_bool _ _ _
  |int y t2=>exact RcAt.int_int _ _ _ _
  |str y t2=>exact RcAt.int_str _ _ _ _
  |tup m c2 us T2 hm=>exact RcAt.int_tuple _ _ T2 hu
  |lst m c2 us T2 hm=>exact RcAt.int_list _ _ T2 hu
 |str x t=>induction rb with
  |none=>exact RcAt.str_none _ _
  |bool y=>exact RcAt.str_bool _ _ _
  |int y t2=>exact RcAt.str_int _ _ _ _
  |str y t2=>exact pu x y▸RcAt.str_str _ _ _ _
  |tup m c2 us T2 hm=>exact RcAt.str_tuple _ _ T2 hu
  |lst m c2 us T2 hm=>exact RcAt.str_list _ _ T2 hu
 |tup l c vs T hl=>induction rb with
  |none=>exact RcAt.tuple_none T hu
  |bool y=>exact RcAt.tuple_bool _ T hu
  |int y t2=>exact RcAt.tuple_int _ _ T hu
  |str y t2=>exact RcAt.tuple_str _ _ T hu
  |tup m c2 us T2 hm=>
   have h:=RcAt.tuples T T2 hu (E hd hl hm);rw[sz hl,sz hm,←fI] at h;exact h
  |lst m c2 us T2 hm=>exact RcAt.tuple_list T T2 hu
 |lst l c vs T hl=>induction rb with
  |none=>exact RcAt.list_none T hu
  |bool y=>exact RcAt.list_bool _ T hu
  |int y t2=>exact RcAt.list_int _ _ T hu
  |str y t2=>exact RcAt.list_str _ _ T hu
  |tup m c2 us T2 hm=>exact RcAt.list_tuple T T2 hu
  |lst m c2 us T2 hm=>
   show RcAt A s _ _ (AV.eqvL l m);rw[fI];by_cases hs:l.length=m.length
   ·have h:=RcAt.lists T T2 (by rw[sz hl,sz hm,hs]) hu (E hd hl hm);rw[sz hl] at h;rw[hs,PH,beq_self_eq_true,MN,←hs];exact h
   ·rw[beq_eq_false_iff_ne.mpr hs,Np];exact RcAt.lists_lengths T T2 (by rw[sz hl,sz hm];exact bne_iff_ne.mpr hs) hu
theorem yF(E:D9 μ s A n){a b:AV}{v u:Value}(ra:ay s.heap μ a v)(rb:ay s.heap μ b u)(hd:a.dep≤n∨b.dep≤n)(hu:A.units<cLine):EqAt A s v u (AV.eqv a b):=by
 have hr:=yJ E ra rb hd hu;have hq:v=u→a=b:=λe=>ay.inj ra (e▸rb)
 replace ra:=ra.view
 replace rb:=rb.view
 clear hd E;induction ra with
 |none=>induction rb with
  |none=>exact Pz _
  |bool y=>exact EqAt.none_bool _
  |int y t2=>exact EqAt.none_int _ _
  |str y t2=>exact EqAt.none_str _ _
  |tup m c2 us T2 hm=>exact EqAt.none_tuple T2 hu
  |lst m c2 us T2 hm=>exact EqAt.none_list T2 hu
 |bool x=>induction rb with
  |none=>exact EqAt.bool_none _
  |bool y=>exact EqAt.bool_bool _ _
  |int y t2=>exact EqAt.bool_int _ _ _
  |str y t2=>exact EqAt.bool_str _ _ _
  |tup m c2 us T2 hm=>exact EqAt.bool_tuple _ T2 hu
  |lst m c2 us T2 hm=>exact EqAt.bool_list _ T2 hu
 |int x t=>induction rb with
  |none=>exact EqAt.int_none _ _
  |bool y=>exact EqAt.int_bool _ _ _
  |int y t2=>exact EqAt.int_int _ _ _ _
  |str y t2=>exact EqAt.int_str _ _ _ _
  |tup m c2 us T2 hm=>exact EqAt.int_tuple _ _ T2 hu
  |lst m c2 us T2 hm=>exact EqAt.int_list _ _ T2 hu
 |str x t=>induction rb with
  |none=>exact EqAt.str_none _ _
  |bool y=>exact EqAt.str_bool _ _ _
  |int y t2=>exact EqAt.str_int _ _ _ _
  |str y t2=>exact pu x y▸EqAt.str_str _ _ _ _
  |tup m c2 us T2 hm=>exact EqAt.str_tuple _ _ T2 hu
  |lst m c2 us T2 hm=>exact EqAt.str_list _ _ T2 hu
 |tup l c vs T hl=>induction rb with
  |none=>exact EqAt.tuple_none T hu
  |bool y=>exact EqAt.tuple_bool _ T hu
  |int y t2=>exact EqAt.tuple_int _ _ T hu
  |str y t2=>exact EqAt.tuple_str _ _ T hu
  |tup m c2 us T2 hm=>
   by_cases e:c=c2
   ·subst e;rw[hq rfl,AV.eqv_self];exact Pz _
   ·exact PI e hr
  |lst m c2 us T2 hm=>exact EqAt.tuple_list T T2 hu
 |lst l c vs T hl=>induction rb with
  |none=>exact EqAt.list_none T hu
  |bool y=>exact EqAt.list_bool _ T hu
  |int y t2=>exact EqAt.list_int _ _ T hu
  |str y t2=>exact EqAt.list_str _ _ T hu
  |tup m c2 us T2 hm=>exact EqAt.list_tuple T T2 hu
  |lst m c2 us T2 hm=>
   by_cases e:c=c2
   ·subst e;rw[hq rfl,AV.eqv_self];exact Pz _
   ·exact PI e hr
theorem CC(E:D9 μ s A n){a b:AV}{v u:Value}(ra:ay s.heap μ a v)(rb:ay s.heap μ b u)(hd:a.dep≤n∨b.dep≤n)(hu:A.units<cLine):RcNeAt A s v u (!AV.eqv a b):=by
 replace ra:=ra.view
 replace rb:=rb.view
 induction ra with
 |none=>induction rb with
  |none=>exact RcNeAt.none_none
  |bool y=>exact RcNeAt.none_bool _
  |int y t2=>exact RcNeAt.none_int _ _
  |str y t2=>exact RcNeAt.none_str _ _
  |tup m c2 us T2 hm=>exact RcNeAt.none_tuple T2 hu
  |lst m c2 us T2 hm=>exact RcNeAt.none_list T2 hu
 |bool x=>induction rb with
  |none=>exact RcNeAt.bool_none _
  |bool y=>exact RcNeAt.bool_bool _ _
  |int y t2=>exact RcNeAt.bool_int _ _ _
  |str y t2=>exact RcNeAt.bool_str _ _ _
  |tup m c2 us T2 hm=>exact RcNeAt.bool_tuple _ T2 hu
  |lst m c2 us T2 hm=>exact RcNeAt.bool_list _ T2 hu
 |int x t=>induction rb with
  |none=>exact RcNeAt.int_none _ _
  |bool y=>exact RcNeAt.int_bool _ _ _
  |int y t2=>exact RcNeAt.int_int _ _ _ _
  |str y t2=>exact RcNeAt.int_str _ _ _ _
  |tup m c2 us T2 hm=>exact RcNeAt.int_tuple _ _ T2 hu
  |lst m c2 us T2 hm=>exact RcNeAt.int_list _ _ T2 hu
 |str x t=>induction rb with
  |none=>exact RcNeAt.str_none _ _
  |bool y=>exact RcNeAt.str_bool _ _ _
  |int y t2=>exact RcNeAt.str_int _ _ _ _
  |str y t2=>exact pu x y▸RcNeAt.str_str _ _ _ _
  |tup m c2 us T2 hm=>exact RcNeAt.str_tuple _ _ T2 hu
  |lst m c2 us T2 hm=>exact RcNeAt.str_list _ _ T2 hu
 |tup l c vs T hl=>induction rb with
  |none=>exact RcNeAt.tuple_none T hu
  |bool y=>exact RcNeAt.tuple_bool _ T hu
  |int y t2=>exact RcNeAt.tuple_int _ _ T hu
  |str y t2=>exact RcNeAt.tuple_str _ _ T hu
  |tup m c2 us T2 hm=>
   have h:=RcNeAt.tuples T T2 hu (E hd hl hm);rw[sz hl,sz hm,←fI] at h;exact h
  |lst m c2 us T2 hm=>exact RcNeAt.tuple_list T T2 hu
 |lst l c vs T hl=>induction rb with
  |none=>exact RcNeAt.list_none T hu
  |bool y=>exact RcNeAt.list_bool _ T hu
  |int y t2=>exact RcNeAt.list_int _ _ T hu
  |str y t2=>exact RcNeAt.list_str _ _ T hu
  |tup m c2 us T2 hm=>exact RcNeAt.list_tuple T T2 hu
  |lst m c2 us T2 hm=>
   show RcNeAt A s _ _ (!AV.eqvL l m);rw[fI];by_cases hs:l.length=m.length
   ·have h:=RcNeAt.lists T T2 (by rw[sz hl,sz hm,hs]) hu (E hd hl hm);rw[sz hl] at h;rw[hs,PH,beq_self_eq_true,MN,←hs];exact h
   ·rw[beq_eq_false_iff_ne.mpr hs,Np];exact RcNeAt.lists_lengths T T2 (by rw[sz hl,sz hm];exact bne_iff_ne.mpr hs) hu
theorem ya(ih:∀{A:Around} {a b:AV} {v u:Value},ay s.heap μ a v→ay s.heap μ b u→(a.dep≤n∨b.dep≤n)→A.units+n<cLine→EqAt A s v u (AV.eqv a b))(hu:A.units+(n+1)<cLine):D9 μ s A (n+1):=by
 intro l m vs us hlm rl rm j h1 h2;refine ak (rl.get' (i:=j) (v:=vs[j]) (by rw[JI];exact MC h1)) λx hx rx=>ak (rm.get' (i:=j) (v:=us[j]) (by rw[JI];exact MC h2)) λy hy ry=> ?_
 have e:Gp l m j=AV.eqv x y:=by unfold Gp;rw[hx,hy];rfl
 rw[e];exact ih rx ry (hlm.imp (λq=>JD (AV.dep_le (Jf hx)) (JJ q)) λq=>JD (AV.dep_le (Jf hy)) (JJ q)) (NQ A.units 1 n▸hu)
theorem qT:D9 μ s A 0:=λh=>h.elim (λq=>(Lg _ q).elim) λq=>(Lg _ q).elim
theorem AR:∀(n:Nat) {A:Around} {a b:AV} {v u:Value},ay s.heap μ a v→ay s.heap μ b u→(a.dep≤n∨b.dep≤n)→A.units+n<cLine→EqAt A s v u (AV.eqv a b)
 |0,_,_,_,_,_,ra,rb,hd,hu=>yF qT ra rb hd hu
 |n+1,_,_,_,_,_,ra,rb,hd,hu=>yF (ya (AR n) hu) ra rb hd (JA (JX _ _) hu)
theorem zw:∀{n:Nat},A.units+n<cLine→D9 μ s A n
 |0,_=>qT
 |n+1,hu=>ya (AR n) hu
section
variable{a b:AV}{v u:Value}(ra:ay s.heap μ a v)(rb:ay s.heap μ b u)(hd:a.dep≤n∨b.dep≤n)(hu:A.units+n<cLine)
include ra rb hd hu
theorem G7:RcAt A s v u (AV.eqv a b):=yJ (zw hu) ra rb hd (JA (JX _ _) hu)
theorem Dd:RcNeAt A s v u (!AV.eqv a b):=CC (zw hu) ra rb hd (JA (JX _ _) hu)
end
end
mutual
noncomputable def fZ(w:World):AV→Int
 | .int i=>hashInt i
 | .str x=>hashStr w (b8 x)
 | .tup l=>reduceHash (JW (fJ w l))
 |_=>0
noncomputable def fJ(w:World):List AV→List Int
 |[]=>[]
 |a::l=>fZ w a::fJ w l
end
mutual
noncomputable def eP:AV→Nat
 | .tup l=>fA l+1
 |_=>1
noncomputable def fA:List AV→Nat
 |[]=>0
 |a::l=>eP a+fA l
end
theorem lq:∀{l:List AV},AV.keyL l=Z→∀a∈l,a.key=Z
 |_::_,h,_,.head _=>((I8 _ _).mp h).1
 |_::_,h,_,.tail _ m=>lq ((I8 _ _).mp h).2 _ m
theorem lD{w:World}{k:AV}:∀d:List AV,fJ w (d++[k])=fJ w d++[fZ w k]
 |[]=>rfl
 |a::d=>congrArg (fZ w a::·) (lD d)
theorem jv{k:AV}:∀d:List AV,fA (d++[k])=fA d+eP k
 |[]=>(Ll _).symm
 |a::d=>(congrArg (eP a+·) (jv d)).trans (L2 _ _ _).symm
section
variable{prog:Program}{w:World}{E:Value→Shared→Prop}{μ:Mp}
noncomputable def Fc(prog:Program)(w:World)(E:Value→Shared→Prop)(μ:Mp)(A:Around)(k:AV):Prop:=∀{s:Shared} {v:Value} {Q:Int→Shared→Prop},ay s.heap μ k v→Q (fZ w k) {s with toks:=s.toks+eP k}→wpAny (model prog w) A (pyHash v) Q E s
inductive HI(w:World)(μ:Mp)(s:Shared)(ks:List AV):List Value→Array Int→Shared→Prop
 |mk (done left:List AV) (rest:List Value) (b:Array Int):ks=done++left→ax s.heap μ left rest→b.toList=fJ w done→HI w μ s ks rest b {s with toks:=s.toks+fA done}
theorem zl{A:Around}{ks:List AV}(hu:A.units<cLine)(ih:∀k∈ks,∀{A':Around},A'.units=A.units+1→Fc prog w E μ A' k):Fc prog w E μ A (.tup ks):=by
 intro s v Q r h;refine kc r λa o items m hv _ ho hc hdt hi=> ?_
 subst hv;have hT:s.TypeIs (.ref a) "tuple":=⟨o,ho,hc⟩;refine Jc (wpAny_cRoomFor_or (.inr hu) ?_);refine Jc (Ly hT LJ.lookup ?_);refine Jc (Ly hT LJ.lookup ?_);refine Jc (wpAny_callSpecialIfBoundUnlessNone?_slot hT LJ (MV LJ hT F.entry_tuple_hash ?_ (F.args_tuple_hash_1 _)));show wpAny _ _ (Mw (.ref a)>>=_) _ _ s;refine Jc (wpAny_tupleItemsOf ho hdt ?_);refine Jc ?_;rw[←NR];refine Ou _ (HI w μ s ks) _ ?_ ?_ _ _ (.mk [] ks _ _ rfl hi rfl)
 ·intro x rest b s' z;generalize hxr:x::rest=xr at z;induction z with
  |mk done left rst b hks hl hb=>
  cases left with
  |nil=>exact nomatch hxr.trans hl
  |cons k left=>
   refine aX hl λx' rest' e h1 hl'=> ?_
   have e:=hxr.trans e;injection e with e1 e2
   subst e1 e2;have bv:HI w μ s ks rest (b.push (fZ w k)) {s with toks:=s.toks+fA done+eP k}:=by
    have e:=HI.mk (s:=s) (ks:=ks) (done++[k]) left rest (b.push (fZ w k)) (by rw[Jy];exact hks) hl' (by rw[ME,hb,lD]);rw[jv,←L2] at e;exact e
   refine Jc (ih k (hks▸List.mem_append_right _ (.head _)) rfl (s:={s with toks:=s.toks+fA done}) h1 ?_)
   first
    |exact Jg bv
    |exact Jc (Jg (Jg bv))
 ·intro b s' z;generalize hxr:([]:List Value)=xr at z;induction z with
  |mk done left rst b hks hl hb=>
  cases left with
  |cons k left=>exact aX hl λx' rest' e _ _=>nomatch hxr.trans e
  |nil=>
   have hks:ks=done:=hks.trans (Je _);subst hks;show wpAny _ _ (retInt (JW b.toList)) _ _ _;rw[hb];refine wpAny_ret_mkInt ?_;have h:Q (if(QQ (-(2:Int)^63≤JW (fJ w ks))&&QQ (JW (fJ w ks)<2^63))=Z then _ else _) {s with toks:=s.toks+fA ks+1}:=h;show wpAny _ _ (if(QQ (-(2:Int)^63≤JW (fJ w ks))&&QQ (JW (fJ w ks)<2^63))=Z then _ else _) Q E _;by_cases hr:(QQ (-(2:Int)^63≤JW (fJ w ks))&&QQ (JW (fJ w ks)<2^63))=Z
   ·rw[if_pos hr] at h ⊢;exact Jg h
   ·rw[if_neg hr] at h ⊢;exact Jc (M8 (Jg h))
theorem qE{A:Around}{i:Int}:Fc prog w E μ A (.int i):=λr h=>aG r λ_ e=>e▸wpAny_pyHash_int h
theorem ri{A:Around}{x:List Nat}:Fc prog w E μ A (.str x):=λr h=>aG r λ_ e=>e▸wpAny_pyHash_str h
theorem CX(n:Nat):∀{A:Around} {k:AV},k.key=Z→k.dep≤n→A.units+n<cLine→Fc prog w E μ A k:=by
 induction n with
 |zero=>
  intro A k hk hd hu;cases k with
  |int i=>exact qE
  |str x=>exact ri
  |tup l=>exact(Lg _ hd).elim
  |_=>exact(Jd hk).elim
 |succ n ih=>
  intro A k hk hd hu;cases k with
  |int i=>exact qE
  |str x=>exact ri
  |tup l=>exact zl (JA (JX _ _) hu) λk hm _ e=>ih (lq hk k hm) (JD (AV.dep_le hm) (JJ hd)) (by rw[e,NQ];exact hu)
  |_=>exact(Jd hk).elim
theorem wZ(n:Nat){A:Around}{s:Shared}{k:AV}{v:Value}{Q:Int→Shared→Prop}(hk:k.key=Z)(hd:k.dep≤n)(hu:A.units+n<cLine)(r:ay s.heap μ k v)(h:Q (fZ w k) {s with toks:=s.toks+eP k}):wpAny (model prog w) A (pyHash v) Q E s:=CX n hk hd hu r h
inductive QI(μ:Mp)(s:Shared)(ks:List AV):List Value→Option Bool×Unit→Shared→Prop
 |mk (rest:List Value) (left:List AV):(∀x∈left,x∈ks)→ax s.heap μ left rest→QI μ s ks rest (U,()) s
noncomputable def Hd(prog:Program)(w:World)(E:Value→Shared→Prop)(μ:Mp)(A:Around)(n:Nat)(k:AV):Prop:=∀{s:Shared} {v:Value} {Q:Bool→Shared→Prop},ay s.heap μ k v→Q Z s→wpAny (model prog w) A (Ov n v) Q E s
theorem vE{A:Around}{n:Nat}{ks:List AV}(ih:∀k∈ks,Hd prog w E μ A n k):Hd prog w E μ A (n+1) (.tup ks):=by
 intro s v Q r h;refine kc r λa o items m hv _ ho hc hdt hi=> ?_
 subst hv;have hT:s.TypeIs (.ref a) "tuple":=⟨o,ho,hc⟩;unfold Ov;refine Jc (Ly hT F.slot_tuple_eq.lookup ?_);refine Jc (wpAny_isInstance hT isSubtype_tuple_tuple ?_);refine Jc (wpAny_seqItems ho hdt ?_);refine Jc ?_;rw[←NR];refine Ou _ (QI μ s ks) _ ?_ ?_ _ _ (.mk _ ks (λ_ h=>h) hi)
 ·intro v rest r s' z;generalize hxr:v::rest=xr at z;induction z with
  |mk left hsub hl=>
  cases left with
  |nil=>exact nomatch hxr.trans hl
  |cons k left=>
   refine aX hl λx' rest' e h1 hl'=> ?_
   have e:=hxr.trans e;injection e with e1 e2
   subst e1 e2;exact Jc (ih k (hsub k (.head _)) h1 (Jg (.mk _ left (λx hx=>hsub x (.tail _ hx)) hl')))
 ·intro r s' z;generalize hxr:([]:List Value)=xr at z;induction z with
  |mk left hsub hl=>exact Jg h
theorem gg{A:Around}{n:Nat}{v:Value}{s:Shared}{Q:Bool→Shared→Prop}(e:carriedByValue v=Z)(h:Q Z s):wpAny (model prog w) A (Ov n v) Q E s:=by
 rw[eqIsQuiet_byValue _ e];exact Jg h
theorem AS{A:Around}(n:Nat):∀{k:AV},k.key=Z→k.dep≤n→Hd prog w E μ A n k:=by
 induction n with
 |zero=>
  intro k hk hd;cases k with
  |int i=>exactλr h=>aG r λ_ e=>gg (e▸rfl) h
  |str x=>exactλr h=>aG r λ_ e=>gg (e▸rfl) h
  |tup l=>exact(Lg _ hd).elim
  |_=>exact(Jd hk).elim
 |succ n ih=>
  intro k hk hd;cases k with
  |int i=>exactλr h=>aG r λ_ e=>gg (e▸rfl) h
  |str x=>exactλr h=>aG r λ_ e=>gg (e▸rfl) h
  |tup l=>exact vE λk hm=>ih (lq hk k hm) (JD (AV.dep_le hm) (JJ hd))
  |_=>exact(Jd hk).elim
theorem AU(n:Nat){A:Around}{s:Shared}{k:AV}{v:Value}{Q:Bool→Shared→Prop}(hk:k.key=Z)(hd:k.dep≤n)(r:ay s.heap μ k v)(h:Q Z s):wpAny (model prog w) A (Ov n v) Q E s:=AS n hk hd r h
end
noncomputable def vZ:Mp:=⟨[],[],0⟩
theorem uz(a:Addr):¬vZ.Mem a:=λh=>by
 rcases h with⟨p,hp,_⟩|h
 ·cases hp
 ·cases h
theorem ay.at0{h:Heap}{μ:Mp}{a:AV}{v:Value}(r:ay h μ a v):ay h vZ a v:=r.to λ_ _ _ _ e _ _=>⟨e,uz _⟩
noncomputable def BY(h:Heap)(k:AV)(a:Addr):Prop:=k.key=Z∧k.dep≤8∧ay h vZ k (.ref a)
noncomputable def eN(prog:Program)(w:World):HeapKind prog w AV where
 is:=BY
 hash:=fZ w
 draws:=eP
 room:=λA=>A.units+16<cLine
 inj:=λhx hy=>ay.inj hx.2.2 hy.2.2
 keeps:=λ{h h' k a d o es ep} x ho hd hs=>⟨x.1,x.2.1,x.2.2.to λb ob vs n e hq _=>⟨(hs.2 b (λq=>by
  subst q;obtain rfl:ob=o:=Jt (e.symm.trans ho);rw[hd] at hq;cases hq)).trans e,uz _⟩⟩
 pyHash:=λhu hk h=>wZ 8 hk.1 hk.2.1 (nu hu) hk.2.2 h
 eqBool:=λhu hx hy h=>AR (μ:=vZ) 8 hx.2.2 hy.2.2 (.inl hx.2.1) (nu hu) _ _ _ _ (by rw[AV.eqv_key hx.1 hy.1];exact h)
 quiet:=λhk h=>AU 8 hk.1 hk.2.1 hk.2.2 h
section
noncomputable def KV{K:Type}(h:Heap)(μ:Mp)(P:AV→K→Prop):List (AV×AV)→List (K×Value)→Prop
 |[],kvs=>kvs=[]
 |(k,v)::es,kvs=>∃i u r,kvs=(i,u)::r∧P k i∧ay h μ v u∧KV h μ P es r
noncomputable def pw(h:Heap)(μ:Mp):List (AV×AV)→List (AV×Addr×Value)→Prop
 |[],kvs=>kvs=[]
 |(k,v)::es,kvs=>∃a u r,kvs=(k,a,u)::r∧ay h μ k (.ref a)∧ay h μ v u∧pw h μ es r
noncomputable def v6(k:AV)(i:Int):Prop:=k= .int i
noncomputable def vq(k:AV)(x:Str):Prop:=∃y,k= .str y∧x=b8 y
noncomputable def dH(p:Program)(w:World)(h:Heap)(μ:Mp):CO→Addr→Prop
 | .list l,a=>∃vs n,h.get? a=O (listOf vs n)∧ax h μ l vs.toList
 | .dict .int es,a=>∃kvs ep,h.DictAt (LK p w) a kvs ep∧KV h μ v6 es kvs
 | .dict .str es,a=>∃kvs ep,h.DictAt (strKind p w) a kvs ep∧KV h μ vq es kvs
 | .dict .tup es,a=>∃xs,h.DictOfH (eN p w) a xs∧pw h μ es xs
set_option genInjectivity false in
structure Wd where
 prog:Program
 w:World
 K:Frag
 B:Heap
 an:Nat→Str
 ca:Nat→Addr
 mg:Str→Option Value
 mb:Str→Option Value
 XB:K.In B
 lim:B.NoLimit
 gl:B.Ns JY mg
 bi:B.Ns LW mb
 bt:∀x:Str,x≠"__name__"→mb x=LL x
 sm:∃o,B.get? LB=O o
 tb:Nat→Option (KD×List (AV×AV))
 tbok:∀a k es,tb a=O (k,es)→dH prog w B vZ (.dict k es) a∧(a==LB)=N
noncomputable def eu(W:Wd)(h:Heap)(μ:Mp):List (Nat×GV)→List Lm→Prop
 |[],es=>es=[]
 |(i,v)::fs,es=>∃e r t,es=e::r∧e.key= .str (W.an i) t∧fv h μ v e.val∧eu W h μ fs r
noncomputable def cq(h:Heap)(μ:Mp):List GV→List Value→Prop
 |[],vs=>vs=[]
 |a::l,vs=>∃v r,vs=v::r∧fv h μ a v∧cq h μ l r
noncomputable def jE(W:Wd)(h:Heap)(μ:Mp):GO→Addr×Option Addr→Prop
 | .inst c fs,p=>∃dx es n,p.2=O dx∧h.get? p.1=O (MF (W.ca c) dx)∧h.get? dx=O (NS es n)∧eu W h μ fs es
 | .con o,p=>p.2=U∧dH W.prog W.w h μ o p.1
 | .rlist l,p=>p.2=U∧∃vs n,h.get? p.1=O (listOf vs n)∧cq h μ l vs.toList
noncomputable def Mp.all(μ:Mp):List Addr:=μ.g.flatMap (λp=>p.1::p.2.toList)++μ.s
theorem Mp.mem_all{μ:Mp}{a:Addr}:μ.Mem a↔a∈μ.all:=by
 delta Mp.Mem Mp.all;simp only[Ju,KW,Jh,N7]
structure au(W:Wd)(h:Heap)(μ:Mp)(st:St):Prop where
 lg:μ.g.length=st.G.length
 ls:μ.s.length=μ.off+st.S.length
 og:∀(n:Nat) o p,st.G[n]? =O o→μ.g[n]? =O p→jE W h μ o p
 os:∀(n:Nat) o a,st.S[n]? =O o→μ.s[μ.off+n]? =O a→dH W.prog W.w h μ o a
 nd:μ.all.Nodup
 base:∀b o,W.B.get? b=O o→h.get? b=O o
 fresh:∀a,μ.Mem a→W.B.get? a=U∧∃o,h.get? a=O o
structure cD(h h':Heap)(μ μ':Mp):Prop where
 imm:∀b o vs n,h.get? b=O o→o.data= .seq vs n→¬μ.Mem b→h'.get? b=O o∧¬μ'.Mem b
 g:∃x,μ'.g=μ.g++x
section
variable{W:Wd}{h h':Heap}{μ μ':Mp}
theorem cD.of_stp{X:Addr→Prop}(x:aH X h μ h' μ'):cD h h' μ μ':=⟨x.to,x.g⟩
theorem fv.kept{a:GV}{v:Value}(x:cD h h' μ μ')(r:fv h μ a v):fv h' μ' a v:=by
 induction a with
 |dat a=>exact ay.to x.imm r
 |ref n=>
  refine ak r λa ha e=> ?_
  refine aG x.g λy hy=> ?_
  exact⟨a,by rw[hy,Jz (Ji.mp ha).1];exact ha,e⟩
theorem KV.kept{K:Type}{P:AV→K→Prop}(x:cD h h' μ μ'):∀{es:List (AV×AV)} {kvs:List (K×Value)},KV h μ P es kvs→KV h' μ' P es kvs
 |[],_,r=>r
 |(_,_)::_,_,⟨i,u,r,e,p,q,t⟩=>⟨i,u,r,e,p,ay.to x.imm q,KV.kept x t⟩
theorem pw.kept(x:cD h h' μ μ'):∀{es:List (AV×AV)} {xs:List (AV×Addr×Value)},pw h μ es xs→pw h' μ' es xs
 |[],_,r=>r
 |(_,_)::_,_,⟨a,u,r,e,p,q,t⟩=>⟨a,u,r,e,ay.to x.imm p,ay.to x.imm q,pw.kept x t⟩
theorem pw.is:∀{es:List (AV×AV)} {xs:List (AV×Addr×Value)},pw h μ es xs→∀y∈xs,ay h μ y.1 (.ref y.2.1)
 |[],_,r,y,hy=>by subst r;cases hy
 |(_,_)::_,_,⟨a,u,r,e,p,q,t⟩,y,hy=>by
  subst e;rcases Jh.mp hy with rfl|hy
  ·exact p
  ·exact pw.is t y hy
theorem eu.kept(x:cD h h' μ μ'):∀{fs:List (Nat×GV)} {es:List Lm},eu W h μ fs es→eu W h' μ' fs es
 |[],_,r=>r
 |(_,_)::_,_,⟨e,r,t,q,p,v,rr⟩=>⟨e,r,t,q,p,v.kept x,eu.kept x rr⟩
theorem cq.kept(x:cD h h' μ μ'):∀{l:List GV} {vs:List Value},cq h μ l vs→cq h' μ' l vs
 |[],_,r=>r
 |_::_,_,⟨v,r,e,q,t⟩=>⟨v,r,e,q.kept x,cq.kept x t⟩
theorem dH.kept{o:CO}{a:Addr}(x:cD h h' μ μ')(k:∀ob,h.get? a=O ob→h'.get? a=O ob)(r:dH W.prog W.w h μ o a):dH W.prog W.w h' μ' o a:=by
 rcases o with l|⟨kd,es⟩
 ·refine b9 r λvs n e q=> ?_
  exact⟨vs,n,k _ e,ax.to x.imm q⟩
 ·induction kd with
  |int=>
   refine b9 r λkvs ep oz138 q=> ?_
   refine b9 oz138 λob es' ho rest=> ?_
   exact⟨kvs,ep,⟨ob,es',k _ ho,rest⟩,q.kept x⟩
  |str=>
   refine b9 r λkvs ep oz139 q=> ?_
   refine b9 oz139 λob es' ho rest=> ?_
   exact⟨kvs,ep,⟨ob,es',k _ ho,rest⟩,q.kept x⟩
  |tup=>
   refine ak r λxs oz140 q=> ?_
   refine E5 oz140 λob es' ep ho h1 h2 h3 h4 h5=> ?_
   refine⟨xs,⟨ob,es',ep,k _ ho,h1,h2,h3,λy hy=> ?_,h5⟩,q.kept x⟩;exact⟨(h4 y hy).1,(h4 y hy).2.1,((q.kept x).is y hy).at0⟩
theorem jE.kept{o:GO}{p:Addr×Option Addr}(x:cD h h' μ μ')(k1:∀ob,h.get? p.1=O ob→h'.get? p.1=O ob)(k2:∀dx,p.2=O dx→∀ob,h.get? dx=O ob→h'.get? dx=O ob)(r:jE W h μ o p):jE W h' μ' o p:=by
 induction o with
 |inst c fs=>
  refine vj r λdx es n e h1 h2 h3=> ?_
  exact⟨dx,es,n,e,k1 _ h1,k2 _ e _ h2,h3.kept x⟩
 |con o=>exact⟨r.1,r.2.kept x k1⟩
 |rlist l=>
  obtain⟨e,vs,n,h1,h2⟩:=r;exact⟨e,vs,n,k1 _ h1,h2.kept x⟩
theorem dH.alive{o:CO}{a:Addr}(r:dH W.prog W.w h μ o a):∃ob,h.get? a=O ob:=by
 refine aw λMz kz125=> ?_
 rcases o with l|⟨kd,es⟩
 ·refine b9 r λvs n e q=> ?_
  refine kz125 ?_;exact⟨_,e⟩
 ·refine kz125 ?_;induction kd with
  |int=>obtain⟨kvs,ep,⟨ob,es',ho,rest⟩,q⟩:=r;exact⟨_,ho⟩
  |str=>obtain⟨kvs,ep,⟨ob,es',ho,rest⟩,q⟩:=r;exact⟨_,ho⟩
  |tup=>obtain⟨xs,⟨ob,es',ep,ho,_⟩,q⟩:=r;exact⟨_,ho⟩
theorem jE.alive{o:GO}{p:Addr×Option Addr}(r:jE W h μ o p):∀a,a=p.1∨p.2=O a→∃ob,h.get? a=O ob:=by
 intro a ha;induction o with
 |inst c fs=>
  refine vj r λdx es n e h1 h2 h3=> ?_
  rcases ha with rfl|ha
  ·exact⟨_,h1⟩
  ·rw[e] at ha;cases ha;exact⟨_,h2⟩
 |con o=>
  rcases ha with rfl|ha
  ·exact r.2.alive
  ·rw[r.1] at ha;cases ha
 |rlist l=>
  obtain⟨e,vs,n,h1,h2⟩:=r;rcases ha with rfl|ha
  ·exact⟨_,h1⟩
  ·rw[e] at ha;cases ha
variable{st:St}
theorem au.more(I:au W h μ st)(k:∀b o,h.get? b=O o→h'.get? b=O o):au W h' μ st:=by
 have K:cD h h' μ μ:=⟨λb o _ _ e _ m=>⟨k _ _ e,m⟩,⟨[],(Je _).symm⟩⟩;exact⟨I.lg,I.ls,λn o p e1 e2=>(I.og n o p e1 e2).kept K (λ_ e=>k _ _ e) (λ_ _ _ e=>k _ _ e),λn o a e1 e2=>(I.os n o a e1 e2).kept K (λ_ e=>k _ _ e),I.nd,
  λb o e=>k _ _ (I.base b o e),λa m=>⟨(I.fresh a m).1,let⟨o,e⟩:=(I.fresh a m).2;⟨o,k _ _ e⟩⟩⟩
theorem aH.more{X:Addr→Prop}(k:∀b o,h.get? b=O o→h'.get? b=O o):aH X h μ h' μ:=
 ⟨⟨[],(Je _).symm⟩,⟨[],(Je _).symm⟩,λb o e _ _=>k b o e,λb o _ _ e _ _=>k b o e,λb o e=>⟨o,k b o e⟩,λ_ m=> .inl m,rfl,λ_ b o _ _ e=>k b o e⟩
theorem au.smem(_I:au W h μ st){n:Nat}{a:Addr}(e:μ.s[n]? =O a):μ.Mem a:= .inr (Jf e)
theorem au.gmem(_I:au W h μ st){n:Nat}{p:Addr×Option Addr}(e:μ.g[n]? =O p):μ.Mem p.1:= .inl ⟨p,Jf e,.inl rfl⟩
theorem au.gmem2(_I:au W h μ st){n:Nat}{p:Addr×Option Addr}{dx:Addr}(e:μ.g[n]? =O p)(e2:p.2=O dx):μ.Mem dx:= .inl ⟨p,Jf e,.inr e2⟩
theorem rM{α:Type}{l:List (List α)}(hn:l.flatten.Nodup){x:List α}(hx:x∈l):x.Nodup:=by
 induction l with
 |nil=>cases hx
 |cons c l ih=>
  rw[N8,Kb] at hn;rcases Jh.mp hx with rfl|hx
  ·exact hn.1
  ·exact ih hn.2.1 hx
theorem sC{α:Type}{l:List (List α)}(hn:l.flatten.Nodup):∀{i j:Nat} {x y:List α} {a:α},l[i]? =O x→l[j]? =O y→a∈x→a∈y→i=j:=by
 induction l with
 |nil=>intro i j x y a e;simp at e
 |cons c l ih=>
  rw[N8,Kb] at hn;obtain⟨_,n2,n3⟩:=hn;intro i j x y a e1 e2 m1 m2;cases i with
  |zero=>
   induction j with
   |zero=>rfl
   |succ j=>
    simp only[JM,JF,J1] at e1 e2;subst e1;exact absurd rfl (n3 a m1 a (Ow.mpr ⟨y,Jf e2,m2⟩))
  |succ i=>
   induction j with
   |zero=>
    simp only[JM,JF,J1] at e1 e2;subst e2;exact absurd rfl (n3 a m2 a (Ow.mpr ⟨x,Jf e1,m1⟩))
   |succ j=>
    rw[ih n2 e1 e2 m1 m2]
theorem au.s_ne(I:au W h μ st){n m:Nat}{a b:Addr}(e1:μ.s[n]? =O a)(e2:μ.s[m]? =O b)(ne:n≠m):a≠b:=λq=>by
 subst q;have:=(Kb.mp I.nd).2.1;exact ne ((Lc (Ji.mp e1).1 this).mp (e1.trans e2.symm))
theorem au.sg_ne(I:au W h μ st){n m:Nat}{a b:Addr}{p:Addr×Option Addr}(e1:μ.s[n]? =O a)(e2:μ.g[m]? =O p)(mb:b=p.1∨p.2=O b):a≠b:=λq=>by
 subst q;have:=(Kb.mp I.nd).2.2;refine this a (KW.mpr ⟨p,Jf e2,?_⟩) a (Jf e1) rfl;rcases mb with rfl|e
 ·exact .head _
 ·exact .tail _ (by rw[e];exact .head _)
theorem au.g_ne(I:au W h μ st){n m:Nat}{a b:Addr}{p q:Addr×Option Addr}(e1:μ.g[n]? =O p)(ma:a=p.1∨p.2=O a)(e2:μ.g[m]? =O q)(mb:b=q.1∨q.2=O b)(ne:n≠m):a≠b:=λz=>by
 subst z;have hn:=(Kb.mp I.nd).1;refine ne (sC hn (i:=n) (j:=m) (x:=p.1::p.2.toList) (y:=q.1::q.2.toList) (a:=a) (by rw[JK,e1];rfl) (by rw[JK,e2];rfl) ?_ ?_)
 ·rcases ma with rfl|e
  ·exact .head _
  ·exact .tail _ (by rw[e];exact .head _)
 ·rcases mb with rfl|e
  ·exact .head _
  ·exact .tail _ (by rw[e];exact .head _)
theorem au.g_ne2(I:au W h μ st){n:Nat}{p:Addr×Option Addr}{dx:Addr}(e1:μ.g[n]? =O p)(e2:p.2=O dx):p.1≠dx:=λz=>by
 have hn:=(Kb.mp I.nd).1;have:(p.1::p.2.toList).Nodup:=rM hn (Jv.mpr ⟨p,Jf e1,rfl⟩);rw[e2,←z] at this;simp at this
theorem au.setS(I:au W h μ st){n:Nat}{a:Addr}{o':CO}(ea:μ.s[μ.off+n]? =O a)(hs:K0 a h h')(r:dH W.prog W.w h' μ o' a):au W h' μ {st with S:=st.S.set n o'}:=by
 have ma:=I.smem ea;have al:∀b,(∃o,h.get? b=O o)→∃o,h'.get? b=O o:=λb ⟨o,e⟩=>by
  by_cases q:b=a
  ·subst q;exact r.alive
  ·exact⟨o,(hs.2 b q).trans e⟩
 have K:cD h h' μ μ:=⟨λb o _ _ e _ m=>⟨(hs.2 b λq=>m (q▸ma)).trans e,m⟩,⟨[],(Je _).symm⟩⟩;refine⟨I.lg,by rw[I.ls];simp,λm o p e1 e2=> ?_,λm o b e1 e2=> ?_,I.nd,λb o e=> ?_,λb m=>⟨(I.fresh b m).1,al b (I.fresh b m).2⟩⟩
 ·exact(I.og m o p e1 e2).kept K (λob e=>(hs.2 _ (LM (I.sg_ne ea e2 (.inl rfl)))).trans e) (λdx ed ob e=>(hs.2 _ (LM (I.sg_ne ea e2 (.inr ed)))).trans e)
 ·by_cases hm:m=n
  ·subst hm;obtain rfl:a=b:=Jt (ea.symm.trans e2);have hl:m<st.S.length:=by have:=(Ji.mp ea).1;rw[I.ls] at this;omega
   rw[Kc hl,JF] at e1;subst e1;exact r
  ·rw[Lh (LM hm)] at e1;exact(I.os m o b e1 e2).kept K λob e=>(hs.2 _ (I.s_ne e2 ea (by lia))).trans e
 ·refine(hs.2 b λq=> ?_).trans (I.base b o e);subst q;rw[(I.fresh _ ma).1] at e;cases e
theorem aH.setS{X:Addr→Prop}(I:au W h μ st){n:Nat}{a:Addr}(ea:μ.s[μ.off+n]? =O a)(hs:K0 a h h')(hal:∃o,h'.get? a=O o):aH X h μ h' μ:=
 ⟨⟨[],(Je _).symm⟩,⟨[],(Je _).symm⟩,λb o e m _=>(hs.2 b λq=>m (q▸I.smem ea)).trans e,λb o _ _ e _ m=>(hs.2 b λq=>m (q▸I.smem ea)).trans e,λb o e=>if q:b=a then q▸hal else⟨o,(hs.2 b q).trans e⟩,λ_ m=> .inl m,rfl,λi b o hi e q=>(hs.2 b (I.s_ne e ea (by lia))).trans q⟩
theorem au.setG(I:au W h μ st){n:Nat}{p:Addr×Option Addr}{a:Addr}{o':GO}(ep:μ.g[n]? =O p)(hap:a=p.1∨p.2=O a)(hs:K0 a h h')(r:jE W h' μ o' p):au W h' μ {st with G:=st.G.set n o'}:=by
 have ma:μ.Mem a:= .inl ⟨p,Jf ep,hap⟩;have al:∀b,(∃o,h.get? b=O o)→∃o,h'.get? b=O o:=λb ⟨o,e⟩=>by
  by_cases q:b=a
  ·subst q;exact r.alive b hap
  ·exact⟨o,(hs.2 b q).trans e⟩
 have K:cD h h' μ μ:=⟨λb o _ _ e _ m=>⟨(hs.2 b λq=>m (q▸ma)).trans e,m⟩,⟨[],(Je _).symm⟩⟩;refine⟨by rw[I.lg];simp,I.ls,λm o q e1 e2=> ?_,λm o b e1 e2=> ?_,I.nd,λb o e=> ?_,λb m=>⟨(I.fresh b m).1,al b (I.fresh b m).2⟩⟩
 ·by_cases hm:m=n
  ·subst hm;obtain rfl:p=q:=Jt (ep.symm.trans e2);have hl:m<st.G.length:=by rw[←I.lg];exact(Ji.mp ep).1
   rw[Kc hl,JF] at e1;subst e1;exact r
  ·rw[Lh (LM hm)] at e1;exact(I.og m o q e1 e2).kept K (λob e=>(hs.2 _ (I.g_ne e2 (.inl rfl) ep hap hm)).trans e) (λdx ed ob e=>(hs.2 _ (I.g_ne e2 (.inr ed) ep hap hm)).trans e)
 ·exact(I.os m o b e1 e2).kept K λob e=>(hs.2 _ (I.sg_ne e2 ep hap)).trans e
 ·refine(hs.2 b λq=> ?_).trans (I.base b o e);subst q;rw[(I.fresh _ ma).1] at e;cases e
theorem aH.setG{X:Addr→Prop}(I:au W h μ st){n:Nat}{p:Addr×Option Addr}{a:Addr}(ep:μ.g[n]? =O p)(hap:a=p.1∨p.2=O a)(hs:K0 a h h')(hal:∃o,h'.get? a=O o):aH X h μ h' μ:=
 ⟨⟨[],(Je _).symm⟩,⟨[],(Je _).symm⟩,λb o e m _=>(hs.2 b λq=>m (q▸.inl ⟨p,Jf ep,hap⟩)).trans e,λb o _ _ e _ m=>(hs.2 b λq=>m (q▸.inl ⟨p,Jf ep,hap⟩)).trans e,λb o e=>if q:b=a then q▸hal else⟨o,(hs.2 b q).trans e⟩,λ_ m=> .inl m,rfl,λi b o hi e q=>(hs.2 b (I.sg_ne e ep hap)).trans q⟩
theorem au.addS{X:Addr→Prop}(I:au W h μ st){a:Addr}{o:CO}(k:∀b o,h.get? b=O o→h'.get? b=O o)(ha:h.get? a=U)
  (r:dH W.prog W.w h' ⟨μ.g,μ.s++[a],μ.off⟩ o a):au W h' ⟨μ.g,μ.s++[a],μ.off⟩ {st with S:=st.S++[o]}∧aH X h μ h' ⟨μ.g,μ.s++[a],μ.off⟩:=by
 have S:aH X h μ h' ⟨μ.g,μ.s++[a],μ.off⟩:=⟨⟨[],(Je _).symm⟩,⟨[a],rfl⟩,λb o e _ _=>k b o e,λb o _ _ e _ _=>k b o e,λb o e=>⟨o,k b o e⟩,(λb m=>by
  rcases m with m|m
  ·exact .inl (.inl m)
  ·rcases Ju.mp m with m|m
   ·exact .inl (.inr m)
   ·rw[Ja.mp m];exact .inr ha),rfl,λ_ b o _ _ e=>k b o e⟩
 have K:=cD.of_stp S;refine⟨⟨I.lg,by simp[I.ls,L2],λn o p e1 e2=>(I.og n o p e1 e2).kept K (λ_ e=>k _ _ e) (λ_ _ _ e=>k _ _ e),λn o' b e1 e2=> ?_,?_,λb o e=>k _ _ (I.base b o e),λb m=> ?_⟩,S⟩
 ·simp only at e1 e2;by_cases hn:n<st.S.length
  ·rw[Jz hn] at e1;rw[Jz (by rw[I.ls];exact J8 hn _)] at e2;exact(I.os n o' b e1 e2).kept K λ_ e=>k _ _ e
  ·rw[Jx (KH (by assumption))] at e1;rw[Jx (by rw[I.ls];omega)] at e2;have:n - st.S.length=0:=by have:=(Ji.mp e1).1;simp at this;exact this
   have this2:μ.off+n - (μ.off+st.S.length)=0:=by lia
   rw[I.ls,this2] at e2;rw[this] at e1;simp only[JM,JF] at e1 e2;subst e1 e2;exact r
 ·show(μ.g.flatMap (λp=>p.1::p.2.toList)++(μ.s++[a])).Nodup;rw[←Jy];refine Kb.mpr ⟨I.nd,by simp,λb hb c hc e=> ?_⟩;rw[Ja] at hc;subst e hc;refine aG ((I.fresh _ (Mp.mem_all.mpr hb)).2) λo e=> ?_
  rw[ha] at e;cases e
 ·have old:∀b,μ.Mem b→W.B.get? b=U∧∃o,h'.get? b=O o:=λb m=>⟨(I.fresh b m).1,let⟨o,e⟩:=(I.fresh b m).2;⟨o,k _ _ e⟩⟩
  rcases m with m|m
  ·exact old b (.inl m)
  ·rcases Ju.mp m with m|m
   ·exact old b (.inr m)
   ·rw[Ja.mp m];refine⟨?_,r.alive⟩;cases q:W.B.get? a with
    |none=>rfl
    |some o=>rw[I.base _ _ q] at ha;cases ha
theorem au.addG{X:Addr→Prop}(I:au W h μ st){p:Addr×Option Addr}{o:GO}(k:∀b o,h.get? b=O o→h'.get? b=O o)(hp:∀a,a=p.1∨p.2=O a→h.get? a=U)(hne:p.2≠O p.1)
  (r:jE W h' ⟨μ.g++[p],μ.s,μ.off⟩ o p):au W h' ⟨μ.g++[p],μ.s,μ.off⟩ {st with G:=st.G++[o]}∧aH X h μ h' ⟨μ.g++[p],μ.s,μ.off⟩:=by
 have S:aH X h μ h' ⟨μ.g++[p],μ.s,μ.off⟩:=⟨⟨[p],rfl⟩,⟨[],(Je _).symm⟩,λb o e _ _=>k b o e,λb o _ _ e _ _=>k b o e,λb o e=>⟨o,k b o e⟩,(λb m=>by
  rcases m with⟨q,hq,m⟩|m
  ·rcases Ju.mp hq with hq|hq
   ·exact .inl (.inl ⟨q,hq,m⟩)
   ·rw[Ja.mp hq] at m;exact .inr (hp b m)
  ·exact .inl (.inr m)),rfl,λ_ b o _ _ e=>k b o e⟩
 have K:=cD.of_stp S;refine⟨⟨by simp[I.lg],I.ls,λn o' q e1 e2=> ?_,λn o a e1 e2=>(I.os n o a e1 e2).kept K (λ_ e=>k _ _ e),?_,λb o e=>k _ _ (I.base b o e),λb m=> ?_⟩,S⟩
 ·simp only at e1 e2;by_cases hn:n<st.G.length
  ·rw[Jz hn] at e1;rw[Jz (by rw[I.lg];exact hn)] at e2;exact(I.og n o' q e1 e2).kept K (λ_ e=>k _ _ e) (λ_ _ _ e=>k _ _ e)
  ·rw[Jx (KH (by assumption))] at e1;rw[Jx (by rw[I.lg];exact M9.mp hn)] at e2;have:n - st.G.length=0:=by have:=(Ji.mp e1).1;simp at this;exact this
   rw[I.lg] at e2;rw[this] at e1 e2;simp only[JM,JF] at e1 e2;subst e1 e2;exact r
 ·show((μ.g++[p]).flatMap (λp=>p.1::p.2.toList)++μ.s).Nodup;have hperm:((μ.g++[p]).flatMap (λp=>p.1::p.2.toList)++μ.s).Perm (μ.all++(p.1::p.2.toList)):=by
   rw[List.flatMap_append];simp only[Kq,Ox,Je,Mp.all,Jy];exact P0 _ (List.perm_append_comm)
  refine hperm.nodup_iff.mpr (Kb.mpr ⟨I.nd,?_,λb hb c hc e=> ?_⟩)
  ·cases e:p.2 with
   |none=>simp
   |some d=>rw[e] at hne;simpa using λq=>hne (by rw[q])
  ·subst e;have:b=p.1∨p.2=O b:=by
    rcases Jh.mp hc with rfl|hc
    ·exact .inl rfl
    ·exact .inr (N7.mp hc)
   obtain⟨o,e⟩:=(I.fresh _ (Mp.mem_all.mpr hb)).2;rw[hp b this] at e;cases e
 ·have old:∀b,μ.Mem b→W.B.get? b=U∧∃o,h'.get? b=O o:=λb m=>⟨(I.fresh b m).1,let⟨o,e⟩:=(I.fresh b m).2;⟨o,k _ _ e⟩⟩
  rcases m with⟨q,hq,m⟩|m
  ·rcases Ju.mp hq with hq|hq
   ·exact old b (.inl ⟨q,hq,m⟩)
   ·rw[Ja.mp hq] at m;refine⟨?_,r.alive b m⟩;cases q:W.B.get? b with
    |none=>rfl
    |some o=>have:=hp b m;rw[I.base _ _ q] at this;cases this
  ·exact old b (.inr m)
theorem au.cut(I:au W h μ st)(n:Nat):au W h ⟨μ.g,μ.s.take (μ.off+n),μ.off⟩ {st with S:=st.S.take n}:=by
 have sub:∀a,(⟨μ.g,μ.s.take (μ.off+n),μ.off⟩:Mp).Mem a→μ.Mem a:=λa m=>by
  rcases m with m|m
  ·exact .inl m
  ·exact .inr (Nq m)
 have K:cD h h μ ⟨μ.g,μ.s.take (μ.off+n),μ.off⟩:=⟨λb o _ _ e _ m=>⟨e,λq=>m (sub b q)⟩,⟨[],(Je _).symm⟩⟩;refine⟨I.lg,by simp only[Kv,I.ls];omega,λm o p e1 e2=>(I.og m o p e1 e2).kept K (λ_ e=>e) (λ_ _ _ e=>e),λm o a e1 e2=> ?_,?_,I.base,λa m=>I.fresh a (sub a m)⟩
 ·simp only[List.getElem?_take] at e1 e2;split at e1
  ·rename_i hm;rw[if_pos (by exact J8 hm _)] at e2;exact(I.os m o a e1 e2).kept K λ_ e=>e
  ·contradiction
 ·refine Ql ?_ I.nd;exact(Qy _).append (N9 _ _)
end
end
noncomputable def Tr(W:Wd)(A:Around){α:Type}(t:Sem α)(X:Addr→Prop)(s:Shared)(μ:Mp)(P:α→Heap→Mp→Prop):Prop:=
 ∀(Q:α→Shared→Prop) (E:Value→Shared→Prop),(∀a h' tk' μ',aH X s.heap μ h' μ'→P a h' μ'→Q a {s with heap:=h',toks:=tk'})→wpAny (model W.prog W.w) A t Q E s
section
variable{W:Wd}{A:Around}{α β:Type}{X Y:Addr→Prop}{s:Shared}{μ:Mp}
theorem Tr.mono{t:Sem α}{P P':α→Heap→Mp→Prop}(h:Tr W A t X s μ P)(k:∀a h' μ',aH X s.heap μ h' μ'→P a h' μ'→P' a h' μ'):Tr W A t X s μ P':=
 λQ E q=>h Q E λa h' tk' μ' S p=>q a h' tk' μ' S (k a h' μ' S p)
theorem Tr.now{t:Sem α}{a:α}{P:α→Heap→Mp→Prop}(h:∀(Q:α→Shared→Prop) (E:Value→Shared→Prop),(∀tk,Q a {s with toks:=tk})→wpAny (model W.prog W.w) A t Q E s)(p:P a s.heap μ):Tr W A t X s μ P:=
 λQ E q=>h Q E λtk=>q a s.heap tk μ (aH.refl X s.heap μ) p
end
structure am(W:Wd)(env:Env)(nm:List Str)(ρ:List (Option LV))(h:Heap)(μ:Mp):Prop where
 kind:env.scope.kind= .function
 glo:env.globals=JY
 bui:env.builtins=LW
 ns:∃m,h.Ns env.locals m∧∀(i:Nat) (x:Str) (lv:LV),nm[i]? =O x→ρ[i]? =O (O lv)→∃v,ai h μ lv v∧
  ((env.kindOf x=O .local∧m x=O v)∨((env.kindOf x=O .cell∨env.kindOf x=O .free)∧∃c,env.cells.lookup x=O c∧h.IsCell c (O v)))
 plain:∀x∈nm,(x==("__debug__":Str))=N∧(x==("__classdict__":Str))=N
 nd:nm.Nodup
 loc:¬μ.Mem env.locals∧W.B.get? env.locals=U
 cel:∀x c,env.cells.lookup x=O c→¬μ.Mem c∧W.B.get? c=U∧∃v,h.IsCell c v
 inj:∀x y c,env.cells.lookup x=O c→env.cells.lookup y=O c→x=y
 cok:∀x,env.kindOf x=O .cell→(env.cells.lookup x).isSome=Z
section
variable{W:Wd}{A:Around}{env:Env}{nm:List Str}{ρ:List (Option LV)}{h h':Heap}{μ μ':Mp}{s:Shared}
theorem oN{a:Addr}{m:Str→Option Value}(n:h.Ns a m)(k:∀o,h.get? a=O o→h'.get? a=O o):h'.Ns a m:=
 let⟨o,es,ep,ho,r⟩:=n;⟨o,es,ep,k o ho,r⟩
theorem fX{a:Addr}{v:Option Value}(n:h.IsCell a v)(k:∀o,h.get? a=O o→h'.get? a=O o):h'.IsCell a v:=
 let⟨o,ho,r⟩:=n;⟨o,k o ho,r⟩
theorem am.step(F:am W env nm ρ h μ)(S:aH X0 h μ h' μ'):am W env nm ρ h' μ':=by
 refine ak F.ns λm hm hv=> ?_
 have kL:∀o,h.get? env.locals=O o→h'.get? env.locals=O o:=λo e=>S.keep _ _ e F.loc.1 id
 refine EQ (id hm) λoL esL epL hoL _=> ?_
 have kC:∀x c,env.cells.lookup x=O c→∀o,h.get? c=O o→h'.get? c=O o:=λx c e o ho=>S.keep _ _ ho (F.cel x c e).1 id
 refine⟨F.kind,F.glo,F.bui,⟨m,oN hm kL,λi x lv e1 e2=> ?_⟩,F.plain,F.nd,⟨S.notMem hoL F.loc.1,F.loc.2⟩,λx c e=> ?_,F.inj,F.cok⟩
 ·refine ak (hv i x lv e1 e2) λv rv q=> ?_
  refine⟨v,rv.step S,?_⟩;rcases q with q|⟨q,c,e,ic⟩
  ·exact .inl q
  ·exact .inr ⟨q,c,e,fX ic (kC x c e)⟩
 ·obtain⟨a,b,v,ic⟩:=F.cel x c e;refine ak (id ic) λo ho _=> ?_
  exact⟨S.notMem ho a,b,v,fX ic (kC x c e)⟩
theorem DG{X:Addr→Prop}{i:Nat}{x:Str}{lv:LV}{pos:Pos}(F:am W env nm ρ s.heap μ)(e1:nm[i]? =O x)(e2:ρ[i]? =O (O lv)):
  Tr W A (eval (.Name x pos) env) X s μ (λv h' μ'=>h'=s.heap∧μ'=μ∧ai h' μ' lv v):=by
 refine aw λMz kz175=> ?_
 refine ak F.ns λm hm hv=> ?_
 refine ak (hv i x lv e1 e2) λv rv q=> ?_
 have p:=F.plain x (Jf e1);refine kz175 ?_;refine Tr.now (a:=v) (λQ E k=>wpAny_Name ?_ p.1) ⟨rfl,rfl,rv⟩;refine aw λMz kz176=> ?_
 rcases q with⟨q,mv⟩|⟨q|q,c,ec,ic⟩
 ·refine kz176 ?_;exact wpAny_loadName_local F.kind q hm mv (k s.toks)
 ·refine kz176 ?_;exact wpAny_loadName_cell F.kind q ec ic (k s.toks)
 ·refine kz176 ?_;exact wpAny_loadName_free F.kind q ec ic (k s.toks) p.2
theorem jh{X:Addr→Prop}{x:Str}{v:Value}{pos:Pos}{st:St}(I:au W s.heap μ st)(hk:env.scope.kind= .function)(hg:env.globals=JY)(hx:env.kindOf x=O .globalImplicit)(e:nsIn W.K JY x=O (O v))
  (hd:(x==("__debug__":Str))=N):Tr W A (eval (.Name x pos) env) X s μ (λu h' μ'=>h'=s.heap∧μ'=μ∧u=v):=
 Tr.now (a:=v) (λ_ _ k=>Nr hk hx (loadGlobal_global (env:=env) (by rw[hg];exact W.gl.keeps I.base) (mg_of W.XB W.gl e) (k s.toks)) hd) ⟨rfl,rfl,rfl⟩
theorem tf{X:Addr→Prop}{x:Str}{v:Value}{pos:Pos}{st:St}(I:au W s.heap μ st)(hk:env.scope.kind= .function)(hg:env.globals=JY)(hb:env.builtins=LW)(hx:env.kindOf x=O .globalImplicit)
  (e:nsIn W.K JY x=O U) (hv:LL x=O v) (hn:x≠"__name__")
  (hd:(x==("__debug__":Str))=N):Tr W A (eval (.Name x pos) env) X s μ (λu h' μ'=>h'=s.heap∧μ'=μ∧u=v):=
 Tr.now (a:=v) (λ_ _ k=>Nr hk hx (loadGlobal_builtin (env:=env) (by rw[hg];exact W.gl.keeps I.base) (mg_none_of W.XB W.gl e) (by rw[hb];exact W.bi.keeps I.base) ((W.bt x hn).trans hv) (k s.toks)) hd) ⟨rfl,rfl,rfl⟩
theorem qr{X:Addr→Prop}{i:Nat}{x:Str}{lv:LV}{v:Value}{st:St}(I:au W s.heap μ st)(F:am W env nm ρ s.heap μ)(e1:nm[i]? =O x)(e2:i<ρ.length)(hx:env.kindOf x=O .local∨env.kindOf x=O .cell∧(env.cells.lookup x).isSome=Z)
  (r:ai s.heap μ lv v) (hX:X env.locals) (hXc:∀c,env.kindOf x=O .cell→env.cells.lookup x=O c→X c):
  Tr W A (storeName env x v) X s μ (λ_ h' μ'=>μ'=μ∧au W h' μ st∧am W env nm (ρ.set i (O lv)) h' μ):=by
 refine ak F.ns λm hm hv=> ?_
 have hlk:(env.scope.kind== .class||(env.scope.kind== .module&&env.locals !=env.globals))=N:=by rw[F.kind];rfl
 have step:∀(a:Addr) (h':Heap),X a→¬μ.Mem a→W.B.get? a=U→(∀o,s.heap.get? a=O o→∀vs n,o.data≠.seq vs n)→(∃o,h'.get? a=O o)→K0 a s.heap h'→au W h' μ st∧aH X s.heap μ h' μ:=by
  intro a h' fx nm' ba ns hal hs;have ne:∀b o,s.heap.get? b=O o→¬X b→h'.get? b=O o:=λb o e q=>(hs.2 b λz=>q (z▸fx)).trans e
  have imm:∀b o vs n,s.heap.get? b=O o→o.data= .seq vs n→¬μ.Mem b→h'.get? b=O o:=λb o vs n e d _=>(hs.2 b λz=>by subst z;exact ns o e vs n d).trans e
  have K:cD s.heap h' μ μ:=⟨λb o vs n e d m=>⟨imm b o vs n e d m,m⟩,⟨[],by simp⟩⟩;have kM:∀b,μ.Mem b→∀o,s.heap.get? b=O o→h'.get? b=O o:=λb mb o e=>(hs.2 b λz=>nm' (z▸mb)).trans e
  refine⟨⟨I.lg,I.ls,λn o p e1 e2=>(I.og n o p e1 e2).kept K (λob e=>kM _ (I.gmem e2) _ e) (λdx ed ob e=>kM _ (I.gmem2 e2 ed) _ e),λn o b e1 e2=>(I.os n o b e1 e2).kept K λob e=>kM _ (I.smem e2) _ e,I.nd,λb o e=> ?_,
   λb mb=>⟨(I.fresh b mb).1,let⟨o,e⟩:=(I.fresh b mb).2;⟨o,kM b mb o e⟩⟩⟩,⟨⟨[],by simp⟩,⟨[],by simp⟩,λb o e _ q=>ne b o e q,imm,λb o e=>if q:b=a then q▸hal else⟨o,(hs.2 b q).trans e⟩,λ_ m=> .inl m,rfl,λi b o _ e q=>kM b (.inr (Jf e)) o q⟩⟩
  refine(hs.2 b λq=> ?_).trans (I.base b o e);subst q;rw[ba] at e;cases e
 have cl:∀{c u},s.heap.IsCell c u→c≠env.locals:=λ{c u} ic q=>by
  refine ak ic λo ho hd=> ?_
  refine Bs hm λoL es ep hoL hdL _=> ?_
  subst q;obtain rfl:o=oL:=Jt (ho.symm.trans hoL);rw[hdL] at hd;cases hd
 intro Q E k;rcases hx with hx|⟨hx,hc⟩
 ·refine wpAny_storeName_local hx hm (λh' hn hs=> ?_) hlk;obtain⟨I',S⟩:=step env.locals h' hX F.loc.1 F.loc.2 (λo ho vs n q=>by
   refine Bs hm λoL es ep hoL hdL _=> ?_
   obtain rfl:o=oL:=Jt (ho.symm.trans hoL);rw[hdL] at q;cases q) (let⟨o,_,_,ho,_⟩:=hn;⟨o,ho⟩) hs
  refine k () h' (s.toks+1) μ S ⟨rfl,I',F.kind,F.glo,F.bui,⟨_,hn,λj y lv' f1 f2=> ?_⟩,F.plain,F.nd,F.loc,λy c e=> ?_,F.inj,F.cok⟩
  ·by_cases hj:j=i
   ·subst hj;rw[Kc e2] at f2;cases f2;obtain rfl:x=y:=Jt (e1.symm.trans f1);exact⟨v,r.step S,.inl ⟨hx,by simp⟩⟩
   ·rw[Lh (LM hj)] at f2;refine ak (hv j y lv' f1 f2) λu ru q=> ?_
    have nxy:y≠x:=λe=>hj ((Lc (Ji.mp f1).1 F.nd).mp (f1.trans (e▸e1.symm)))
    refine⟨u,ru.step S,?_⟩;rcases q with⟨q,mv⟩|⟨q,c,ec,ic⟩
    ·exact .inl ⟨q,by rw[if_neg nxy];exact mv⟩
    ·exact .inr ⟨q,c,ec,ic.sameBut hs (cl ic)⟩
  ·obtain⟨a,b,u,ic⟩:=F.cel y c e;exact⟨a,b,u,ic.sameBut hs (cl ic)⟩
 ·refine aG (KO.mp hc) λc hc=> ?_
  obtain⟨ca,cb,u₀,ic₀⟩:=F.cel x c hc;refine wpAny_storeName_cell F.kind hx hc ic₀ (λh' hn hs=> ?_);obtain⟨I',S⟩:=step c h' (hXc c hx hc) ca cb (λo ho vs n q=>by
   refine ak ic₀ λoL hoL hdL=> ?_
   obtain rfl:o=oL:=Jt (ho.symm.trans hoL);rw[hdL] at q;cases q) (let⟨o,ho,_⟩:=hn;⟨o,ho⟩) hs
  refine k () h' s.toks μ S ⟨rfl,I',F.kind,F.glo,F.bui,⟨m,hm.sameBut hs (LM (cl ic₀)),λj y lv' f1 f2=> ?_⟩,F.plain,F.nd,F.loc,λy c' e=> ?_,F.inj,F.cok⟩
  ·by_cases hj:j=i
   ·subst hj;rw[Kc e2] at f2;cases f2;obtain rfl:x=y:=Jt (e1.symm.trans f1);exact⟨v,r.step S,.inr ⟨.inl hx,c,hc,hn⟩⟩
   ·rw[Lh (LM hj)] at f2;refine ak (hv j y lv' f1 f2) λu ru q=> ?_
    have nxy:y≠x:=λe=>hj ((Lc (Ji.mp f1).1 F.nd).mp (f1.trans (e▸e1.symm)))
    refine⟨u,ru.step S,?_⟩;rcases q with⟨q,mv⟩|⟨q,c',ec,ic⟩
    ·exact .inl ⟨q,mv⟩
    ·exact .inr ⟨q,c',ec,ic.sameBut hs λz=>nxy (F.inj _ _ _ (z▸ec) hc)⟩
  ·obtain⟨a,b,u,ic⟩:=F.cel y c' e;by_cases z:c'=c
   ·subst z;exact⟨a,b,_,hn⟩
   ·exact⟨a,b,u,ic.sameBut hs z⟩
end
section
set_option tactic.hygienic true
noncomputable def aA:Nat:=16000000
noncomputable def ao(st:St):LV→Option (Bool×List AV)
 | .val (.lst l)=>O (Z,l)
 | .val (.tup l)=>O (N,l)
 | .loc n=>match st.S[n]? with
  |some (.list l)=>O (Z,l)
  |_=>U
 | .ref n=>match st.G[n]? with
  |some (.con (.list l))=>O (Z,l)
  |_=>U
 |_=>U
noncomputable def dictOf?(tb:Nat→Option (KD×List (AV×AV)))(st:St):LV→Option (KD×List (AV×AV))
 | .loc n=>match st.S[n]? with
  |some (.dict k es)=>O (k,es)
  |_=>U
 | .ref n=>match st.G[n]? with
  |some (.con (.dict k es))=>O (k,es)
  |_=>U
 | .tab a=>tb a
 |_=>U
section
variable{W:Wd}{A:Around}{X:Addr→Prop}{s:Shared}{μ:Mp}{st:St}{lv:LV}{v:Value}{l:List AV}{b:Bool}
theorem ay.ofB{h:Heap}{a:AV}(I:au W h μ st)(r:ay W.B vZ a v):ay h μ a v:=
 r.to λb o _ _ e _ _=>⟨I.base b o e,λm=>by rw[(I.fresh b m).1] at e;cases e⟩
theorem FK{h:Heap}(I:au W h μ st):cD W.B h vZ μ:=⟨λb o _ _ e _ _=>⟨I.base b o e,λm=>by rw[(I.fresh b m).1] at e;cases e⟩,⟨μ.g,rfl⟩⟩
theorem bJ(I:au W s.heap μ st)(e:ao st lv=O (b,l))(r:ai s.heap μ lv v):
  ∃a o vs n,v= .ref a∧s.heap.get? a=O o∧o.cls= .type (if b then "list" else "tuple")∧o.data= .seq vs n∧ax s.heap μ l vs.toList:=by
 induction lv with
 |val a=>
  cases a<;>simp only[ao] at e<;>first|cases e|skip
  ·simp only[ai,ay] at r;refine kc r λa o vs n h1 _ h2 h3 h4 h5=> ?_
   exact⟨a,o,vs,n,h1,h2,h3,h4,h5⟩
  ·simp only[ai,ay] at r;refine kc r λa o vs n h1 _ h2 h3 h4 h5=> ?_
   exact⟨a,o,vs,n,h1,h2,h3,h4,h5⟩
 |loc n=>
  refine ak r λa ha oz9=> ?_
  subst oz9;simp only[ao] at e;split at e
  ·rename_i l' q;cases e;refine b9 (I.os _ _ _ q ha) λvs n h1 h2=> ?_
   exact⟨a,_,vs,n,rfl,h1,rfl,rfl,h2⟩
  ·exfalso;cases e
 |ref n=>
  refine ak r λp hp oz10=> ?_
  subst oz10;simp only[ao] at e;split at e
  ·rename_i l' q;cases e;obtain⟨_,vs,n,h1,h2⟩:=I.og _ _ _ q hp;exact⟨p.1,_,vs,n,rfl,h1,rfl,rfl,h2⟩
  ·exfalso;cases e
 |tab a=>simp only[ao] at e;cases e
theorem d9(I:au W s.heap μ st){k:KD}{es:List (AV×AV)}(e:dictOf? W.tb st lv=O (k,es))(r:ai s.heap μ lv v):∃a,v= .ref a∧dH W.prog W.w s.heap μ (.dict k es) a∧(a==LB)=N:=by
 have lo:∀a,W.B.get? a=U→(a==LB)=N:=λa h=>beq_eq_false_iff_ne.mpr λq=>by obtain⟨o,e⟩:=W.sm;rw[q,e] at h;cases h
 induction lv with
 |val a=>simp only[dictOf?] at e;cases e
 |loc n=>
  refine ak r λa ha oz11=> ?_
  subst oz11;simp only[dictOf?] at e;split at e
  ·rename_i k' l' q;cases e;exact⟨a,rfl,I.os _ _ _ q ha,lo _ (I.fresh _ (I.smem ha)).1⟩
  ·contradiction
 |ref n=>
  refine ak r λp hp oz12=> ?_
  subst oz12;simp only[dictOf?] at e;split at e
  ·rename_i k' l' q;cases e;exact⟨p.1,rfl,(I.og _ _ _ q hp).2,lo _ (I.fresh _ (I.gmem hp)).1⟩
  ·exfalso;contradiction
 |tab a=>
  refine⟨a,r,((W.tbok a k es e).1).kept (FK I) (λob h=>I.base _ _ h),(W.tbok a k es e).2⟩
noncomputable def cX(s:Shared)(μ:Mp){α:Type}(P:α→Prop)(a:α)(h':Heap)(μ':Mp):Prop:=h'=s.heap∧μ'=μ∧P a
theorem Tr.same{α:Type}{t:Sem α}{P:α→Prop}{a:α}(h:∀(Q:α→Shared→Prop) (E:Value→Shared→Prop),(∀tk,Q a {s with toks:=tk})→wpAny (model W.prog W.w) A t Q E s)(p:P a):Tr W A t X s μ (cX s μ P):=
 Tr.now h ⟨rfl,rfl,p⟩
noncomputable def Gq(i:Int)(v:Value):Prop:=∃t,v= .int i t
theorem iK{l:List AV}{vs:Array Value}(r:ax s.heap μ l vs.toList)(hl:l.length<aA):(vs.size:Int)<2^63:=by
 have:=r.length;rw[JR] at this;delta aA at hl
 lia
theorem rW(I:au W s.heap μ st)(e:ao st lv=O (b,l))(r:ai s.heap μ lv v)(hl:l.length<aA):
  Tr W A (call (.builtin "len") [v]) X s μ (cX s μ (Gq l.length)):=by
 refine dJ (bJ I e r) λa o vs n oz13 ho hc hd hr=> ?_
 subst oz13;have hz:vs.size=l.length:=hr.length;refine Tr.same (a:= .int vs.size (s.toks+1)) (λQ E k=> ?_) ⟨_,by rw[hz]⟩;induction b with
 |true=>exact Pt ⟨o,ho,hc,n,hd⟩ (iK hr hl) (k _)
 |false=>exact PJ ⟨o,ho,hc,n,hd⟩ (iK hr hl) (k _)
theorem KV.length{K:Type}{h:Heap}{P:AV→K→Prop}:∀{es:List (AV×AV)} {kvs:List (K×Value)},KV h μ P es kvs→kvs.length=es.length
 |[],_,r=>by subst r;rfl
 |(_,_)::_,_,⟨i,u,r,e,p,q,t⟩=>by subst e;simp[KV.length t]
theorem pw.length{h:Heap}:∀{es:List (AV×AV)} {kvs:List (AV×Addr×Value)},pw h μ es kvs→kvs.length=es.length
 |[],_,r=>by subst r;rfl
 |(_,_)::_,_,⟨i,u,r,e,p,q,t⟩=>by subst e;simp[pw.length t]
theorem qj(I:au W s.heap μ st){k:KD}{es:List (AV×AV)}(e:dictOf? W.tb st lv=O (k,es))(hk:k≠.tup)(r:ai s.heap μ lv v)(hl:es.length<aA):
  Tr W A (call (.builtin "len") [v]) X s μ (cX s μ (Gq es.length)):=by
 refine cG (d9 I e r) λa oz14 hr hs=> ?_
 subst oz14;induction k with
 |tup=>exact absurd rfl hk
 |int=>
  refine b9 hr λkvs ep hd hv=> ?_
  exact Tr.same (a:= .int kvs.length (s.toks+1)) (λQ E k=>Pu hs hd.dictOf (by rw[hv.length];delta aA at hl;omega) (k _)) ⟨_,by rw[hv.length]⟩
 |str=>
  refine b9 hr λkvs ep hd hv=> ?_
  exact Tr.same (a:= .int kvs.length (s.toks+1)) (λQ E k=>Pu hs hd.dictOf (by rw[hv.length];delta aA at hl;omega) (k _)) ⟨_,by rw[hv.length]⟩
noncomputable def uf:AV→Option Bool
 | .none=>O N
 | .bool b=>O b
 | .int i=>O (i !=0)
 | .str x=>if x.length<aA then O (!x.isEmpty) else U
 | .tup l=>if l.length<aA then O (!l.isEmpty) else U
 | .lst l=>if l.length<aA then O (!l.isEmpty) else U
noncomputable def aK(st:St)(lv:LV):Option Bool:=match lv with
 | .val (.tup l)=>if l.length<aA then O (!l.isEmpty) else U
 | .val (.lst l)=>if l.length<aA then O (!l.isEmpty) else U
 | .val a=>uf a
 | .loc n=>match st.S[n]? with
  |some (.list l)=>if l.length<aA then O (!l.isEmpty) else U
  |_=>U
 |_=>U
theorem jc(I:au W s.heap μ st)(e:ao st lv=O (b,l))(r:ai s.heap μ lv v)(hl:l.length<aA):
  Tr W A (truthy v) X s μ (cX s μ (λc=>c= !l.isEmpty)):=by
 refine dJ (bJ I e r) λa o vs n oz15 ho hc hd hr=> ?_
 subst oz15;have hz:vs.size=l.length:=hr.length;have he:vs.isEmpty=l.isEmpty:=by
  delta Array.isEmpty;rw[hz];cases l<;>simp
 refine Tr.same (a:= !vs.isEmpty) (λQ E k=> ?_) (by rw[he]);induction b with
 |true=>exact wpAny_truthy_list ⟨o,ho,hc,n,hd⟩ (iK hr hl) (k _)
 |false=>exact truthy_tuple ⟨o,ho,hc,n,hd⟩ (iK hr hl) (k _)
theorem k7(I:au W s.heap μ st){c:Bool}(e:aK st lv=O c)(r:ai s.heap μ lv v):Tr W A (truthy v) X s μ (cX s μ (λd=>d=c)):=by
 cases lv with
 |val a=>
  cases a with
  |none=>cases e;simp only[ai,ay] at r;subst r;exact Tr.same (a:=N) (λQ E k=>truthy_none (k s.toks)) rfl
  |bool b=>cases e;simp only[ai,ay] at r;subst r;exact Tr.same (λQ E k=>KN (k s.toks)) rfl
  |int i=>cases e;simp only[ai,ay] at r;obtain⟨t,rfl⟩:=r;exact Tr.same (a:=i !=0) (λQ E k=>PB (k s.toks)) rfl
  |str x=>
   simp only[aK,uf] at e;split at e
   ·rename_i hx;cases e;simp only[ai,ay] at r;obtain⟨t,rfl⟩:=r
    have hlen:(b8 x).length=x.length:=by rfl
    refine Tr.same (a:=((b8 x).length:Int) !=0) (λQ E k=>P.truthy_str (by delta aA at hx;omega) (k _)) ?_;rw[hlen];cases x<;>simp
    lia
   ·contradiction
  |tup l=>
   simp only[aK] at e;split at e
   ·rename_i hl;cases e;exact jc (b:=N) (l:=l) I rfl r hl
   ·cases e
  |lst l=>
   simp only[aK] at e;split at e
   ·rename_i hl;cases e;exact jc (b:=Z) (l:=l) I rfl r hl
   ·cases e
 |loc n=>
  simp only[aK] at e;split at e
  ·rename_i l q;split at e
   ·rename_i hl;cases e;exact jc (b:=Z) (l:=l) I (by simp only[ao,q]) r hl
   ·contradiction
  ·contradiction
 |_=>simp only[aK] at e;cases e
theorem t5(I:au W s.heap μ st){k:Int}{t:Tok}{j:Nat}{x:AV}(e:ao st lv=O (b,l))(r:ai s.heap μ lv v)(hlo: -(2^63)≤k)(hhi:k<2^63)(hb:b=Z→0≤k)(hj:Oy k l.length=O j)(hx:l[j]? =O x):
  Tr W A (Mn v (.int k t)) X s μ (cX s μ (ay s.heap μ x)):=by
 refine dJ (bJ I e r) λa o vs n oz16 ho hc hd hr=> ?_
 subst oz16;have hz:vs.size=l.length:=hr.length;refine ak (hr.get hx) λu hu ru=> ?_
 rw[JI] at hu;refine Tr.same (a:=u) (λQ E q=> ?_) ru;induction b with
 |true=>
  have h0:=hb rfl;have:j=k.toNat:=by
   delta Oy at hj;simp only[if_neg (Int.not_lt.mpr h0)] at hj;split at hj
   ·cases hj;rfl
   ·contradiction
  exact NT ⟨o,ho,hc,n,hd⟩ h0 hhi (by rw[←this];exact hu) (q s.toks)
 |false=>exact O0 ⟨o,ho,hc,n,hd⟩ hlo hhi (by rw[hz];exact hj) hu (q s.toks)
end
end
section
set_option tactic.hygienic true
noncomputable def aE:List (AV×AV)→AV→Option AV
 |[],_=>U
 |(k,v)::es,x=>if AV.beq k x then O v else aE es x
noncomputable def jT:List (AV×AV)→AV→AV→List (AV×AV)
 |[],x,y=>[(x,y)]
 |(k,v)::es,x,y=>if AV.beq k x then(k,y)::es else(k,v)::jT es x y
noncomputable def aU(k:KD)(x:AV):Bool:=match k,x with
 | .int,.int _=>Z
 | .str,.str _=>Z
 | .tup,.tup l=>AV.keyL l&&QQ ((AV.tup l).dep≤8)
 |_,_=>N
section
variable{W:Wd}{A:Around}{X:Addr→Prop}{s:Shared}{μ:Mp}{st:St}{lv:LV}{v u:Value}{l m:List AV}{b:Bool}
theorem Eb{a c:AV}(ra:ay s.heap μ a v)(rb:ay s.heap μ c u)(hd:a.dep≤8∨c.dep≤8)(hu:A.units+8<cLine):Tr W A (Kg .Eq v u) X s μ (cX s μ (λr=>r= .bool (AV.eqv a c))):=
 Tr.same (λQ E k=>cmp_ofEq (G7 ra rb hd hu _ _ E Q (k s.toks))) rfl
theorem Fy{a c:AV}(ra:ay s.heap μ a v)(rb:ay s.heap μ c u)(hd:a.dep≤8∨c.dep≤8)(hu:A.units+8<cLine):Tr W A (Kg .NotEq v u) X s μ (cX s μ (λr=>r= .bool (!(AV.eqv a c)))):=
 Tr.same (λQ E k=>cmp_ofNotEq (Dd ra rb hd hu _ _ E Q (k s.toks))) rfl
theorem uH{x:AV}:∀{l:List AV} {vs:List Value},ax s.heap μ l vs→∀e:Value→Bool,(∀y∈vs,∀a,ay s.heap μ a y→e y=AV.eqv a x)→vs.any e=l.any (λa=>AV.eqv a x)
 |[],_,r,_,_=>by subst r;rfl
 |a::l,_,r,e,h=>by
  refine aX r λy ys oz269 h1 h2=> ?_
  subst oz269;rw[Ls,Ls,h y (.head _) a h1,uH h2 e λy hy=>h y (.tail _ hy)]
open Classical in
theorem vu(I:au W s.heap μ st){x:AV}(e:ao st lv=O (b,l))(r:ai s.heap μ lv v)(rx:ay s.heap μ x u)(hx:x.dep≤8)(hu:A.units+9<cLine):
  Tr W A (Kg .In u v) X s μ (cX s μ (λr=>r= .bool (l.any λa=>AV.eqv a x)))∧Tr W A (Kg .NotIn u v) X s μ (cX s μ (λr=>r= .bool (!l.any λa=>AV.eqv a x))):=by
 refine dJ (bJ I e r) λa o vs n oz270 ho hc hd hr=> ?_
 subst oz270
 let f:Value→Bool:=λy=>if h:∃a,ay s.heap μ a y then AV.eqv (Oz h) x else N
 have hf:∀y a,ay s.heap μ a y→f y=AV.eqv a x:=λy a ra=>by
  have h:∃a,ay s.heap μ a y:=⟨a,ra⟩
  show(if h:∃a,ay s.heap μ a y then AV.eqv (Oz h) x else N)=_;rw[dif_pos h,ay.inj (P1 h) ra]
 have he:∀y,y∈vs→EqAt A.in1 s y u (f y):=λy hy=>by
  obtain⟨i,hi,rfl⟩:=Array.mem_iff_getElem.mp hy;obtain⟨a,_,ra⟩:=hr.get' (i:=i) (v:=vs[i]) (by simp[hi]);exact(hf _ a ra).symm▸(AR 8 ra rx (.inr hx) (by exact hu))
 have ha:vs.any f=l.any (λa=>AV.eqv a x):=by
  exact(MW)▸(uH hr f λy _ a ra=>hf y a ra)
 induction b with
 |true=>
  exact⟨Tr.same (a:= .bool (vs.any f)) (λQ E k=>in_listAt f ⟨o,ho,hc,n,hd⟩ he (k s.toks)) (by rw[ha]),Tr.same (a:= .bool (!vs.any f)) (λQ E k=>notIn_listAt f ⟨o,ho,hc,n,hd⟩ he (k s.toks)) (by rw[ha])⟩
 |false=>
  exact⟨Tr.same (a:= .bool (vs.any f)) (λQ E k=>in_tupleAt f ⟨o,ho,hc,n,hd⟩ he (k s.toks)) (by rw[ha]),Tr.same (a:= .bool (!vs.any f)) (λQ E k=>notIn_tupleAt f ⟨o,ho,hc,n,hd⟩ he (k s.toks)) (by rw[ha])⟩
theorem KV.get{K:Type}[DecidableEq K]{h:Heap}{P:AV→K→Prop}(inj:∀x y i,P x i→P y i→x=y)(fn:∀x i j,P x i→P x j→i=j){x:AV}{i:K}(p:P x i):∀{es:List (AV×AV)} {kvs:List (K×Value)},KV h μ P es kvs→
  match aE es x with
  |none=>Ln kvs i=U
  |some y=>∃u,Ln kvs i=O u∧ay h μ y u
 |[],_,r=>by subst r;rfl
 |(k,v)::es,_,⟨j,u,r,e,q,rv,t⟩=>by
  subst e;rw[aE];by_cases hk:AV.beq k x=Z
  ·rw[if_pos hk];obtain rfl:=AV.beq_iff.mp hk;obtain rfl:=fn _ _ _ p q;exact⟨u,by simp[Ln],rv⟩
  ·rw[if_neg hk];have ne:¬j=i:=λz=>hk (AV.beq_iff.mpr (inj _ _ _ q (z▸p)))
   have ih:=KV.get inj fn p t;have e:Ln ((j,u)::r) i=Ln r i:=by simp[Ln,ne]
   rw[e];exact ih
theorem pw.get{h:Heap}{x:AV}:∀{es:List (AV×AV)} {xs:List (AV×Addr×Value)},pw h μ es xs→
  match aE es x with
  |none=>atKey xs x=U
  |some y=>∃a u,atKey xs x=O (a,u)∧ay h μ y u
 |[],_,r=>by subst r;rfl
 |(k,v)::es,_,⟨a,u,r,e,q,rv,t⟩=>by
  subst e;simp only[aE];by_cases hk:AV.beq k x=Z
  ·rw[if_pos hk];obtain rfl:=AV.beq_iff.mp hk;exact⟨a,u,by simp[atKey],rv⟩
  ·rw[if_neg hk];have ne:¬k=x:=λz=>hk (AV.beq_iff.mpr z)
   have ih:=pw.get (x:=x) t;have e:atKey ((k,a,u)::r) x=atKey r x:=by simp[atKey,ne]
   rw[e];exact ih
theorem fG:∀x y i,v6 x i→v6 y i→x=y:=λ_ _ _ a b=>a.trans b.symm
theorem iI:∀x i j,v6 x i→v6 x j→i=j:=λ_ _ _ a b=>by injection a.symm.trans b
theorem fF:∀x y i,vq x i→vq y i→x=y:=λ_ _ _ ⟨a,ha,ea⟩ ⟨b,hb,eb⟩=>by rw[ha,hb,jg (ea.symm.trans eb)]
theorem iP:∀x i j,vq x i→vq x j→i=j:=λ_ _ _ ⟨a,ha,ea⟩ ⟨b,hb,eb⟩=>by
 rw[ha] at hb;injection hb with hb;rw[ea,eb,hb]
theorem lQ{k:AV}(hk:aU .tup k=Z)(r:ay s.heap μ k u):∃a,u= .ref a∧BY s.heap k a:=by
 cases k with
 |tup l=>
  simp only[aU,I8,decide_eq_true_eq] at hk;have r0:=r.at0;refine xc r λa o vs n oz271 _=> ?_
  subst oz271;exact⟨a,rfl,hk.1,hk.2,r0⟩
 |_=>simp[aU] at hk
theorem pF(I:au W s.heap μ st){k:KD}{es:List (AV×AV)}{x y:AV}(e:dictOf? W.tb st lv=O (k,es))(r:ai s.heap μ lv v)(hk:aU k x=Z)(rx:ay s.heap μ x u)(hy:aE es x=O y)(hu:A.units+18<cLine):
  Tr W A (Mn v u) X s μ (cX s μ (ay s.heap μ y)):=by
 refine cG (d9 I e r) λa oz272 hr hs=> ?_
 subst oz272;induction k with
 |int=>
  refine b9 hr λkvs ep hd hv=> ?_
  cases x<;>simp only[aU] at hk<;>first|cases hk|skip
  rename_i i;simp only[ay] at rx;obtain⟨t,rfl⟩:=rx
  have:=hv.get fG iI (x:= .int i) (i:=i) rfl;rw[hy] at this;refine ak this λw' hw rw'=> ?_
  exact Tr.same (λQ E k=>OA (knd:=LK W.prog W.w) (by simp[LK,MG]) hd.dictOf.mapOf hw (k _)) rw'
 |str=>
  refine b9 hr λkvs ep hd hv=> ?_
  cases x<;>simp only[aU] at hk<;>first|cases hk|skip
  rename_i i;simp only[ay] at rx;obtain⟨t,rfl⟩:=rx
  have:=hv.get fF iP (x:= .str i) (i:=b8 i) ⟨i,rfl,rfl⟩;rw[hy] at this;refine ak this λw' hw rw'=> ?_
  exact Tr.same (λQ E k=>OA (knd:=Km W.prog W.w) (by simp[Km,L4]) hd.dictOf.mapOf hw (k _)) rw'
 |tup=>
  refine ak hr λxs hd hv=> ?_
  refine ak (lQ hk rx) λka oz273 ik=> ?_
  subst oz273;have:=hv.get (x:=x);rw[hy] at this;refine b9 this λa' w' hw rw'=> ?_
  exact Tr.same (λQ E k=>wpAny_getItem_heap (knd:=eN W.prog W.w) (by show A.units+1+16<cLine;exact JB hu) ik hd hw (k _)) rw'
theorem sT(I:au W s.heap μ st){k:KD}{es:List (AV×AV)}{x:AV}(e:dictOf? W.tb st lv=O (k,es))(r:ai s.heap μ lv v)(hk:aU k x=Z)(rx:ay s.heap μ x u)(hu:A.units+18<cLine):
  Tr W A (Kg .In u v) X s μ (cX s μ (λr=>r= .bool (aE es x).isSome)):=by
 refine cG (d9 I e r) λa oz274 hr hs=> ?_
 subst oz274;induction k with
 |int=>
  refine b9 hr λkvs ep hd hv=> ?_
  cases x<;>simp only[aU] at hk<;>first|cases hk|skip
  rename_i i;simp only[ay] at rx;obtain⟨t,rfl⟩:=rx
  have:=hv.get fG iI (x:= .int i) (i:=i) rfl;refine Tr.same (a:= .bool (Ln kvs i).isSome) (λQ E k=>P2 (knd:=LK W.prog W.w) (by simp[LK,MG]) hs hd.dictOf.mapOf (k _)) ?_
  revert this
  cases aE es (.int i) with
  |none=>intro h;rw[show Ln kvs i=U from h];rfl
  |some y=>rintro⟨w',hw,_⟩;rw[hw];rfl
 |str=>
  refine b9 hr λkvs ep hd hv=> ?_
  cases x<;>simp only[aU] at hk<;>first|cases hk|skip
  rename_i i;simp only[ay] at rx;obtain⟨t,rfl⟩:=rx
  have:=hv.get fF iP (x:= .str i) (i:=b8 i) ⟨i,rfl,rfl⟩;refine Tr.same (a:= .bool (Ln kvs (b8 i)).isSome) (λQ E k=>P2 (knd:=Km W.prog W.w) (by simp[Km,L4]) hs hd.dictOf.mapOf (k _)) ?_
  revert this
  cases aE es (.str i) with
  |none=>intro h;rw[show Ln kvs (b8 i)=U from h];rfl
  |some y=>rintro⟨w',hw,_⟩;rw[hw];rfl
 |tup=>
  refine ak hr λxs hd hv=> ?_
  refine ak (lQ hk rx) λka oz275 ik=> ?_
  subst oz275;have:=hv.get (x:=x);refine Tr.same (a:= .bool (atKey xs x).isSome) (λQ E k=>wpAny_in_heap (knd:=eN W.prog W.w) (by show A.units+1+16<cLine;exact JB hu) ik hs hd (k _)) ?_
  revert this
  cases aE es x with
  |none=>intro h;rw[show atKey xs x=U from h];rfl
  |some y=>rintro⟨a',w',hw,_⟩;rw[hw];rfl
theorem l7(I:au W s.heap μ st){k:KD}{es:List (AV×AV)}{x:AV}(e:dictOf? W.tb st lv=O (k,es))(r:ai s.heap μ lv v)(hk:aU k x=Z)(rx:ay s.heap μ x u)(hu:A.units+18<cLine):
  Tr W A (Kg .NotIn u v) X s μ (cX s μ (λr=>r= .bool (!(aE es x).isSome))):=by
 refine cG (d9 I e r) λa oz276 hr hs=> ?_
 subst oz276;induction k with
 |int=>
  refine b9 hr λkvs ep hd hv=> ?_
  cases x<;>simp only[aU] at hk<;>first|cases hk|skip
  rename_i i;simp only[ay] at rx;obtain⟨t,rfl⟩:=rx
  have:=hv.get fG iI (x:= .int i) (i:=i) rfl;refine Tr.same (a:= .bool (!(Ln kvs i).isSome)) (λQ E k=>O3 (knd:=LK W.prog W.w) (by simp[LK,MG]) hs hd.dictOf.mapOf (k _)) ?_
  revert this
  cases aE es (.int i) with
  |none=>intro h;rw[show Ln kvs i=U from h];rfl
  |some y=>rintro⟨w',hw,_⟩;rw[hw];rfl
 |str=>
  refine b9 hr λkvs ep hd hv=> ?_
  cases x<;>simp only[aU] at hk<;>first|cases hk|skip
  rename_i i;simp only[ay] at rx;obtain⟨t,rfl⟩:=rx
  have:=hv.get fF iP (x:= .str i) (i:=b8 i) ⟨i,rfl,rfl⟩;refine Tr.same (a:= .bool (!(Ln kvs (b8 i)).isSome)) (λQ E k=>O3 (knd:=Km W.prog W.w) (by simp[Km,L4]) hs hd.dictOf.mapOf (k _)) ?_
  revert this
  cases aE es (.str i) with
  |none=>intro h;rw[show Ln kvs (b8 i)=U from h];rfl
  |some y=>rintro⟨w',hw,_⟩;rw[hw];rfl
 |tup=>
  refine ak hr λxs hd hv=> ?_
  refine ak (lQ hk rx) λka oz277 ik=> ?_
  subst oz277;have:=hv.get (x:=x);refine Tr.same (a:= .bool (!(atKey xs x).isSome)) (λQ E k=>wpAny_notIn_heap (knd:=eN W.prog W.w) (by show A.units+1+16<cLine;exact JB hu) ik hs hd (k _)) ?_
  revert this
  cases aE es x with
  |none=>intro h;rw[show atKey xs x=U from h];rfl
  |some y=>rintro⟨a',w',hw,_⟩;rw[hw];rfl
end
end
section
set_option tactic.hygienic true
theorem oq(l:Addr)(items:Array Value)(n:Nat)(b:Addr)(items2:Array Value)(n2:Nat)(dd:Option Addr)(sl:Array (Option Value))(hs0:¬(!items.isEmpty&&MO (items.size+items2.size))=Z)(hs1:items.size≤Lu)(hs2:items.size+items2.size≤Lu+1):
  Meets (PK.«list.extend» ⟨[.ref l,.ref b],[]⟩) (λ_ R s=>s.heap.get? l=O {cls:= .type "list",dict:=U,data:= .seq items n,slots:= #[]}∧s.heap.get? b=O {cls:= .type "tuple",dict:=dd,data:= .seq items2 n2,slots:=sl}∧R (.ok (.ret Mx)) {s with heap:=s.heap.update l (NU λx=>x++items2),toks:=s.toks}):=
 .of_wp λprog w A R s h=>by
  obtain⟨hp,g,d,tk,os⟩:=s;refine cI h λhl hb h=> ?_
  have hz':(items++items2).size≤Lu+1:=by rw[Array.size_append];exact hs2
  wp_walk using (wpAny_updateSeq hl rfl (hz:=hs1) (_hz':=hz')),MP hl,MP hb;exact⟨_,rfl,h⟩
noncomputable def cC(st:St):LV→Option CO
 | .loc n=>st.S[n]?
 | .ref n=>match st.G[n]? with
  |some (.con o)=>O o
  |_=>U
 |_=>U
noncomputable def bU(st:St)(lv:LV)(o:CO):St:=match lv with
 | .loc n=>{st with S:=st.S.set n o}
 | .ref n=>{st with G:=st.G.set n (.con o)}
 |_=>st
section
variable{W:Wd}{A:Around}{X:Addr→Prop}{s:Shared}{h':Heap}{μ:Mp}{st:St}{lv:LV}{v u:Value}{l m:List AV}{b:Bool}{o o':CO}
theorem jd(I:au W s.heap μ st)(e:cC st lv=O o)(r:ai s.heap μ lv v):
  ∃a,v= .ref a∧dH W.prog W.w s.heap μ o a∧(a==LB)=N∧
   ∀h',K0 a s.heap h'→(∃ob,h'.get? a=O ob)→aH X s.heap μ h' μ∧∀o',dH W.prog W.w h' μ o' a→au W h' μ (bU st lv o'):=by
 have lo:∀a,W.B.get? a=U→(a==LB)=N:=λa h=>beq_eq_false_iff_ne.mpr λq=>by obtain⟨o,e⟩:=W.sm;rw[q,e] at h;cases h
 induction lv with
 |val a=>simp only[cC] at e;cases e
 |tab a=>simp only[cC] at e;cases e
 |loc n=>
  refine ak r λa ha oz324=> ?_
  subst oz324;exact⟨a,rfl,I.os _ _ _ e ha,lo _ (I.fresh _ (I.smem ha)).1,λh' hs hal=>⟨aH.setS I ha hs hal,λo' rr=>I.setS ha hs rr⟩⟩
 |ref n=>
  refine ak r λp hp oz325=> ?_
  subst oz325;simp only[cC] at e;split at e
  ·rename_i o'' q;cases e;have:=I.og _ _ _ q hp;exact⟨p.1,rfl,this.2,lo _ (I.fresh _ (I.gmem hp)).1,λh' hs hal=>⟨aH.setG I hp (.inl rfl) hs hal,λo' rr=>I.setG hp (.inl rfl) hs ⟨this.1,rr⟩⟩⟩
  ·contradiction
noncomputable def nO(W:Wd)(μ:Mp)(st':St)(P:Value→Prop)(r:Value)(h':Heap)(μ':Mp):Prop:=P r∧μ'=μ∧au W h' μ st'
theorem Ad{l:List AV}{vs:Array Value}{h:Heap}(r:ax h μ l vs.toList)(hl:l.length<aA):vs.size≤Lu:=by
 have:=r.length;rw[JR] at this;delta aA at hl;rw[JP]
 lia
theorem nB(I:au W s.heap μ st){x:AV}(e:cC st lv=O (.list l))(r:ai s.heap μ lv v)(rx:ay s.heap μ x u)(hl:l.length<aA):
  Tr W A (call (.builtin "list.append") [v,u]) X s μ (nO W μ (bU st lv (.list (l++[x]))) (λr=>r= .none)):=by
 refine pE (jd (X:=X) I e r) λa oz326 oz327 _ up=> ?_
 subst oz326;refine b9 oz327 λvs n ho hr=> ?_
 intro Q E k;refine append_at ho (λh' hs ho'=> ?_) (hsz:=Ad hr hl);refine aO (up h' hs ⟨_,ho'⟩) λS up=> ?_
 exact k .none h' s.toks μ S ⟨rfl,rfl,up _ ⟨vs.push u,n+1,ho',by rw[ME];exact(hr.step S).append (.one (rx.step S))⟩⟩
theorem vT(I:au W s.heap μ st){lv2:LV}(e:cC st lv=O (.list l))(r:ai s.heap μ lv v)(e2:ao st lv2=O (N,m))(r2:ai s.heap μ lv2 u)(hl:l.length+m.length<aA):
  Tr W A (call (.builtin "list.extend") [v,u]) X s μ (nO W μ (bU st lv (.list (l++m))) (λr=>r= .none)):=by
 refine pE (jd (X:=X) I e r) λa oz328 oz329 _ up=> ?_
 subst oz328;refine b9 oz329 λvs n ho hr=> ?_
 refine dJ (bJ I e2 r2) λc o2 ws n2 oz330 ho2 hc2 hd2 hr2=> ?_
 subst oz330;have z1:vs.size=l.length:=hr.length;have z2:ws.size=m.length:=hr2.length;delta aA at hl;intro Q E k;refine aw λMz kz267=> ?_
 obtain⟨c2,d2,dt2,sl2⟩:=o2;subst hc2;subst hd2;refine kz267 ?_;refine call_meets MQ ⟨_,ho,rfl⟩ PySem.F.entry_list_extend (PySem.F.args_list_extend_2 _ _) (oq a vs n c ws n2 d2 sl2 (by
  intro q;simp only[I8] at q;have:=q.2;unfold MO at this;rw[decide_eq_true_eq,JP] at this;omega) (by rw[z1,JP];omega) (by rw[z1,z2,JP];exact nr (JB hl))) ⟨ho,ho2,?_⟩
 refine aO (up _ (Lr s.heap a (NU λx=>x++ws)) ⟨_,KY (l:=a) (items:=vs) (n:=n) ho _⟩) λS up=> ?_
 have q:=KY (l:=a) (items:=vs) (n:=n) ho (λx=>x++ws);refine k .none _ s.toks μ S ⟨rfl,rfl,up _ ⟨vs++ws,_,q,?_⟩⟩;rw[Array.toList_append];exact(hr.step S).append (hr2.step S)
theorem CM(I:au W s.heap μ st){x:AV}(e:cC st lv=O (.list (l++[x])))(r:ai s.heap μ lv v)(hl:l.length<15000000):
  Tr W A (call (.builtin "list.pop") [v]) X s μ (λr h' μ'=>ay h' μ' x r∧μ'=μ∧au W h' μ (bU st lv (.list l))):=by
 refine pE (jd (X:=X) I e r) λa oz331 oz332 _ up=> ?_
 subst oz331;refine b9 oz332 λvs n ho hr=> ?_
 intro Q E k;have z:vs.size=l.length+1:=by rw[←JR,hr.length];simp
 obtain⟨y,hy,ry⟩:=hr.get (i:=l.length) (a:=x) (by simp);rw[JI] at hy;have hz':vs.size≤Lu:=by rw[z,JP];exact nr hl
 refine call_meets Nj ⟨_,ho,rfl⟩ PySem.F.entry_list_pop (PySem.F.args_list_pop_1 _) (OP a vs n y (by rw[z,My];exact hy) hz') ⟨ho,?_⟩;refine aO (up _ (Lr s.heap a (NU λxs=>xs.eraseIdxIfInBounds (vs.size - 1))) ⟨_,KY (l:=a) (items:=vs) (n:=n) ho _⟩) λS up=> ?_
 have q:=KY (l:=a) (items:=vs) (n:=n) ho (λxs=>xs.eraseIdxIfInBounds (vs.size - 1));refine k y _ s.toks μ S ⟨ry.step S,rfl,up _ ⟨_,_,q,?_⟩⟩;have e1:(vs.eraseIdxIfInBounds (vs.size - 1)).toList=vs.toList.take l.length:=by
  delta Array.eraseIdxIfInBounds;rw[dif_pos (by omega),Array.toList_eraseIdx,z,My,List.eraseIdx_eq_take_drop_succ,LN (by rw[JR];omega),Je]
 rw[e1];have:=(hr.step S).take l.length;rw[MA] at this;exact this
theorem KV.put{K:Type}[DecidableEq K]{h:Heap}{P:AV→K→Prop}(inj:∀x y i,P x i→P y i→x=y)(fn:∀x i j,P x i→P x j→i=j){x y:AV}{i:K}{u:Value}(p:P x i)(ry:ay h μ y u):∀{es:List (AV×AV)} {kvs:List (K×Value)},KV h μ P es kvs→(kvs.map (·.1)).Nodup→
  KV h μ P (jT es x y) (stored kvs i u)
 |[],_,r,_=>by subst r;exact⟨i,u,[],rfl,p,ry,rfl⟩
 |(k,v)::es,_,⟨j,w,r,e,q,rv,t⟩,hn=>by
  subst e;rw[JT,Lz] at hn;simp only[jT];by_cases hk:AV.beq k x=Z
  ·rw[if_pos hk];obtain rfl:=AV.beq_iff.mp hk;obtain rfl:=fn _ _ _ p q;refine⟨i,u,r,?_,p,ry,t⟩;delta stored;rw[if_pos (by simp)];rw[JT,if_pos rfl,map_store_of_not_mem r i u hn.1]
  ·rw[if_neg hk];have ne:¬j=i:=λz=>hk (AV.beq_iff.mpr (inj _ _ _ q (z▸p)))
   have ih:=KV.put inj fn p ry t hn.2;refine⟨j,w,stored r i u,?_,q,rv,ih⟩;delta stored;simp only[Ls,ne,decide_false,J7,JT,if_false,OB];split<;>rfl
theorem pw.put{h:Heap}{x y:AV}{a:Addr}{u:Value}(rx:ay h μ x (.ref a))(ry:ay h μ y u):∀{es:List (AV×AV)} {xs:List (AV×Addr×Value)},pw h μ es xs→(xs.map (·.1)).Nodup→
  pw h μ (jT es x y) (PL xs x a u)
 |[],_,r,_=>by subst r;exact⟨a,u,[],rfl,rx,ry,rfl⟩
 |(k,v)::es,_,⟨c,w,r,e,q,rv,t⟩,hn=>by
  subst e;rw[JT,Lz] at hn;simp only[jT];by_cases hk:AV.beq k x=Z
  ·rw[if_pos hk];obtain rfl:=AV.beq_iff.mp hk;refine⟨c,u,r,?_,q,ry,t⟩;delta PL;rw[if_pos (by simp[atKey])];rw[JT,map_putAt_of_not_mem r k u hn.1];simp[putAt]
  ·rw[if_neg hk];have ne:¬k=x:=λz=>hk (AV.beq_iff.mpr z)
   have ih:=pw.put rx ry t hn.2;refine⟨c,w,PL r x a u,?_,q,rv,ih⟩;have e1:atKey ((k,c,w)::r) x=atKey r x:=by simp[atKey,ne]
   delta PL;rw[e1];split
   ·simp[putAt,ne]
   ·rfl
theorem rE(I:au W s.heap μ st){k:KD}{es:List (AV×AV)}{x y:AV}{z:Value}(e:cC st lv=O (.dict k es))(r:ai s.heap μ lv v)(hk:aU k x=Z)(rx:ay s.heap μ x u)(ry:ay s.heap μ y z)(hl:es.length<aA)(hu:A.units+18<cLine):
  Tr W A (Qz v u z) X s μ (nO W μ (bU st lv (.dict k (jT es x y))) (λ_=>True)∘λ_=>Mx):=by
 refine pE (jd (X:=X) I e r) λa oz333 hr hs up=> ?_
 subst oz333;delta aA at hl;intro Q E q;induction k with
 |int=>
  refine b9 hr λkvs ep hd hv=> ?_
  cases x<;>simp only[aU] at hk<;>first|cases hk|skip
  rename_i i;simp only[ay] at rx;obtain⟨t,rfl⟩:=rx
  refine Nx (knd:=LK W.prog W.w) (k:=i) (by simp[LK,MG]) hd.dictOf (λh' hd' hsb=> ?_) (hsz:=by rw[hv.length,JP];exact nr (JB hl));refine aG hd'.dictAt λep' hd'=> ?_
  obtain⟨S,up⟩:=up h' hsb (let⟨o,_,ho,_⟩:=hd';⟨o,ho⟩);exact q () h' _ μ S ⟨trivial,rfl,up _ ⟨_,ep',hd',(hv.kept (cD.of_stp S)).put fG iI rfl (ry.step S) hd.nodup⟩⟩
 |str=>
  refine b9 hr λkvs ep hd hv=> ?_
  cases x<;>simp only[aU] at hk<;>first|cases hk|skip
  rename_i i;simp only[ay] at rx;obtain⟨t,rfl⟩:=rx
  refine Nx (knd:=Km W.prog W.w) (k:=b8 i) (by simp[Km,L4]) hd.dictOf (λh' hd' hsb=> ?_) (hsz:=by rw[hv.length,JP];exact nr (JB hl));refine aG hd'.dictAt λep' hd'=> ?_
  obtain⟨S,up⟩:=up h' hsb (let⟨o,_,ho,_⟩:=hd';⟨o,ho⟩);exact q () h' _ μ S ⟨trivial,rfl,up _ ⟨_,ep',hd',(hv.kept (cD.of_stp S)).put fF iP ⟨i,rfl,rfl⟩ (ry.step S) hd.nodup⟩⟩
 |tup=>
  refine ak hr λxs hd hv=> ?_
  refine ak (lQ hk rx) λka oz334 ik=> ?_
  subst oz334;refine wpAny_setItem_heap (knd:=eN W.prog W.w) (by show A.units+1+16<cLine;exact JB hu) ik hd (λh' hd' hsb=> ?_) (hsz:=by rw[hv.length,JP];exact nr (JB hl));obtain⟨S,up⟩:=up h' hsb (let⟨o,_,_,ho,_⟩:=hd';⟨o,ho⟩);refine E5 hd λ_ _ _ _ _ _ _ _ hn=> ?_
  exact q () h' _ μ S ⟨trivial,rfl,up _ ⟨_,hd',(hv.kept (cD.of_stp S)).put (rx.step S) (ry.step S) hn⟩⟩
theorem pL(I:au W s.heap μ st){i:Int}{t:Tok}{y:AV}{z:Value}(e:cC st lv=O (.list l))(r:ai s.heap μ lv v)(h0:0≤i)(h1:i<l.length)(ry:ay s.heap μ y z)(hl:l.length<aA):
  Tr W A (Qz v (.int i t) z) X s μ (nO W μ (bU st lv (.list (l.set i.toNat y))) (λ_=>True)∘λ_=>Mx):=by
 refine pE (jd (X:=X) I e r) λa oz335 oz336 hs up=> ?_
 subst oz335;refine b9 oz336 λvs n ho hr=> ?_
 have zz:vs.size=l.length:=hr.length;delta aA at hl;intro Q E q;refine aO (up _ (Lr s.heap a (NU (·.setIfInBounds i.toNat z))) ⟨_,KY (l:=a) (items:=vs) (n:=n) ho _⟩) λS up=> ?_
 have qq:=KY (l:=a) (items:=vs) (n:=n) ho (·.setIfInBounds i.toNat z);refine ki_setAt ho h0 (by lia) (by lia) (q () _ s.toks μ S ⟨trivial,rfl,up _ ⟨_,_,qq,?_⟩⟩);have e1:(vs.setIfInBounds i.toNat z).toList=vs.toList.set i.toNat z:=by simp
 rw[e1];exact(hr.step S).set _ (ry.step S)
theorem bj(h:Heap):h.get? h.objs.size=U:=by
 cases q:h.get? h.objs.size with
 |none=>rfl
 |some o=>exact absurd (Kr q) (Lv _)
theorem po(I:au W s.heap μ st)(m:μ.Mem s.heap.objs.size):False:=by
 refine aG ((I.fresh _ m).2) λo e=> ?_
 rw[bj] at e;cases e
theorem oU(I:au W s.heap μ st){vs:List Value}(r:ax s.heap μ l vs)(hl:l.length<aA):Tr W A (newTuple vs) X s μ (λv h' μ'=>ay h' μ' (.tup l) v∧μ'=μ∧au W h' μ st):=by
 intro Q E k;have hz:vs.length≤Lu:=by rw[r.length,JP];delta aA at hl;exact nr (JB hl)
 have kp:∀b o,s.heap.get? b=O o→(s.heap.push {cls:= .type "tuple",data:= .seq vs.toArray}).get? b=O o:=λb o e=>Jn _ e
 refine wpAny_newTuple (k _ _ s.toks μ (aH.more kp) ⟨⟨_,_,_,_,rfl,λm=> ?_,JG _ rfl,rfl,rfl,?_⟩,rfl,I.more kp⟩) hz
 ·exact po I m
 ·exact r.step (aH.more (X:=X0) kp)
theorem f8{o:Obj}(I:au W s.heap μ st)(hf:o.isFreed=N){vs:List Value}(r:ax s.heap μ l vs):
  aH X s.heap μ (s.heap.push o) μ∧au W (s.heap.push o) μ st∧¬μ.Mem s.heap.objs.size∧(s.heap.push o).get? s.heap.objs.size=O o∧ax (s.heap.push o) μ l vs:=by
 have kp:∀b ob,s.heap.get? b=O ob→(s.heap.push o).get? b=O ob:=λb ob e=>Jn _ e
 exact⟨aH.more kp,I.more kp,λm=>po I m,JG _ hf,r.step (aH.more (X:=X0) kp)⟩
theorem qI(I:au W s.heap μ st){vs:List Value}(r:ax s.heap μ l vs)(hl:l.length<aA):Tr W A (Oa vs) X s μ (λv h' μ'=>ay h' μ' (.lst l) v∧μ'=μ∧au W h' μ st):=by
 intro Q E k;have hz:vs.length≤Lu:=by rw[r.length,JP];delta aA at hl;exact nr (JB hl)
 refine qY (f8 (X:=X) (o:={cls:= .type "list",data:= .seq vs.toArray}) I rfl r) λS I' nm hg rr=> ?_
 exact L5 (k _ _ s.toks μ S ⟨⟨_,_,_,_,rfl,nm,hg,rfl,rfl,rr⟩,rfl,I'⟩) hz
theorem lP(I:au W s.heap μ st){vs:List Value}(r:ax s.heap μ l vs)(hl:l.length<aA):Tr W A (Oa vs) X s μ (λv h' μ'=>ai h' μ' (.loc st.S.length) v∧au W h' μ' {st with S:=st.S++[.list l]}):=by
 intro Q E k;have hz:vs.length≤Lu:=by rw[r.length,JP];delta aA at hl;exact nr (JB hl)
 have kp:∀b ob,s.heap.get? b=O ob→(s.heap.push ({cls:= .type "list",data:= .seq vs.toArray}:Obj)).get? b=O ob:=λb ob e=>Jn _ e
 have K:cD s.heap (s.heap.push ({cls:= .type "list",data:= .seq vs.toArray}:Obj)) μ ⟨μ.g,μ.s++[s.heap.objs.size],μ.off⟩:=⟨λb o _ _ e _ m=>⟨kp _ _ e,λq=>by
  rcases q with q|q
  ·exact m (.inl q)
  ·rcases Ju.mp q with q|q
   ·exact m (.inr q)
   ·rw[Ja.mp q] at e;exact absurd (Kr e) (Lv _)⟩,⟨[],(Je _).symm⟩⟩
 obtain⟨I',S⟩:=I.addS (X:=X) (a:=s.heap.objs.size) (o:= .list l) kp (bj _) ⟨vs.toArray,0,JG _ rfl,ax.to K.imm (by simpa using r)⟩;refine L5 (k _ _ s.toks _ S ⟨⟨_,?_,rfl⟩,I'⟩) hz;rw[←I.ls,JS]
theorem nV(I:au W s.heap μ st){vs:List Value}(r:ax s.heap μ l vs)(hl:l.length<aA):Tr W A (Oa vs) X s μ (λv h' μ'=>ai h' μ' (.ref st.G.length) v∧au W h' μ' {st with G:=st.G++[.con (.list l)]}):=by
 intro Q E k;have hz:vs.length≤Lu:=by rw[r.length,JP];delta aA at hl;exact nr (JB hl)
 have kp:∀b ob,s.heap.get? b=O ob→(s.heap.push ({cls:= .type "list",data:= .seq vs.toArray}:Obj)).get? b=O ob:=λb ob e=>Jn _ e
 have K:cD s.heap (s.heap.push ({cls:= .type "list",data:= .seq vs.toArray}:Obj)) μ ⟨μ.g++[(s.heap.objs.size,U)],μ.s,μ.off⟩:=⟨λb o _ _ e _ m=>⟨kp _ _ e,λq=>by
  rcases q with⟨p,hp,q⟩|q
  ·rcases Ju.mp hp with hp|hp
   ·exact m (.inl ⟨p,hp,q⟩)
   ·rw[Ja.mp hp] at q;rcases q with q|q
    ·simp only at q;rw[q] at e;exact absurd (Kr e) (Lv _)
    ·contradiction
  ·exact m (.inr q)⟩,⟨_,rfl⟩⟩
 obtain⟨I',S⟩:=I.addG (X:=X) (p:=(s.heap.objs.size,U)) (o:= .con (.list l)) kp (λa q=>by
  rcases q with q|q
  ·simp only at q;rw[q];exact bj _
  ·cases q) (by simp) ⟨rfl,vs.toArray,0,JG _ rfl,ax.to K.imm (by simpa using r)⟩
 refine L5 (k _ _ s.toks _ S ⟨⟨(s.heap.objs.size,U),?_,rfl⟩,I'⟩) hz;rw[←I.lg,JS]
theorem jM{h:Heap}(k:KD):dH W.prog W.w (h.push {cls:= .type "dict",data:= .dict #[]}) μ (.dict k []) h.objs.size:=by
 induction k with
 |int=>obtain⟨ep,d⟩:=(OQ (knd:=LK W.prog W.w) h).dictAt;exact⟨[],ep,d,rfl⟩
 |str=>obtain⟨ep,d⟩:=(OQ (knd:=Km W.prog W.w) h).dictAt;exact⟨[],ep,d,rfl⟩
 |tup=>exact⟨[],QH (knd:=eN W.prog W.w) h,rfl⟩
theorem rF(I:au W s.heap μ st)(kd:KD):Tr W A newDict X s μ (λv h' μ'=>ai h' μ' (.loc st.S.length) v∧au W h' μ' {st with S:=st.S++[.dict kd []]}):=by
 intro Q E k;have kp:∀b ob,s.heap.get? b=O ob→(s.heap.push ({cls:= .type "dict",data:= .dict #[]}:Obj)).get? b=O ob:=λb ob e=>Jn _ e
 refine aO (I.addS (X:=X) (a:=s.heap.objs.size) (o:= .dict kd []) kp (bj _) (jM kd)) λI' S=> ?_
 refine Ld (k _ _ s.toks _ S ⟨⟨_,?_,rfl⟩,I'⟩);rw[←I.ls,JS]
theorem nT(I:au W s.heap μ st)(kd:KD):Tr W A newDict X s μ (λv h' μ'=>ai h' μ' (.ref st.G.length) v∧au W h' μ' {st with G:=st.G++[.con (.dict kd [])]}):=by
 intro Q E k;have kp:∀b ob,s.heap.get? b=O ob→(s.heap.push ({cls:= .type "dict",data:= .dict #[]}:Obj)).get? b=O ob:=λb ob e=>Jn _ e
 obtain⟨I',S⟩:=I.addG (X:=X) (p:=(s.heap.objs.size,U)) (o:= .con (.dict kd [])) kp (λa q=>by
  rcases q with q|q
  ·simp only at q;rw[q];exact bj _
  ·cases q) (by simp) ⟨rfl,jM kd⟩
 refine Ld (k _ _ s.toks _ S ⟨⟨(s.heap.objs.size,U),?_,rfl⟩,I'⟩);rw[←I.lg,JS]
end
end
section
variable{W:Wd}{A:Around}{X:Addr→Prop}{s:Shared}{h':Heap}{μ:Mp}{st:St}{lv lw:LV}{v u:Value}{l m:List AV}{b:Bool}{o o':CO}
noncomputable def dM(W:Wd)(st:St)(μ:Mp)(a:AV)(r:Value)(h':Heap)(μ':Mp):Prop:=ay h' μ' a r∧μ'=μ∧au W h' μ st
theorem gJ{t:Sem Value}{i:Int}(I:au W s.heap μ st)(h:∀(Q:Value→Shared→Prop) (E:Value→Shared→Prop),(∀tk tk',Q (.int i tk) {s with toks:=tk'})→wpAny (model W.prog W.w) A t Q E s):Tr W A t X s μ (dM W st μ (.int i)):=
 λQ E k=>h Q E λtk tk'=>k _ s.heap tk' μ (aH.refl X s.heap μ) ⟨⟨tk,rfl⟩,rfl,I⟩
theorem sG{a c:Int}(I:au W s.heap μ st)(ra:ay s.heap μ (.int a) v)(rb:ay s.heap μ (.int c) u):Tr W A (L9 .Add v u) X s μ (dM W st μ (.int (a+c))):=by
 obtain⟨t,rfl⟩:=ra;obtain⟨t',rfl⟩:=rb
 exact gJ I λQ E k=>P3 (k _ _)
theorem tH{a c:Int}(I:au W s.heap μ st)(ra:ay s.heap μ (.int a) v)(rb:ay s.heap μ (.int c) u):Tr W A (L9 .Sub v u) X s μ (dM W st μ (.int (a - c))):=by
 obtain⟨t,rfl⟩:=ra;obtain⟨t',rfl⟩:=rb
 exact gJ I λQ E k=>P4 (k _ _)
theorem rR{a c:Int}(I:au W s.heap μ st)(ra:ay s.heap μ (.int a) v)(rb:ay s.heap μ (.int c) u)(hs:Qf a≤64):Tr W A (L9 .Mult v u) X s μ (dM W st μ (.int (a*c))):=by
 obtain⟨t,rfl⟩:=ra;obtain⟨t',rfl⟩:=rb
 exact gJ I λQ E k=>P5 (k _ _) (QJ hs)
theorem sP{a c:Int}(I:au W s.heap μ st)(ra:ay s.heap μ (.int a) v)(rb:ay s.heap μ (.int c) u)(hc:c≠0):Tr W A (L9 .Mod v u) X s μ (dM W st μ (.int (a.fmod c))):=by
 obtain⟨t,rfl⟩:=ra;obtain⟨t',rfl⟩:=rb
 exact gJ I λQ E k=>mod_int' hc (k _ _)
theorem th{a c:Int}(I:au W s.heap μ st)(ra:ay s.heap μ (.int a) v)(rb:ay s.heap μ (.int c) u)(hc:c≠0)(hs:c.natAbs<1073741824):Tr W A (L9 .FloorDiv v u) X s μ (dM W st μ (.int (a.fdiv c))):=by
 obtain⟨t,rfl⟩:=ra;obtain⟨t',rfl⟩:=rb
 exact gJ I λQ E k=>floordiv_int hc (k _ _) (.inl (PyProof.noPylong_small hs))
theorem r8{a c:Int}(I:au W s.heap μ st)(ra:ay s.heap μ (.int a) v)(rb:ay s.heap μ (.int c) u):Tr W A (L9 .BitAnd v u) X s μ (dM W st μ (.int (O4 a c))):=by
 obtain⟨t,rfl⟩:=ra;obtain⟨t',rfl⟩:=rb
 exact gJ I λQ E k=>and_int (k _ _)
theorem td{a:Int}(I:au W s.heap μ st)(ra:ay s.heap μ (.int a) v):Tr W A (unaryOp .USub v) X s μ (dM W st μ (.int (-a))):=by
 refine aG ra λt oz381=> ?_
 subst oz381;exact gJ I λQ E k=>P6 (k _ _)
theorem Es{a c:Int}(ra:ay s.heap μ (.int a) v)(rb:ay s.heap μ (.int c) u):Tr W A (Kg .Lt v u) X s μ (cX s μ (λr=>r= .bool (QQ (a<c)))):=by
 obtain⟨t,rfl⟩:=ra;obtain⟨t',rfl⟩:=rb
 exact Tr.same (λQ E k=>Qg (k s.toks)) rfl
theorem Ew{a c:Int}(ra:ay s.heap μ (.int a) v)(rb:ay s.heap μ (.int c) u):Tr W A (Kg .Gt v u) X s μ (cX s μ (λr=>r= .bool (QQ (c<a)))):=by
 obtain⟨t,rfl⟩:=ra;obtain⟨t',rfl⟩:=rb
 exact Tr.same (λQ E k=>Qh (k s.toks)) rfl
theorem Fq{a c:Int}(ra:ay s.heap μ (.int a) v)(rb:ay s.heap μ (.int c) u):Tr W A (Kg .GtE v u) X s μ (cX s μ (λr=>r= .bool (QQ (c≤a)))):=by
 obtain⟨t,rfl⟩:=ra;obtain⟨t',rfl⟩:=rb
 exact Tr.same (λQ E k=>Qi (k s.toks)) rfl
theorem FR{a c:Int}(ra:ay s.heap μ (.int a) v)(rb:ay s.heap μ (.int c) u):Tr W A (Kg .LtE v u) X s μ (cX s μ (λr=>r= .bool (QQ (a≤c)))):=by
 obtain⟨t,rfl⟩:=ra;obtain⟨t',rfl⟩:=rb
 exact Tr.same (λQ E k=>Qj (k s.toks)) rfl
theorem qF(I:au W s.heap μ st)(e:ao st lv=O (Z,l))(r:ai s.heap μ lv v)(e2:ao st lw=O (Z,m))(r2:ai s.heap μ lw u)(hl:l.length+m.length<aA):
  Tr W A (L9 .Add v u) X s μ (dM W st μ (.lst (l++m))):=by
 refine aw λMz kz306=> ?_
 refine dJ (bJ I e r) λa oz450 vs n oz451 ho hc hd hr=> ?_
 obtain⟨c1,d1,t1,s1⟩:=oz450;subst oz451;refine dJ (bJ I e2 r2) λc oz452 ws n2 oz453 ho2 hc2 hd2 hr2=> ?_
 obtain⟨c2,d2,t2,s2⟩:=oz452;subst oz453;dsimp only[if_true] at hc hd hc2 hd2;subst hc hd hc2 hd2;have z1:vs.size=l.length:=by rw[←JR];exact hr.length
 have z2:ws.size=m.length:=hr2.length;delta aA at hl;refine kz306 ?_;intro Q E k;refine qY (f8 (X:=X) (o:={cls:= .type "list",data:= .seq (vs++ws)}) I rfl (hr.append hr2)) λS I' nm hg rr=> ?_
 refine Na ⟨_,ho,rfl⟩ ⟨_,ho2,rfl⟩ noFill_list_add seq_list_add PySem.F.slot_list_add PySem.F.entry_list_add (PySem.F.args_list_add_2 _ _) (list_addW a c vs ws n n2 d1 d2 s1 s2 (by rw[z1,z2,JP];exact nr (JB hl))) ⟨ho,ho2,?_⟩;exact k _ _ s.toks μ S ⟨⟨_,_,_,_,rfl,nm,hg,rfl,rfl,by simpa using rr⟩,rfl,I'⟩
theorem sh(I:au W s.heap μ st)(e:ay s.heap μ (.tup l) v)(e2:ay s.heap μ (.tup m) u)(hl:l.length+m.length<aA):
  Tr W A (L9 .Add v u) X s μ (dM W st μ (.tup (l++m))):=by
 have ee:=e;have ee2:=e2;refine kc e λa oz386 vs n oz387 _ ho hc hd hr=> ?_
 obtain⟨c1,d1,t1,s1⟩:=oz386;subst oz387;refine kc e2 λc oz388 ws n2 oz389 _ ho2 hc2 hd2 hr2=> ?_
 obtain⟨c2,d2,t2,s2⟩:=oz388;subst oz389;simp only at hc hd hc2 hd2;subst hc hd hc2 hd2;have z1:vs.size=l.length:=hr.length;have z2:ws.size=m.length:=by exact hr2.length
 delta aA at hl;intro Q E k;by_cases h1:vs.isEmpty=Z
 ·refine Na ⟨_,ho,rfl⟩ ⟨_,ho2,rfl⟩ MX ND LO LD (Lw _ _) (tuple_addW0 a c vs ws n n2 d1 d2 s1 s2 h1) ⟨ho,ho2,?_⟩;have:l=[]:=by
   rw[LX,z1] at h1;exact LF.mp h1
  refine aw λMz kz344=> ?_
  subst this;refine kz344 ?_;exact k _ _ s.toks μ (aH.refl X s.heap μ) ⟨ee2,rfl,I⟩
 ·by_cases h2:ws.isEmpty=Z
  ·refine Na ⟨_,ho,rfl⟩ ⟨_,ho2,rfl⟩ MX ND LO LD (Lw _ _) (tuple_addW1 a c vs ws n n2 d1 d2 s1 s2 h1 h2) ⟨ho,ho2,?_⟩;have:m=[]:=by
    rw[LX,z2] at h2;exact LF.mp h2
   subst this;rw[Je] at k;exact k _ _ s.toks μ (aH.refl X s.heap μ) ⟨ee,rfl,I⟩
  ·refine qY (f8 (X:=X) (o:={cls:= .type "tuple",data:= .seq (vs++ws)}) I rfl (hr.append hr2)) λS I' nm hg rr=> ?_
   refine Na ⟨_,ho,rfl⟩ ⟨_,ho2,rfl⟩ MX ND LO LD (Lw _ _) (tuple_addW2 a c vs ws n n2 d1 d2 s1 s2 h1 h2 (by rw[z1,z2,JP];exact nr (JB hl))) ⟨ho,ho2,?_⟩;exact k _ _ s.toks μ S ⟨⟨_,_,_,_,rfl,nm,hg,rfl,rfl,by simpa using rr⟩,rfl,I'⟩
theorem sU(I:au W s.heap μ st)(e:ao st lv=O (b,l))(r:ai s.heap μ lv v)(hl:l.length<aA):Tr W A (call (.type "list") [v]) X s μ (dM W st μ (.lst l)):=by
 refine dJ (bJ I e r) λa o vs n oz390 ho hc hd hr=> ?_
 subst oz390;have z1:vs.size=l.length:=hr.length;delta aA at hl;intro Q E k;refine call_list_seq a (T:=if b then "list" else "tuple") (by cases b<;>simp) ho hc hd (λh' c' kp hg=> ?_) (by rw[z1,JP];exact nr (JB hl));have S:aH X s.heap μ h' μ:=aH.more kp;exact k _ h' s.toks μ S ⟨⟨_,_,_,_,rfl,λm=>po I m,hg,rfl,rfl,hr.step S⟩,rfl,I.more kp⟩
theorem rC(I:au W s.heap μ st)(e:ao st lv=O (b,l))(r:ai s.heap μ lv v)(hl:l.length<aA):Tr W A (call (.type "tuple") [v]) X s μ (dM W st μ (.tup l)):=by
 refine dJ (bJ I e r) λa o vs n oz391 ho hc hd hr=> ?_
 subst oz391;have z1:vs.size=l.length:=by exact hr.length
 delta aA at hl;intro Q E k;induction b with
 |true=>
  refine call_tuple_list ⟨o,ho,hc,n,hd⟩ (λh' kp=> ?_) (by rw[z1,JP];exact nr (JB hl));have kp':∀b ob,s.heap.get? b=O ob→(h'.push ({cls:= .type "tuple",data:= .seq vs}:Obj)).get? b=O ob:=λb ob e=>Jn _ (kp _ _ e)
  have S:aH X s.heap μ (h'.push ({cls:= .type "tuple",data:= .seq vs}:Obj)) μ:=aH.more kp';refine k _ _ s.toks μ S ⟨⟨_,_,_,_,rfl,λm=> ?_,JG _ rfl,rfl,rfl,hr.step S⟩,rfl,I.more kp'⟩;refine aG ((I.fresh _ m).2) λob e=> ?_
  have:=kp _ _ e;rw[bj] at this;cases this
 |false=>
  refine call_tuple_same ⟨o,ho,hc,n,hd⟩ (k _ s.heap s.toks μ (aH.refl X s.heap μ) ⟨?_,rfl,I⟩);induction lv with
  |val a'=>
   cases a'<;>simp only[ao] at e<;>first|cases e|skip
   ·exact r
  |loc n=>
   simp only[ao] at e;split at e<;>cases e
  |ref n=>
   simp only[ao] at e;split at e<;>cases e
  |tab a=>simp only[ao] at e;cases e
noncomputable def bT(hi:Int)(n:Nat):Nat:=if hi<0 then(hi+n).toNat else min hi.toNat n
theorem vp(hi:Int)(n:Nat):bT hi n≤n:=by delta bT;split<;>omega
theorem vx(hi:Int)(n:Nat):Lq U (O hi) 1 (n:Int)=((0:Int),(bT hi n:Int)):=by
 delta Lq bT;have h1:¬((1:Int)<0):=by decide
 dsimp only[h1,if_false]
 congr 1
 split<;>omega
theorem uR(k:Nat):KM (0:Int) (k:Int) 1=k:=by
 delta KM;have h1:(1:Int)>0:=by decide
 simp only[h1,if_true,PM];split<;>omega
theorem r9{sl:Addr}{hi:Int}{n:Nat}{t:Tok}{prog:Program}{w:World}{E:Value→Shared→Prop}{Q:Int×Int×Nat→Shared→Prop}(hs:s.heap.IsSliceOf sl .none (.int hi t) .none)(h:Q ((0:Int),1,bT hi n) s):
  wpAny (model prog w) A (O5 (.ref sl) (pure (n:Int))) Q E s:=by
 refine cG (id hs) λos hos hcs hds=> ?_
 refine Jc (Jc (OK hos hds (x:= .none) rfl (Jc (OK hos hds (x:= .int hi t) rfl (Jc (OK hos hds (x:= .none) rfl (Jg ?_)))))));refine Jc (Jg ?_);refine Jc (Jg ?_);refine Jc (slicePart_int (Jc (Jg ?_)));show wpAny _ _ (match Lq U (O hi) 1 (n:Int) with|(lo,hi)=>pure (lo,(1:Int),KM lo hi 1)) _ _ s;rw[vx];show wpAny _ _ (pure ((0:Int),(1:Int),KM (0:Int) (bT hi n:Int) 1)) _ _ s;rw[uR];exact Jg h
theorem g6{α:Type}(l:List α):∀k:Nat,k≤l.length→(JE k).filterMap (λj=>l[j]?)=l.take k
 |0,_=>by rfl
 |k+1,h=>by
  rw[List.range_succ,List.filterMap_append,g6 l k (JB (by assumption)),List.take_add_one];simp[Jw (show k<l.length by assumption)]
theorem An(xs:Array Value)(k:Nat)(hk:k≤xs.size):((JE k).filterMap λ(j:Nat)=>xs[((0:Int)+(j:Int)*1).toNat]?).toArray=(xs.toList.take k).toArray:=by
 congr 1
 have e:(λ(j:Nat)=>xs[((0:Int)+(j:Int)*1).toNat]?)=λj=>xs.toList[j]? :=by
  funext j
  have:((0:Int)+(j:Int)*1).toNat=j:=by simp
  rw[this,JI]
 rw[e];have hk':k≤xs.toList.length:=by simpa using hk
 exact g6 xs.toList k hk'
theorem kh{sl:Addr}{hi:Int}{t:Tok}(I:au W s.heap μ st)(e:ay s.heap μ (.tup l) v)(hs:s.heap.IsSliceOf sl .none (.int hi t) .none)(hl:l.length<aA):
  Tr W A (Mn v (.ref sl)) X s μ (dM W st μ (.tup (l.take (bT hi l.length)))):=by
 have ee:=e;refine kc e λa o vs n oz392 nm ho hc hd hr=> ?_
 subst oz392;have z:vs.size=l.length:=hr.length;delta aA at hl;have ht:IsTup s.heap a vs:=⟨o,ho,hc,n,hd⟩;refine cG (id hs) λos hos hcs hds=> ?_
 have hTs:s.TypeIs (.ref sl) "slice":=⟨os,hos,hcs⟩;intro Q E k;delta Mn
 try with_reducible refine KP ?_
 first|refine Jc (Jg ?_)|skip
 refine Jc (wpAny_sequenceKey ht.typeIs (by decide) ?_);refine Jc (wpAny_callSpecial?_slot (name:=Jq "__getitem__") ht.typeIs NV
  (MV NV ht.typeIs entry_tuple_getitem ?_ (args_tuple_getitem _ _)))
 show wpAny _ _ (Mw (.ref a)>>=_) _ _ s;refine Jc (tupleItemsOf_ ht ?_);refine Jc (PN hTs ?_);refine Jc (r9 hs ?_);have fresh:∀B:Prop,(Q (.ref s.heap.objs.size) {s with heap:=s.heap.push {cls:= .type "tuple",data:= .seq (vs.toList.take (bT hi vs.size)).toArray}}→B)→B:=λB g=>g (by
  rw[z];refine qY (f8 (X:=X) (o:={cls:= .type "tuple",data:= .seq (vs.toList.take (bT hi l.length)).toArray}) I rfl (hr.take (bT hi l.length))) λS I' nm' hg rr=> ?_
  exact k _ _ s.toks μ S ⟨⟨_,_,_,_,rfl,nm',hg,rfl,rfl,by simpa using rr⟩,rfl,I'⟩)
 have sz:sizeOk (.seq (vs.toList.take (bT hi vs.size)).toArray):=by
  show(vs.toList.take (bT hi vs.size)).toArray.size≤Lu;rw[Ob,Kv,JR,JP]
  lia
 show wpAny _ _ (if((0:Int)==0&&(1:Int)==1&&(bT hi vs.size)==vs.size)=Z then _ else _) _ _ s;by_cases hw:((0:Int)==0&&(1:Int)==1&&(bT hi vs.size)==vs.size)=Z
 ·rw[if_pos hw];have hw':bT hi l.length=l.length:=by
   rw[z] at hw;simpa using hw
  rw[hw',Kw] at k;have done:Q (.ref a) s:=k _ s.heap s.toks μ (aH.refl X s.heap μ) ⟨ee,rfl,I⟩;refine Jc ?_;refine Jc (PN ht.typeIs ?_);refine Jg ?_
  first
   |exact Jc (M8 (Jc (Jg (Jg ⟨_,rfl,Jg done⟩))))
   |exact Jc (M8 (Jg ⟨_,rfl,Jg done⟩))
   |exact Jc (Jc (M8 (Jg (Jg ⟨_,rfl,Jg done⟩))))
 ·rw[if_neg hw,An vs _ (vp _ _)];refine fresh _ λdone=> ?_
  first
   |exact Jc (m:=Lx _) (Ld (Jg ⟨_,rfl,Jg done⟩) sz)
   |exact Jc (m:=Lx _) (Ld (Jc (Jg (Jg ⟨_,rfl,Jg done⟩))) sz)
   |exact Jc (Jc (m:=Lx _) (Ld (Jg (Jg ⟨_,rfl,Jg done⟩)) sz))
theorem iB{sl:Addr}{k:Nat}{t:Tok}(I:au W s.heap μ st)(e:ay s.heap μ (.tup l) v)(hs:s.heap.IsSliceOf sl (.int k t) .none .none)(h1:1≤k)(hk:k≤l.length)(hl:l.length<aA):
  Tr W A (Mn v (.ref sl)) X s μ (dM W st μ (.tup (l.drop k))):=by
 simp only[ay] at e;refine kc e λa o vs n oz393 nm ho hc hd hr=> ?_
 subst oz393;have z:vs.size=l.length:=by exact hr.length
 delta aA at hl;intro Q E q;refine qY (f8 (X:=X) (o:={cls:= .type "tuple",data:= .seq (vs.toList.drop k).toArray}) I rfl (hr.drop k)) λS I' nm' hg rr=> ?_
 exact getItem_tuple_from ⟨o,ho,hc,n,hd⟩ hs h1 (by omega) (q _ _ s.toks μ S ⟨⟨_,_,_,_,rfl,nm',hg,rfl,rfl,by simpa using rr⟩,rfl,I'⟩) (by rw[z,JP];exact nr (JB hl))
theorem oE(vs:Array Value)(k:Nat):(PC vs U (O (k:Int)) U).toList=vs.toList.take (min k vs.size):=by
 have hb:P7 U (O (k:Int)) U vs.size=((0:Int),((min k vs.size:Nat):Int),(1:Int)):=by
  unfold P7;have h1:(1:Int)>0:=by decide
  simp only[Option.getD_none,h1,if_true]
  congr 2
  rw[if_neg (by simp)];omega
 unfold PC;rw[hb];have hr:O6 (0:Int) ((min k vs.size:Nat):Int) 1=JE (min k vs.size):=by
  unfold O6;have h1:(1:Int)>0:=by decide
  simp only[h1,if_true,PM];have e:(if(0:Int)<((min k vs.size:Nat):Int) then((min k vs.size:Nat):Int) - 0+1 - 1 else 0).toNat=min k vs.size:=by split<;>omega
  rw[e];have e2:(λ(j:Nat)=>((0:Int)+1*(j:Int)).toNat)=id:=by funext j;simp
  rw[e2,List.map_id]
 show((O6 (0:Int) ((min k vs.size:Nat):Int) 1).filterMap (vs[·]?))=_;rw[hr];have e3:(λx:Nat=>vs[x]?)=λx=>vs.toList[x]? :=by funext x;rw[JI]
 rw[e3];exact g6 _ _ (by rw[JR];exact Nat.min_le_right _ _)
theorem iZ{sl:Addr}{k:Nat}{t:Tok}(I:au W s.heap μ st)(e:ao st lv=O (Z,l))(r:ai s.heap μ lv v)(hs:s.heap.IsSliceOf sl .none (.int k t) .none)(hl:l.length<aA):
  Tr W A (Mn v (.ref sl)) X s μ (dM W st μ (.lst (l.take (min k l.length)))):=by
 refine dJ (bJ I e r) λa o vs n oz394 ho hc hd hr=> ?_
 subst oz394;have z:vs.size=l.length:=hr.length;delta aA at hl;intro Q E q;refine qY (f8 (X:=X) (o:={cls:= .type "list",data:= .seq (PC vs U (O (k:Int)) U)}) I rfl (hr.take (min k vs.size))) λS I' nm' hg rr=> ?_
 exact wpAny_getItem_list_slice ⟨o,ho,hc,n,hd⟩ hs (.none) (.int _ _) (.none) (by decide) (q _ _ s.toks μ S ⟨⟨_,_,_,_,rfl,nm',hg,rfl,rfl,by rw[oE,←z];exact rr⟩,rfl,I'⟩) (by rw[z,JP];exact nr (JB hl))
end
section
set_option tactic.hygienic true
noncomputable def tc(A:Around)(k:Nat):Prop:=A.handled=U∧A.depth+4*k+4<1000∧A.units+16*k+60<9900
theorem tc.rl{A:Around}{k:Nat}(r:tc A k):A.depth<O7:=by show _<1000;have:=r.2.1;omega
noncomputable def bx(h:Heap)(μ:Mp):List LV→List Value→Prop
 |[],vs=>vs=[]
 |a::l,vs=>∃v r,vs=v::r∧ai h μ a v∧bx h μ l r
section
variable{h h':Heap}{μ μ':Mp}{X:Addr→Prop}
theorem bx.length:∀{l:List LV} {vs:List Value},bx h μ l vs→vs.length=l.length
 |[],_,r=>by subst r;rfl
 |_::_,_,r=>by
  refine aX r λv rest oz471 _ h2=> ?_
  subst oz471;simp[bx.length h2]
theorem bx.step(x:aH X h μ h' μ'):∀{l:List LV} {vs:List Value},bx h μ l vs→bx h' μ' l vs
 |[],_,r=>r
 |_::_,_,⟨v,rest,e,q,t⟩=>⟨v,rest,e,q.step x,bx.step x t⟩
theorem bx.get:∀{l:List LV} {vs:List Value} {i:Nat} {a:LV},bx h μ l vs→l[i]? =O a→∃v,vs[i]? =O v∧ai h μ a v
 |[],_,_,_,_,e=>by simp at e
 |_::_,_,0,_,r,e=>by
  refine aX r λv rest oz472 h1 _=> ?_
  subst oz472;simp only[JM,JF] at e;subst e;exact⟨v,rfl,h1⟩
 |_::_,_,i+1,_,r,e=>by
  refine aX r λv rest oz473 _ h2=> ?_
  subst oz473;simp only[J1] at e ⊢;exact bx.get h2 e
theorem bx.append:∀{l l':List LV} {vs vs':List Value},bx h μ l vs→bx h μ l' vs'→bx h μ (l++l') (vs++vs')
 |[],_,_,_,r,r'=>by subst r;exact r'
 |_::_,_,_,_,r,r'=>by
  refine aX r λv rest oz474 h1 h2=> ?_
  subst oz474;exact⟨v,rest++_,rfl,h1,bx.append h2 r'⟩
theorem ax.toLs:∀{l:List AV} {vs:List Value},ax h μ l vs→bx h μ (l.map LV.val) vs
 |[],_,r=>r
 |_::_,_,r=>by
  refine aX r λv rest oz475 h1 h2=> ?_
  subst oz475;exact⟨v,rest,rfl,h1,ax.toLs h2⟩
theorem aH.from0{h₁:Heap}(k:∀b o,h.get? b=O o→h₁.get? b=O o)(x:aH X h₁ μ h' μ')(n:∀a,X a→h.get? a=U):aH X0 h μ h' μ':=
 ⟨x.g,x.s,λb o e m _=>x.keep b o (k b o e) m (λq=>by rw[n b q] at e;cases e),λb o vs n e d m=>x.imm b o vs n (k b o e) d m,λb o e=>x.alive b o (k b o e),λa m=>(x.new a m).imp id (λq=>LI.mpr λo e=>by rw[k a o e] at q;cases q),x.off,λi b o hi e q=>x.hid i b o hi e (k b o q)⟩
theorem Mp.cut_mem{μ:Mp}{n:Nat}{a:Addr}(m:(⟨μ.g,μ.s.take (μ.off+n),μ.off⟩:Mp).Mem a):μ.Mem a:=m.elim .inl λq=> .inr (Nq q)
theorem aH.cut{n:Nat}(x:aH X h μ h' μ')(hn:μ.s.length≤μ.off+n):aH X h μ h' ⟨μ'.g,μ'.s.take (μ'.off+n),μ'.off⟩:=by
 refine⟨x.g,?_,x.keep,x.imm,x.alive,λa m=>x.new a (Mp.cut_mem m),x.off,x.hid⟩;refine aG x.s λy hy=> ?_
 exact⟨y.take (μ.off+n - μ.s.length),by simp only;rw[x.off,hy,List.take_append,K3 hn]⟩
theorem ay.cut{a:AV}{v:Value}{n:Nat}(r:ay h μ a v):ay h ⟨μ.g,μ.s.take (μ.off+n),μ.off⟩ a v:=r.to λ_ _ _ _ e _ m=>⟨e,λq=>m (Mp.cut_mem q)⟩
theorem ai.cut{a:LV}{v:Value}{n:Nat}(r:ai h μ a v)(hl:∀i,a= .loc i→i<n):ai h ⟨μ.g,μ.s.take (μ.off+n),μ.off⟩ a v:=by
 induction a with
 |val a=>exact ay.cut r
 |loc i=>
  refine ak r λb hb e=> ?_
  exact⟨b,by
   show(μ.s.take (μ.off+n))[μ.off+i]? =O b;rw[KQ (by have:=hl i rfl;exact J8 this _)];exact hb,e⟩
 |ref i=>exact r
 |tab a=>exact r
end
noncomputable def uh(n:Nat)(st:St):LV→Option (LV×St)
 | .loc i=>match st.S[i]? with
  |some (.list l)=>if n≤i then O (.val (.lst l),{st with S:=st.S.take n}) else U
  |some (.dict _ _)=>O (.loc i,st)
  |none=>U
 |r=>O (r,{st with S:=st.S.take n})
section
variable{W:Wd}{A:Around}{X:Addr→Prop}{s:Shared}{h h':Heap}{μ μ':Mp}{st st':St}{lv lv':LV}{v:Value}
theorem qx{μ:Mp}(nd:μ.all.Nodup){n i:Nat}{a:Addr}(e:μ.s[μ.off+i]? =O a)(hi:n≤i):¬(⟨μ.g,μ.s.take (μ.off+n),μ.off⟩:Mp).Mem a:=λm=>by
 have n2:=(Kb.mp nd);rcases m with⟨p,hp,q⟩|m
 ·refine n2.2.2 a (KW.mpr ⟨p,hp,?_⟩) a (Jf e) rfl;rcases q with rfl|q
  ·exact .head _
  ·exact .tail _ (by rw[q];exact .head _)
 ·obtain⟨j,hj,e2⟩:=Ma.mp m;have hj':j<μ.off+n:=by rw[Kv] at hj;omega
  have e3:μ.s[j]? =O a:=by rw[List.getElem_take] at e2;rw[Ji];exact⟨_,e2⟩
  have:=(Lc (Ji.mp e).1 n2.2.1).mp (e.trans e3.symm);omega
theorem C0{n:Nat}(e:uh n st lv=O (lv',st'))(I:au W h' μ' st)(r:ai h' μ' lv v)(S:aH X h μ h' μ')(hn:μ.s.length≤μ.off+n):
  ∃μ'',aH X h μ h' μ''∧au W h' μ'' st'∧ai h' μ'' lv' v:=by
 induction lv with
 |loc i=>
  simp only[uh] at e;split at e
  ·rename_i l hl;split at e
   ·rename_i hi;cases e;refine⟨_,S.cut hn,I.cut n,?_⟩;refine ak r λa ha oz476=> ?_
    subst oz476;refine b9 (I.os _ _ _ hl ha) λvs k ho hr=> ?_
    exact⟨a,_,vs,k,rfl,qx I.nd ha hi,ho,rfl,rfl,hr.to λ_ _ _ _ e _ m=>⟨e,λq=>m (Mp.cut_mem q)⟩⟩
   ·contradiction
  ·cases e;exact⟨μ',S,I,r⟩
  ·contradiction
 |val a=>cases e;exact⟨_,S.cut hn,I.cut n,r.cut λ_ q=>by cases q⟩
 |ref a=>cases e;exact⟨_,S.cut hn,I.cut n,r.cut λ_ q=>by cases q⟩
 |tab a=>cases e;exact⟨_,S.cut hn,I.cut n,r.cut λ_ q=>by cases q⟩
end
noncomputable def Ct(W:Wd)(A:Around)(f:Value)(vs:List Value)(s:Shared)(μ:Mp)(P:Value→Heap→Mp→Prop):Prop:=
 ∀R:Result→Shared→Prop,(∀v h' tk' μ',aH X0 s.heap μ h' μ'→P v h' μ'→R (.ok (.ret v)) {s with heap:=h',toks:=tk'})→Oc (model W.prog W.w) A (.call f ⟨vs,[]⟩) R s
theorem Ct.tr{W:Wd}{A:Around}{X:Addr→Prop}{f:Value}{vs:List Value}{s:Shared}{μ:Mp}{P:Value→Heap→Mp→Prop}(h:Ct W A f vs s μ P):Tr W A (call f vs) X s μ P:=
 λQ E q=>wpAny_call (h _ λv h' tk' μ' S p=>q v h' tk' μ' S.at0 p)
noncomputable def dF(W:Wd)(env:Env)(nm:List Str)(o:Option LV)(ρ':List (Option LV))(st':St)(f:Flow)(h':Heap)(μ':Mp):Prop:=
 au W h' μ' st'∧match o with
 |none=>f= .next∧am W env nm ρ' h' μ'
 |some lv=>∃v,f= .ret v∧ai h' μ' lv v
structure CG(W:Wd)(a:Addr)(nm:List Str)(np:Nat)(dv:List AV)(body:List Stmt)(sc:Scope):Prop where
 obj:∃oc od sl fd,W.K.lookup a=O ⟨oc,od,.func fd,sl⟩∧fd.scope=sc∧fd.globals=JY∧fd.builtins=LW∧fd.closure=[]∧fd.body= .stmts body∧codeIn W.K fd.code fd.qualname=Z∧
  ∀(s:Shared) (vs:List Value),W.K.In s.heap→vs.length+dv.length=np→∃ds,ax W.B vZ dv ds∧BindsTo s fd ⟨vs,[]⟩ ((nm.take np).zip (vs++ds))
 co:sc.isCoroutine=N
 gen:sc.isGenerator=N
 kind:sc.kind= .function
 npl:np≤nm.length
 par:∀x∈nm.take np,sc.names.lookup x=O .local∨sc.names.lookup x=O .cell
 plain:∀x∈nm,(x==("__debug__":Str))=N∧(x==("__classdict__":Str))=N
 nd:nm.Nodup
noncomputable def aM(n:Nat)(as:List LV)(dv:List AV):List (Option LV):=(as++dv.map LV.val).map O++List.replicate (n - (as.length+dv.length)) U
theorem cJ:∀{names:List (Str×Js)} {n:Nat} {acc:List (Str×Addr)} {x:Str},((x,NE)∈names∨(acc.lookup x).isSome=Z)→((OC n names acc).lookup x).isSome=Z
 |[],n,acc,x,h=>by
  refine aw λMz kz329=> ?_
  rcases h with h|h
  ·cases h
  ·refine kz329 ?_;exact h
 |(y,k)::r,n,acc,x,h=>by
  have keep:∀z c,(acc.lookup x).isSome=Z→(((z,c)::acc:List (Str×Addr)).lookup x).isSome=Z:=λz c q=>by
   rw[KI];cases x==z<;>simp[q]
  unfold OC;split
  ·refine cJ ?_;refine aw λMz kz330=> ?_
   rcases h with h|h
   ·rcases Jh.mp h with e|h
    ·cases e;refine kz330 ?_;exact .inr (by simp[KI])
    ·refine kz330 ?_;exact .inl h
   ·refine kz330 ?_;exact .inr (keep _ _ h)
  ·rename_i hk;refine cJ ?_;refine aw λMz kz331=> ?_
   rcases h with h|h
   ·rcases Jh.mp h with e|h
    ·cases e;exact absurd rfl hk
    ·refine kz331 ?_;exact .inl h
   ·refine kz331 ?_;exact .inr h
theorem mT{ko:Str→Option Js}:∀{binds:List (Str×Value)} {m:Str→Option Value} {x:Str},(∀v,(x,v)∉binds)→bindL ko binds m x=m x
 |[],_,_,_=>rfl
 |(n,v)::r,m,x,h=>by
  unfold bindL;rw[mT λu q=>h u (.tail _ q)];have:x≠n:=λq=>h v (q▸.head _)
  split<;>simp[this]
theorem mZ{ko:Str→Option Js}:∀{binds:List (Str×Value)} {m:Str→Option Value} {x:Str},(∀v,(x,v)∉binds)→bindC ko binds m x=m x
 |[],_,_,_=>rfl
 |(n,v)::r,m,x,h=>by
  unfold bindC;rw[mZ λu q=>h u (.tail _ q)];have:x≠n:=λq=>h v (q▸.head _)
  split<;>simp[this]
theorem mR{ko:Str→Option Js}:∀{binds:List (Str×Value)} {m:Str→Option Value} {x:Str} {v:Value},(binds.map (·.1)).Nodup→(x,v)∈binds→ko x=O .local→bindL ko binds m x=O v
 |(n,u)::r,m,x,v,hn,h,hk=>by
  rw[JT,Lz] at hn;unfold bindL;rcases Jh.mp h with e|h
  ·cases e;rw[mT λu q=>hn.1 (Jv.mpr ⟨_,q,rfl⟩),if_pos hk,if_pos rfl]
  ·exact mR hn.2 h hk
theorem mU{ko:Str→Option Js}:∀{binds:List (Str×Value)} {m:Str→Option Value} {x:Str} {v:Value},(binds.map (·.1)).Nodup→(x,v)∈binds→ko x≠O .local→bindC ko binds m x=O v
 |(n,u)::r,m,x,v,hn,h,hk=>by
  rw[JT,Lz] at hn;unfold bindC;rcases Jh.mp h with e|h
  ·cases e;rw[mZ λu q=>hn.1 (Jv.mpr ⟨_,q,rfl⟩),if_neg hk,if_pos rfl]
  ·exact mU hn.2 h hk
noncomputable def XF(env:Env)(a:Addr):Prop:=a=env.locals∨∃x,env.cells.lookup x=O a
theorem bm{h:Heap}{a:Addr}(e:h.objs.size≤a):h.get? a=U:=by
 cases q:h.get? a with
 |none=>rfl
 |some o=>exact absurd (Kr q) (M9.mpr e)
section
variable{W:Wd}{A:Around}{s:Shared}{μ:Mp}{st st1 st2:St}{a:Addr}{nm:List Str}{np:Nat}{dv:List AV}{body:List Stmt}{sc:Scope}{as:List LV}{vs:List Value}{o:Option LV}{ρ':List (Option LV)}{r:LV}
theorem tK(F:CG W a nm np dv body sc)(hA:A.depth<O7)(I:au W s.heap μ st)(hv:bx s.heap μ as vs)(hn:as.length+dv.length=np)
  (hb:∀(env:Env) (s1:Shared),am W env nm (aM nm.length as dv) s1.heap μ→au W s1.heap μ st→env.scope=sc→
   Tr W (A.deeper env) (execs body env) (XF env) s1 μ (dF W env nm o ρ' st1))
  (he:uh st.S.length st1 (o.getD (.val .none))=O (r,st2)):
  Ct W A (.ref a) vs s μ (λv h' μ'=>ai h' μ' r v∧au W h' μ' st2):=by
 refine Ho F.obj λoc od sl fd ho hsc hg hbi hcl hbo hcd hbind=> ?_
 have XK:W.K.In s.heap:=W.XB.keeps I.base;obtain⟨ds,hds,hbind⟩:=hbind s vs XK (by rw[hv.length];exact hn);have hlen:(nm.take np).length=(vs++ds).length:=by rw[Kv,Jk,hv.length,hds.length,hn];exact OR F.npl
 have keys:(((nm.take np).zip (vs++ds)).map (·.1))=nm.take np:=by rw[←List.unzip_fst,List.unzip_zip (by exact hlen)]
 have knd:(((nm.take np).zip (vs++ds)).map (·.1)).Nodup:=by rw[keys];exact F.nd.sublist (N9 _ _)
 intro R q;refine codeAny_call_function hA (XK _ _ ho) rfl (by rw[hsc];exact F.co) (by rw[hsc];exact F.gen) hbo (codeRec_of XK hcd) (hbind _ _ _ _ ?_);rw[hcl];refine wpAny_newFunctionEnv_cells (by rw[hsc];exact F.kind) (λx hx=> ?_) λenv henv s1 x=> ?_
 ·have:x.1∈nm.take np:=by rw[←keys];exact Jv.mpr ⟨x,hx,rfl⟩
  rw[hsc];rcases F.par _ this with q|q
  ·exact .inl q
  ·exact .inr ⟨q,cJ (.inl (J9 q))⟩
 have hscope:env.scope=sc:=by rw[henv];exact hsc
 have hkind:∀y,env.kindOf y=sc.names.lookup y:=λy=>by show env.scope.names.lookup y=_;rw[hscope]
 have hloc:env.locals=s.heap.objs.size:=by rw[henv];rfl
 have I1:au W s1.heap μ st:=I.more x.toInCall.keep;have notM:∀b,s.heap.objs.size≤b→¬μ.Mem b∧W.B.get? b=U:=by
  intro b hb;refine⟨λm=> ?_,?_⟩
  ·refine aG ((I.fresh _ m).2) λob e=> ?_
   rw[bm hb] at e;cases e
  ·cases q:W.B.get? b with
   |none=>rfl
   |some o=>
    have:=I.base _ _ q;rw[bm hb] at this;cases this
 have cabove:∀y c,env.cells.lookup y=O c→s.heap.objs.size≤c:=λy c e=>by
  have:=x.above y c (J9 e);rw[hloc] at this;exact JB this
 have Fr:am W env nm (aM nm.length as dv) s1.heap μ:=by
  refine⟨by rw[hscope];exact F.kind,by rw[henv];exact hg,by rw[henv];exact hbi,⟨_,x.toInCall.ns,λi y lv e1 e2=> ?_⟩,F.plain,F.nd,by rw[hloc];exact notM _ (JC _),λy c e=> ?_,λy z c e1 e2=> ?_,λy e=> ?_⟩
  ·have hi:i<as.length+dv.length:=by
    unfold aM at e2;by_cases hi:i<as.length+dv.length
    ·exact hi
    ·rw[Jx (by simp;exact M9.mp hi)] at e2;have:=Jf e2;rw[List.mem_replicate] at this;cases this.2
   have e3:(as++dv.map LV.val)[i]? =O lv:=by
    unfold aM at e2;rw[Jz (by simp;exact hi),JK] at e2;refine ak (Jr.mp e2) λz hz e=> ?_
    cases e;exact hz
   have rr:bx s.heap μ (as++dv.map LV.val) (vs++ds):=hv.append ((hds.to λb o _ _ e _ _=>⟨I.base b o e,λm=>by rw[(I.fresh b m).1] at e;cases e⟩).toLs);refine ak (rr.get e3) λv hv' rv=> ?_
   have hy:(nm.take np)[i]? =O y:=by rw[KQ (by omega)];exact e1
   have hm:(y,v)∈(nm.take np).zip (vs++ds):=Jf (i:=i) (by rw[List.getElem?_zip_eq_some];exact⟨hy,hv'⟩);refine⟨v,rv.step (aH.more (X:=X0) x.toInCall.keep),?_⟩;rcases F.par y (Jf hy) with q|q
   ·exact .inl ⟨by rw[hkind];exact q,mR knd hm (by rw[hkind];exact q)⟩
   ·have hc:(env.cells.lookup y).isSome=Z:=by
     rw[henv];show((OC _ fd.scope.names []).lookup y).isSome=Z;exact(hsc).symm▸(cJ (.inl (J9 q)))
    refine aG (KO.mp hc) λc hc=> ?_
    have:=x.cell y c hc;rw[mU knd hm (by rw[hkind,q];decide)] at this;exact .inr ⟨.inl (by rw[hkind];exact q),c,hc,this⟩
  ·exact⟨(notM _ (cabove y c e)).1,(notM _ (cabove y c e)).2,_,x.cell y c e⟩
  ·exact PySem.name_of_addr x.apart (J9 e1) (J9 e2)
  ·rw[hkind] at e;rw[henv];show((OC _ fd.scope.names []).lookup y).isSome=Z;exact(hsc).symm▸(cJ (.inl (J9 e)))
 refine⟨(W.lim.keeps I.base).keeps x.toInCall.keep,codeAny_func ?_⟩;refine te x.toInCall.same λh1 tk1 hs1=> ?_
 refine hb env s1 Fr I1 hscope _ _ λf h' tk' μ' S p=> ?_
 have S0:aH X0 s.heap μ h' μ':=aH.from0 x.toInCall.keep S λb hX=>by
  rcases hX with rfl|⟨y,hy⟩
  ·rw[hloc];exact bm (JC _)
  ·exact bm (cabove y b hy)
 have bv:∀v,ai h' μ' (o.getD (.val .none)) v→R (.ok (.ret v)) {s1 with heap:=h',toks:=tk'}:=λv rv=>by
  obtain⟨μ2,S2,I2,r2⟩:=C0 he p.1 rv S0 (by rw[I.ls];exact JC _);have:=q v h' tk' μ2 S2 ⟨r2,I2⟩;rw[hs1];exact this
 induction o with
 |none=>
  refine aO p.2 λoz477 _=> ?_
  subst oz477;exact bv _ rfl
 |some lv=>
  refine ak p.2 λv oz478 rv=> ?_
  subst oz478;exact bv _ rv
end
end
section
set_option tactic.hygienic true
structure mf(W:Wd)(I:Addr)(h:Heap)(μ:Mp):Prop where
 obj:∃o,h.get? I=O o∧∀vs n,o.data≠.seq vs n
 mem:¬μ.Mem I
 base:W.B.get? I=U
section
variable{W:Wd}{h h' h₁:Heap}{μ μ':Mp}{I:Addr}{st:St}{X Y:Addr→Prop}{env:Env}{nm:List Str}{ρ:List (Option LV)}
theorem aH.shed(k:∀b o,h.get? b=O o→h₁.get? b=O o)(x:aH Y h₁ μ h' μ')(n:∀a,Y a→X a∨h.get? a=U):aH X h μ h' μ':=
 ⟨x.g,x.s,λb o e m nx=>x.keep b o (k b o e) m (λq=>(n b q).elim nx λz=>by rw[z] at e;cases e),λb o vs n e d m=>x.imm b o vs n (k b o e) d m,λb o e=>x.alive b o (k b o e),λa m=>(x.new a m).imp id (λq=>LI.mpr λo e=>by rw[k a o e] at q;cases q),x.off,λi b o hi e q=>x.hid i b o hi e (k b o q)⟩
theorem aH.ext(x:aH X h μ h₁ μ')(hI:h.get? I=U)(e:Li I h₁ h'):aH X h μ h' μ':=by
 have ne:∀b o,h.get? b=O o→b≠I:=λb o q z=>by rw[z,hI] at q;cases q
 exact⟨x.g,x.s,λb o q m nx=>e b o (ne b o q) (x.keep b o q m nx),λb o vs n q d m=>e b o (ne b o q) (x.imm b o vs n q d m),λb o q=>let⟨o',q'⟩:=x.alive b o q;⟨o',e b o' (ne b o q) q'⟩,x.new,x.off,λi b o hi ei q=>e b o (ne b o q) (x.hid i b o hi ei q)⟩
theorem mf.ne(x:mf W I h μ){b:Addr}{o:Obj}{vs:Array Value}{n:Nat}(e:h.get? b=O o)(d:o.data= .seq vs n):b≠I:=λq=>by
 refine ak x.obj λo' e' n'=> ?_
 subst q;rw[e] at e';cases e'
 exact n' _ _ d
theorem ay.ext{x:AV}{u:Value}(o:mf W I h μ)(e:Li I h h')(r:ay h μ x u):ay h' μ x u:=r.to λc o' vs n q d m=>⟨e c o' (o.ne q d) q,m⟩
theorem ai.ext{x:LV}{u:Value}(o:mf W I h μ)(e:Li I h h')(r:ai h μ x u):ai h' μ x u:=by
 induction x with
 |val a=>exact ay.ext o e r
 |_=>exact r
theorem au.ext(o:mf W I h μ)(e:Li I h h')(V:au W h μ st):au W h' μ st:=by
 have K:cD h h' μ μ:=⟨λb ob _ _ q d m=>⟨e b ob (o.ne q d) q,m⟩,⟨[],(Je _).symm⟩⟩;have ne:∀b,μ.Mem b→b≠I:=λb m q=>o.mem (q▸m)
 exact⟨V.lg,V.ls,λn ob p e1 e2=>(V.og n ob p e1 e2).kept K (λ_ q=>e _ _ (ne _ (V.gmem e2)) q) (λ_ d _ q=>e _ _ (ne _ (V.gmem2 e2 d)) q),λn ob a e1 e2=>(V.os n ob a e1 e2).kept K λ_ q=>e _ _ (ne _ (V.smem e2)) q,V.nd,
  λb ob q=>e b ob (λz=>by rw[z,o.base] at q;cases q) (V.base b ob q),λa m=>⟨(V.fresh a m).1,let⟨ob,q⟩:=(V.fresh a m).2;⟨ob,e _ _ (ne _ m) q⟩⟩⟩
theorem am.ext(F:am W env nm ρ h μ)(o:mf W I h μ)(e:Li I h h')(n1:I≠env.locals)(n2:∀x,env.cells.lookup x≠O I):am W env nm ρ h' μ:=by
 refine ak F.ns λm hm hv=> ?_
 have ic:∀x c v,env.cells.lookup x=O c→h.IsCell c v→h'.IsCell c v:=λx c v q z=>fX z λob w=>e c ob (λz=>n2 x (z▸q)) w
 refine⟨F.kind,F.glo,F.bui,⟨m,oN hm λob q=>e _ _ (LM n1) q,λi x lv e1 e2=> ?_⟩,F.plain,F.nd,F.loc,λx c q=>let⟨a,b,v,z⟩:=F.cel x c q;⟨a,b,v,ic x c v q z⟩,F.inj,F.cok⟩;refine ak (hv i x lv e1 e2) λv rv q=> ?_
 exact⟨v,rv.ext o e,q.imp id λ⟨q,c,ec,z⟩=>⟨q,c,ec,ic x c _ ec z⟩⟩
theorem mf.step(o:mf W I h μ)(S:aH X h μ h' μ')(n:¬X I):mf W I h' μ':=
 let⟨ob,q,z⟩:=o.obj
 ⟨⟨ob,S.keep I ob q o.mem n,z⟩,S.notMem q o.mem,o.base⟩
end
structure Wk(W:Wd)(A:Around)(lv:LV)(v:Value)(I:Addr)(l:List AV)(It:Nat→Heap→Prop)(ok:St→Bool):Prop where
 frame:∀i h h',It i h→(∀o,h.get? I=O o→h'.get? I=O o)→It i h'
 fld:∀i h,It i h→∃o,h.get? I=O o∧∀vs n,o.data≠.seq vs n
 item:∀(i:Nat) (s:Shared) (μ:Mp) (st:St) (x:AV) (Q:Option Value→Shared→Prop) (E:Value→Shared→Prop),It i s.heap→au W s.heap μ st→ai s.heap μ lv v→ok st=Z→l[i]? =O x→
  (∀u h' tk,ay s.heap μ x u→It (i+1) h'→K0 I s.heap h'→Q (O u) {s with heap:=h',toks:=tk})→wpAny (model W.prog W.w) A (pyNext (.ref I)) Q E s
 done:∀(i:Nat) (s:Shared) (μ:Mp) (st:St) (Q:Option Value→Shared→Prop) (E:Value→Shared→Prop),It i s.heap→au W s.heap μ st→ai s.heap μ lv v→ok st=Z→i=l.length→
  (∀h' tk,Li I s.heap h'→Q U {s with heap:=h',toks:=tk})→wpAny (model W.prog W.w) A (pyNext (.ref I)) Q E s
 self:∀(i:Nat) (s:Shared) (Q:Value→Shared→Prop) (E:Value→Shared→Prop),It i s.heap→Q (.ref I) s→wpAny (model W.prog W.w) A (pyIter (.ref I)) Q E s
noncomputable def beqL(l m:List AV):Bool:=QQ (l=m)
noncomputable def aP(lv:LV)(b:Bool)(l:List AV)(st:St):Bool:=match lv with
 | .val _=>Z
 |_=>match ao st lv with
  |some (c,m)=>c==b&&beqL m l
  |none=>N
theorem gh{lv:LV}{b:Bool}{l:List AV}{st st0:St}(e0:ao st0 lv=O (b,l))(e:aP lv b l st=Z):ao st lv=O (b,l):=by
 induction lv with
 |val a=>cases a<;>simp only[ao] at e0 ⊢<;>first|exact e0|cases e0
 |loc n=>
  delta aP at e;simp only at e;split at e
  ·rename_i c m h;simp only[I8,beq_iff_eq,beqL,decide_eq_true_eq] at e;rw[h,e.1,e.2]
  ·exact(Kx e)
 |ref n=>
  delta aP at e;simp only at e;split at e
  ·rename_i c m h;simp only[I8,beq_iff_eq,beqL,decide_eq_true_eq] at e;rw[h,e.1,e.2]
  ·exact(Kx e)
 |tab n=>simp only[ao] at e0;cases e0
theorem lW{lv:LV}{b:Bool}{l:List AV}{st:St}(e:ao st lv=O (b,l)):aP lv b l st=Z:=by
 induction lv with
 |val a=>rfl
 |tab n=>simp only[ao] at e;cases e
 |loc n=>delta aP;simp only[e];simp[beqL]
 |ref n=>delta aP;simp only[e];simp[beqL]
section
variable{W:Wd}{A:Around}{X:Addr→Prop}{s:Shared}{μ:Mp}{st:St}{lv:LV}{v:Value}{l:List AV}{b:Bool}
noncomputable def qg(b:Bool)(I a:Addr)(i:Nat)(h:Heap):Prop:=if b then h.IsListIter I a i else h.IsTupleIter I a i
theorem wN(hA:A.handled=U)(e0:ao st lv=O (b,l)){a:Addr}(I:Addr):
  Wk W A lv (.ref a) I l (qg b I a) (aP lv b l):=by
 have out:∀{i:Nat} {vs:Array Value} {h:Heap} {μ:Mp},ax h μ l vs.toList→i=l.length→vs[i]? =U:=λ{i vs h μ} hr hi=>by
  rw[←JI,List.getElem?_eq_none_iff,hr.length,hi];exact JC _
 induction b with
 |true=>
  refine⟨λi h h' ⟨o,ho,r⟩ k=>⟨o,k o ho,r⟩,λi h ⟨o,ho,_,hd⟩=>⟨o,ho,λvs n q=>by rw[hd] at q;cases q⟩,λi s μ st' x Q E hit I' r ok hx q=> ?_,λi s μ st' Q E hit I' r ok hx q=> ?_,λi s Q E hit q=>wpAny_pyIter_listiter hit q⟩
  ·refine dJ (bJ I' (gh e0 ok) r) λa' o vs n e ho hc hd hr=> ?_
   cases e;refine ak (hr.get hx) λu hu ru=> ?_
   rw[JI] at hu;exact wpAny_pyNext_list_item hit ⟨o,ho,hc,n,hd⟩ hu λh' hit' hs=>q u h' s.toks ru hit' hs
  ·refine dJ (bJ I' (gh e0 ok) r) λa' o vs n e ho hc hd hr=> ?_
   cases e;exact wpAny_pyNext_list_end hA hit ⟨o,ho,hc,n,hd⟩ (out hr hx) λh' hs=>q h' s.toks hs
 |false=>
  refine⟨λi h h' ⟨o,ho,r⟩ k=>⟨o,k o ho,r⟩,λi h ⟨o,ho,_,hd⟩=>⟨o,ho,λvs n q=>by rw[hd] at q;cases q⟩,λi s μ st' x Q E hit I' r ok hx q=> ?_,λi s μ st' Q E hit I' r ok hx q=> ?_,λi s Q E hit q=>wpAny_pyIter_tupleiter hit q⟩
  ·refine dJ (bJ I' (gh e0 ok) r) λa' o vs n e ho hc hd hr=> ?_
   cases e;refine ak (hr.get hx) λu hu ru=> ?_
   rw[JI] at hu;exact wpAny_pyNext_tuple_item hit ⟨o,ho,hc,n,hd⟩ hu λh' hit' hs=>q u h' s.toks ru hit' hs
  ·refine dJ (bJ I' (gh e0 ok) r) λa' o vs n e ho hc hd hr=> ?_
   cases e;exact wpAny_pyNext_tuple_end hA hit ⟨o,ho,hc,n,hd⟩ (out hr hx) λh' hs=>q h' s.toks hs
theorem qw(V:au W s.heap μ st)(e:ao st lv=O (b,l))(r:ai s.heap μ lv v)(Q:Value→Shared→Prop)(E:Value→Shared→Prop)
  (q:∀a o,v= .ref a→o.isFreed=N→qg b s.heap.objs.size a 0 (s.heap.push o)→Q (.ref s.heap.objs.size) {s with heap:=s.heap.push o}):wpAny (model W.prog W.w) A (pyIter v) Q E s:=by
 refine dJ (bJ V e r) λa o vs n oz502 ho hc hd hr=> ?_
 subst oz502;induction b with
 |true=>exact Od ⟨o,ho,hc,n,hd⟩ (q a _ rfl rfl ⟨_,JG _ rfl,rfl,rfl⟩)
 |false=>exact NW ⟨o,ho,hc,n,hd⟩ (q a _ rfl rfl ⟨_,JG _ rfl,rfl,rfl⟩)
end
theorem CL{W:Wd}{A:Around}{b:Bool}{I a:Addr}{target:Expr}(i:Nat)(s:Shared)(v:Value)(Q:Unit→Shared→Prop)(E:Value→Shared→Prop)(hit:qg b I a i s.heap)(q:Q () s):wpAny (model W.prog W.w) A (Me target (.ref I) v) Q E s:=by
 obtain⟨o,ho,n,hc,hn⟩:∃o,s.heap.get? I=O o∧∃n,o.cls= .type n∧["enumerate","zip","dict_itemiterator","dict_reverseitemiterator","odict_iterator","itertools.zip_longest","itertools.pairwise"].contains n=N:=by
  induction b with
  |true=>obtain⟨o,ho,hc,_⟩:=hit;exact⟨o,ho,_,hc,by decide⟩
  |false=>obtain⟨o,ho,hc,_⟩:=hit;exact⟨o,ho,_,hc,by decide⟩
 have DA:wpAny (model W.prog W.w) A (do
  let(.ref r,.ref a):=((.ref I:Value),v)|return
  let o←load r
  match o.cls,o.data with
  | .type n,.fields vs=>
   if["enumerate","zip","dict_itemiterator","dict_reverseitemiterator","odict_iterator","itertools.zip_longest","itertools.pairwise"].contains n&&vs[0]? ==O (PO a) then
    rule "for.unpacks-the-owned-tuple"
    updateField r 0 .none
  |_,_=>pure ()) Q E s:=by
  cases v<;>first|exact Jg q|skip
  refine Jc (wpAny_load ho ?_);rw[hc];cases hd:o.data<;>first|exact Jg q|skip
  simp only[hn,LP,NX,if_false];exact Jg q
 cases target<;>first|exact Jg q|exact DA
noncomputable def bB(asg:AV→List (Option LV)→Option (List (Option LV)))(body:List (Option LV)→St→Option (Option LV×List (Option LV)×St))(ok:St→Bool):
  List AV→List (Option LV)→St→Option (Option LV×List (Option LV)×St)
 |[],ρ,st=>O (U,ρ,st)
 |x::xs,ρ,st=>oO (asg x ρ) λρ1=>oO (body ρ1 st) λp=>p.1.elim (if ok p.2.2 then bB asg body ok xs p.2.1 p.2.2 else U) λ_=>O p
@[elab_as_elim] theorem rG{W:Wd}{env:Env}{nm:List Str}{o:Option LV}{ρ':List (Option LV)}{st':St}(f:Flow){h':Heap}{μ':Mp}{M:Flow→Prop}(p:dF W env nm o ρ' st' f h' μ')(K1:o=U→am W env nm ρ' h' μ'→M .next)(K2:∀lv v,o=O lv→f= .ret v→M (.ret v)):M f:=by
 cases o with
 |none=>exact p.2.1▸K1 rfl p.2.2
 |some lv=>exact ak p.2 λv hf _=>hf▸K2 lv v rfl hf
inductive FI(W:Wd)(X:Addr→Prop)(s:Shared)(l:List AV)(I:Addr)(env:Env)(nm:List Str)(It:Nat→Heap→Prop)(ok:St→Bool)(lv:LV)(v:Value)(h0:Heap)(μ:Mp)(G:List AV→List (Option LV)→St→Prop):Nat→Shared→Prop
 |mk (h:Heap) (tk:Nat) (μ':Mp) (st:St) (ρ:List (Option LV)) (i:Nat):i≤l.length→au W h μ' st→am W env nm ρ h μ'→It i h→ok st=Z→mf W I h μ'→ai h μ' lv v→aH X h0 μ h μ'→G (l.drop i) ρ st→
  FI W X s l I env nm It ok lv v h0 μ G (l.length - i) {s with heap:=h,toks:=tk}
section
variable{W:Wd}{A:Around}{X:Addr→Prop}{s:Shared}{μ:Mp}{st:St}{lv:LV}{v:Value}{l:List AV}{env:Env}{nm:List Str}
theorem q6{I:Addr}{It:Nat→Heap→Prop}{ok:St→Bool}{asg:AV→List (Option LV)→Option (List (Option LV))}{body:List (Option LV)→St→Option (Option LV×List (Option LV)×St)}{target:Expr}{bs:List Stmt}
  {ρ ρf:List (Option LV)} {o:Option LV} {stf:St} {h0:Heap}
  (w:Wk W A lv v I l It ok)
  (k0:∀b o,h0.get? b=O o→s.heap.get? b=O o) (hI0:h0.get? I=U) (hXI:¬X I) (hIloc:I≠env.locals) (hIcel:∀x,env.cells.lookup x≠O I) (hO:mf W I s.heap μ)
  (hasg:∀x ρ ρ1,asg x ρ=O ρ1→∀(s:Shared) (μ:Mp) (st:St) (u:Value),au W s.heap μ st→am W env nm ρ s.heap μ→ay s.heap μ x u→Tr W A (assign target env u) X s μ (λ_ h' μ'=>μ'=μ∧au W h' μ st∧am W env nm ρ1 h' μ))
  (hbody:∀ρ st o ρ' st',body ρ st=O (o,ρ',st')→∀(s:Shared) (μ:Mp),au W s.heap μ st→am W env nm ρ s.heap μ→Tr W A (execs bs env) X s μ (dF W env nm o ρ' st'))
  (V:au W s.heap μ st) (F:am W env nm ρ s.heap μ) (r:ai s.heap μ lv v) (hit:It 0 s.heap) (hok:ok st=Z) (e:bB asg body ok l ρ st=O (o,ρf,stf))
  (hgo:∀(i:Nat) (s:Shared) (v:Value) (Q:Unit→Shared→Prop) (E:Value→Shared→Prop),It i s.heap→Q () s→wpAny (model W.prog W.w) A (Me target (.ref I) v) Q E s) (R:Result→Shared→Prop)
  (hR:∀f h' tk μ',aH X h0 μ h' μ'→dF W env nm o ρf stf f h' μ'→R (.ok f) {s with heap:=h',toks:=tk}):
  Oc (model W.prog W.w) A (.forLoop target (.ref I) bs [] env) R s:=by
 refine codeAny_forLoop_any (FI W X s l I env nm It ok lv v h0 μ λl ρ st=>bB asg body ok l ρ st=O (o,ρf,stf)) ?_ l.length (FI.mk s.heap s.toks μ st ρ 0 (KG _) V F hit hok hO r (aH.more k0) e);intro k s' z;induction z with
 |mk h tk μ' st' ρ' i hi V' F' hit' ok' O' r' S' e'=>
 by_cases hlt:i<l.length
 ·refine aI (J0 (motive:=λm=>bB asg body ok m ρ' st'=O (o,ρf,stf)) (MD hlt) e') λρ1 ha e1=>aI e1 λp hb e2=> ?_
  refine w.item i _ μ' st' l[i] _ _ hit' V' r' ok' (Jw hlt) λu h1 tk1 ru hit1 hs=> ?_
  have E1:Li I h h1:=hs.extBut;have O1:mf W I h1 μ':=⟨w.fld _ _ hit1,O'.mem,O'.base⟩;refine hgo (i+1) {s with heap:=h1,toks:=tk1} u _ _ hit1 (hasg _ _ _ ha {s with heap:=h1,toks:=tk1} μ' st' u (V'.ext O' E1) (F'.ext O' E1 hIloc hIcel) (ru.ext O' E1) _ _ λ_ h2 tk2 μ2 S2 p2=> ?_);have S2:=J0 (motive:=λm=>aH X h1 μ' h2 m) p2.1 S2;have O2:=O1.step S2 hXI;refine hbody _ _ _ _ _ hb {s with heap:=h2,toks:=tk2} μ' p2.2.1 p2.2.2 _ _ λf h3 tk3 μ3 S3 p3=> ?_
  have S03:=((S'.ext hI0 E1).trans S2).trans S3;refine rG f p3 (λho F3=> ?_) λlv' u' ho hf=> ?_
  ·have e3:=J0 (motive:=λq:Option LV=>q.elim (if ok p.2.2 then bB asg body ok (l.drop (i+1)) p.2.1 p.2.2 else U) (λ_=>O p)=O (o,ρf,stf)) ho e2;exact bH e3 λhok2 e3=>⟨_,Ny hlt (KZ i),.mk h3 tk3 μ3 p.2.2 p.2.1 (i+1) hlt p3.1 F3 (w.frame _ _ _ hit1 λob q=>S3.keep I ob (S2.keep I ob q O1.mem hXI) O2.mem hXI) hok2 (O2.step S3 hXI) (((r'.ext O' E1).step S2).step S3) S03 e3⟩
  ·have e3:O p=O (o,ρf,stf):=J0 (motive:=λq:Option LV=>q.elim (if ok p.2.2 then bB asg body ok (l.drop (i+1)) p.2.1 p.2.2 else U) (λ_=>O p)=O (o,ρf,stf)) ho e2;exact J0 (motive:=λg=>R (.ok g) {s with heap:=h3,toks:=tk3}) hf (hR f h3 tk3 μ3 S03 (J0 (motive:=λp:Option LV×List (Option LV)×St=>dF W env nm p.1 p.2.1 p.2.2 f h3 μ3) (Jt e3) p3))
 ·refine w.done i _ μ' st' _ _ hit' V' r' ok' (OS hi (KH hlt)) λh1 tk1 E1=> ?_
  have e2:O (U,ρ',st')=O (o,ρf,stf):=J0 (motive:=λm=>bB asg body ok m ρ' st'=O (o,ρf,stf)) (LN (KH hlt)) e';exact Ng (hR _ h1 tk1 μ' (S'.ext hI0 E1) (J0 (motive:=λp:Option LV×List (Option LV)×St=>dF W env nm p.1 p.2.1 p.2.2 .next h1 μ') (Jt e2) ⟨V'.ext O' E1,rfl,F'.ext O' E1 hIloc hIcel⟩))
end
end
noncomputable def cR(n:Nat)(st:St):St:={st with S:=st.S.take n}
noncomputable def E2(c:CO)(f:List AV→Option St):Option St:=match c with
 | .list l=>f l
 |_=>U
noncomputable def gI(n:Nat)(a:AV)(st:St):Option St:=oO st.S[n]? λc=>E2 c λl=>if l.length<aA then O (cR (n+1) {st with S:=st.S.set n (.list (l++[a]))}) else U
noncomputable def ch(asg:AV→List (Option LV)→Option (List (Option LV)))(tst:List (Option LV)→St→Option (Bool×St))(elt:List (Option LV)→St→Option (AV×St))(ok:St→Bool)(n:Nat):
  List AV→List (Option LV)→St→Option St
 |[],_,st=>O st
 |x::xs,ρ,st=>oO (asg x ρ) λρ1=>oO (tst ρ1 st) λp=>if p.1 then oO (elt ρ1 p.2) λq=>oO (gI n q.1 q.2) λst3=>if ok st3 then ch asg tst elt ok n xs ρ1 st3 else U
  else if ok (cR (n+1) p.2) then ch asg tst elt ok n xs ρ1 (cR (n+1) p.2) else U
theorem aH.next{Y:Addr→Prop}{h h₁ h':Heap}{μ μ₁ μ':Mp}(x:aH X0 h μ h₁ μ₁)(y:aH Y h₁ μ₁ h' μ')(n:∀a,Y a→h.get? a=U):aH X0 h μ h' μ':=
 aH.shed (λ_ _ e=>e) (x.at0.trans y) λa q=> .inr (n a q)
noncomputable def hU(ifs:List Expr)(env:Env):Sem Bool:=forIn ifs Z λc r=>if r=Z then do let ok←isTrue c env (eval c env);pure (Mf ok) else pure (Mf r)
theorem yS{μ μ':Mp}{X:Addr→Prop}{h h':Heap}{W:Wd}{st:St}{n:Nat}(S:aH X h μ h' μ')(V:au W h' μ' st)(hl:μ.s.length=μ.off+(n+1)):(cR (n+1) st).S.length=n+1:=by
 refine aG S.s λx hx=> ?_
 have:st.S.length=n+1+x.length:=by
  have h1:=V.ls;rw[hx,Jk,hl,S.off] at h1
  lia
 show(st.S.take (n+1)).length=_;rw[Kv];omega
theorem vJ{n:Nat}{a:AV}{st st3:St}{M:Prop}(e:gI n a st=O st3)(K:∀l,st.S[n]? =O (.list l)→l.length<aA→O (cR (n+1) {st with S:=st.S.set n (.list (l++[a]))})=O st3→M):M:=
 aI e λc h e=>by
  induction c with
  |list l=>exact bH e λq e=>K l h q e
  |dict=>exact ns e
inductive CI(W:Wd)(s:Shared)(l:List AV)(D I:Addr)(n:Nat)(cenv:Env)(nm:List Str)(It:Nat→Heap→Prop)(ok:St→Bool)(lv:LV)(v:Value)(h0:Heap)(μ0:Mp)(G:List AV→List (Option LV)→St→Prop):Nat→Shared→Prop
 |mk (h:Heap) (tk:Nat) (μ:Mp) (st:St) (ρ:List (Option LV)) (i:Nat):i≤l.length→st.S.length=n+1→μ.s[μ.off+n]? =O D→au W h μ st→am W cenv nm ρ h μ→It i h→ok st=Z→mf W I h μ→ai h μ lv v→aH X0 h0 μ0 h μ→G (l.drop i) ρ st→
  CI W s l D I n cenv nm It ok lv v h0 μ0 G (l.length - i) {s with heap:=h,toks:=tk}
section
variable{W:Wd}{A:Around}{s:Shared}{μ μ0:Mp}{st:St}{lv:LV}{v:Value}{l:List AV}{cenv:Env}{nm:List Str}
theorem vd{I D:Addr}{It:Nat→Heap→Prop}{ok:St→Bool}{asg:AV→List (Option LV)→Option (List (Option LV))}{tst:List (Option LV)→St→Option (Bool×St)}{elt:List (Option LV)→St→Option (AV×St)}
  {target ex iter:Expr} {ifs:List Expr} {scope:Scope} {pos:Pos} {ρ:List (Option LV)} {stf:St} {h0:Heap} {n:Nat}
  (w:Wk W A lv v I l It ok) (hn:st.S.length=n+1) (hD:μ.s[μ.off+n]? =O D) (hlv:∀i,lv= .loc i→i<n+1) (hμ0:μ0.s.length≤μ0.off+(n+1))
  (S0:aH X0 h0 μ0 s.heap μ) (hI0:h0.get? I=U) (hC0:h0.get? cenv.locals=U) (hIloc:I≠cenv.locals) (hIcel:∀x,cenv.cells.lookup x≠O I) (hO:mf W I s.heap μ)
  (hasg:∀x ρ ρ1,asg x ρ=O ρ1→∀(s:Shared) (μ:Mp) (st:St) (u:Value),au W s.heap μ st→am W cenv nm ρ s.heap μ→ay s.heap μ x u→Tr W A (assign target cenv u) (λa=>a=cenv.locals) s μ (λ_ h' μ'=>μ'=μ∧au W h' μ st∧am W cenv nm ρ1 h' μ))
  (htst:∀ρ st c st',tst ρ st=O (c,st')→∀(s:Shared) (μ:Mp),au W s.heap μ st→am W cenv nm ρ s.heap μ→Tr W A (hU ifs cenv) X0 s μ (λb h' μ'=>b=c∧au W h' μ' st'))
  (helt:∀ρ st a st',elt ρ st=O (a,st')→∀(s:Shared) (μ:Mp),au W s.heap μ st→am W cenv nm ρ s.heap μ→Tr W A (eval ex cenv) X0 s μ (λu h' μ'=>ay h' μ' a u∧au W h' μ' st'))
  (V:au W s.heap μ st) (F:am W cenv nm ρ s.heap μ) (r:ai s.heap μ lv v) (hit:It 0 s.heap) (hok:ok st=Z) (e:ch asg tst elt ok n l ρ st=O stf)
  (ht:∀v,Me target (.ref I) v=pure ()) (R:Result→Shared→Prop)
  (hR:∀h' tk μ' ρ',aH X0 h0 μ0 h' μ'→au W h' μ' stf→am W cenv nm ρ' h' μ'→μ'.s[μ'.off+n]? =O D→R (.ok .next) {s with heap:=h',toks:=tk}):
  Oc (model W.prog W.w) A (.compLoop (.ListComp ex [⟨target,iter,ifs,0⟩] scope pos) 0 (.ref I) (.ref D) cenv) R s:=by
 refine codeAny_compLoop_tests (CI W s l D I n cenv nm It ok lv v h0 μ0 λl ρ st=>ch asg tst elt ok n l ρ st=O stf) ?_ l.length (CI.mk s.heap s.toks μ st ρ 0 (KG _) hn hD V F hit hok hO r S0 e) ht;intro k s' z;induction z with
 |mk h tk μ' st' ρ' i hi hn' hD' V' F' hit' ok' O' r' S' e'=>
 by_cases hlt:i<l.length
 ·refine aI (J0 (motive:=λm=>ch asg tst elt ok n m ρ' st'=O stf) (MD hlt) e') λρ1 ha e1=>aI e1 λp htt e2=> ?_
  refine w.item i _ μ' st' l[i] _ _ hit' V' r' ok' (Jw hlt) λu h1 tk1 ru hit1 hs=> ?_
  have E1:Li I h h1:=hs.extBut;have O1:mf W I h1 μ':=⟨w.fld _ _ hit1,O'.mem,O'.base⟩;refine hasg _ _ _ ha {s with heap:=h1,toks:=tk1} μ' st' u (V'.ext O' E1) (F'.ext O' E1 hIloc hIcel) (ru.ext O' E1) _ _ λ_ h2 tk2 μ2 S2 p2=> ?_
  have V2:=p2.2.1;have F2:=p2.2.2;have S2:=J0 (motive:=λm=>aH (λa=>a=cenv.locals) h1 μ' h2 m) p2.1 S2;have O2:=O1.step S2 hIloc;have bv:∀(st3:St) (h3:Heap) (tk3:Nat) (μ3:Mp),aH X0 h2 μ' h3 μ3→au W h3 μ3 st3→ok (cR (n+1) st3)=Z→ch asg tst elt ok n (l.drop (i+1)) ρ1 (cR (n+1) st3)=O stf→
    ∃m,m<l.length - i∧CI W s l D I n cenv nm It ok lv v h0 μ0 (λl ρ st=>ch asg tst elt ok n l ρ st=O stf) m {s with heap:=h3,toks:=tk3}:=by
   intro st3 h3 tk3 μ3 S3 V3 ok3 e3;have S3c:=S3.cut (n:=n+1) (by rw[V2.ls,hn'];exact JC _);exact⟨_,Ny hlt (KZ i),.mk h3 tk3 _ (cR (n+1) st3) ρ1 (i+1) hlt (yS S3 V3 (by rw[V2.ls,hn']))
    ((KQ (KC (KZ n) _)).trans (by rw[S3.off];exact S3.sget hD')) (V3.cut (n+1)) (F2.step S3c) (w.frame _ _ _ hit1 λob q=>S3.keep I ob (S2.keep I ob q O1.mem hIloc) O2.mem id) ok3 (O2.step S3c id)
    ((((r'.ext O' E1).step S2).step S3).cut hlv) ((((S'.ext hI0 E1).next S2 λa q=>q▸hC0).trans S3).cut hμ0) e3⟩
  refine htst _ _ p.1 p.2 htt {s with heap:=h2,toks:=tk2} μ' V2 F2 _ _ λc h3 tk3 μ3 S3 p3=>qp (λhc=> ?_) λhc=>bH ((if_neg λq=>Kx (hc.symm.trans (p3.1.trans q))).symm.trans e2) λok3 e3=>bv _ h3 tk3 _ S3 p3.2 ok3 e3
  refine aI ((if_pos (p3.1.symm.trans hc)).symm.trans e2) λq hee e3=>aI e3 λst3 hacc e4=>bH e4 λok3 e5=>vJ hacc λl' hl' hlim e6=> ?_
  refine helt _ _ q.1 q.2 hee {s with heap:=h3,toks:=tk3} μ3 p3.2 (F2.step S3) _ _ λy h4 tk4 μ4 S4 p4=> ?_
  refine nB (W:=W) (A:=A) (X:=X0) (s:={s with heap:=h4,toks:=tk4}) (μ:=μ4) (lv:= .loc n) (v:= .ref D) p4.2 hl' ⟨D,by rw[S4.off,S3.off];exact S4.sget (S3.sget hD'),rfl⟩ p4.1 hlim _ _ λz h5 tk5 μ5 S5 p5=> ?_
  exact bv _ h5 tk5 _ ((S3.trans S4).trans (J0 (motive:=λm=>aH X0 h4 μ4 h5 m) p5.2.1 S5)) p5.2.2 (J0 (motive:=λz=>ok z=Z) (Jt e6).symm ok3) (J0 (motive:=λz=>ch asg tst elt ok n (l.drop (i+1)) ρ1 z=O stf) (Jt e6).symm e5)
 ·refine w.done i _ μ' st' _ _ hit' V' r' ok' (OS hi (KH hlt)) λh1 tk1 E1=> ?_
  have e2:O st'=O stf:=J0 (motive:=λm=>ch asg tst elt ok n m ρ' st'=O stf) (LN (KH hlt)) e';exact hR h1 tk1 μ' ρ' (S'.ext hI0 E1) (Jt e2▸V'.ext O' E1) (F'.ext O' E1 hIloc hIcel) hD'
end
noncomputable def d7(cells:List (Str×Addr)):List (Str×Js)→List (Str×Addr)→List (Str×Addr)
 |[],acc=>acc
 |(x,k)::r,acc=>d7 cells r (if k== .free then(match cells.lookup x with|some c=>(x,c)::acc|none=>acc) else acc)
theorem l4{env:Env}{scope:Scope}(h:∀x,(x,KR)∈scope.names→(env.cells.lookup x).isSome=Z):closureFor scope env=pure (d7 env.cells scope.names []):=by
 delta closureFor;have:∀(l:List (Str×Js)) (acc:List (Str×Addr)),(∀x,(x,KR)∈l→(env.cells.lookup x).isSome=Z)→
   (forIn l acc (λx r=>match x with
    |(name,kind)=>if(kind== .free)=Z then do let y←cellOf env name;pure (Mf ((name,y)::r)) else pure (Mf r)):Sem (List (Str×Addr)))=pure (d7 env.cells l acc):=by
  intro l;induction l with
  |nil=>intro acc _;rfl
  |cons a l ih=>
   intro acc hl;obtain⟨x,k⟩:=a;rw[List.forIn_cons];have hl':=λy hy=>hl y (List.mem_cons_of_mem _ hy)
   by_cases hk:(k==KR)=Z
   ·have hk':k= .free:=by simpa using hk
    subst hk';obtain⟨c,hc⟩:=KO.mp (hl x (.head _));simp only[d7,beq_self_eq_true,if_true,hc,cellOf];exact ih _ hl'
   ·simp only[d7,hk,if_false];exact ih _ hl'
 have:=this scope.names [] h;simpa using this
theorem ez{cells:List (Str×Addr)}:∀{names:List (Str×Js)} {acc:List (Str×Addr)} {x:Str} {c:Addr},(∀x c,acc.lookup x=O c→cells.lookup x=O c)→(d7 cells names acc).lookup x=O c→cells.lookup x=O c
 |[],_,x,c,h,e=>h x c e
 |(y,k)::r,acc,x,c,h,e=>by
  unfold d7 at e;refine ez (acc:=_) ?_ e;intro z d q;refine aw λMz kz411=> ?_
  split at q
  ·split at q
   ·rename_i c' hc;rw[KI] at q;split at q
    ·rename_i hb;cases q;refine kz411 ?_;exact(beq_iff_eq.mp hb)▸(hc)
    ·refine kz411 ?_;exact h z d q
   ·refine kz411 ?_;exact h z d q
  ·refine kz411 ?_;exact h z d q
theorem jr{cells:List (Str×Addr)}:∀{names:List (Str×Js)} {acc:List (Str×Addr)} {x:Str} {c:Addr},cells.lookup x=O c→(∀x c,acc.lookup x=O c→cells.lookup x=O c)→((x,KR)∈names∨acc.lookup x=O c)→(d7 cells names acc).lookup x=O c
 |[],_,x,c,_,_,e=>by
  rcases e with e|e
  ·exfalso;cases e
  ·exact e
 |(y,k)::r,acc,x,c,hc,h,e=>by
  unfold d7;have step:∀z d,((if(k==KR)=Z then(match cells.lookup y with|some c=>(y,c)::acc|none=>acc) else acc):List (Str×Addr)).lookup z=O d→cells.lookup z=O d:=by
   intro z d q;split at q
   ·split at q
    ·rename_i c' hc';rw[KI] at q;split at q
     ·rename_i hb;cases q;rw[beq_iff_eq.mp hb];exact hc'
     ·exact h z d q
    ·exact h z d q
   ·exact h z d q
  refine jr hc step ?_;rcases e with e|e
  ·rcases Jh.mp e with e|e
   ·cases e;refine .inr ?_;simp[hc]
   ·exact .inl e
  ·refine .inr ?_;split
   ·split
    ·rename_i c' hc';rw[KI];split
     ·rename_i hb;rw[←beq_iff_eq.mp hb,hc] at hc';exact hc'.symm
     ·exact e
    ·exact e
   ·exact e
noncomputable def cr(kd:Str→Option Js)(names:List (Str×Js))(x:Str):Option Js:=match names.lookup x with
 |some .free=>if kd x==O .cell then O .cell else O .free
 |k=>k
theorem iM(f:Str×Js→Str×Js)(p:Str→Bool)(hf:∀n k,f (n,k)=if(k==KR&&p n)=Z then(n,NE) else(n,k))(x:Str):
  ∀l:List (Str×Js),(l.map f).lookup x=match l.lookup x with|some .free=>if p x=Z then O .cell else O .free|k=>k
 |[]=>rfl
 |(n,k)::l=>by
  have ih:=iM f p hf x l;rw[JT,hf];cases hb:x==n with
  |true=>
   have:=beq_iff_eq.mp hb;subst this;cases k<;>cases hp:p x<;>simp
  |false=>
   have this:∀(k':Js) (l:List (Str×Js)),((n,k')::l).lookup x=l.lookup x:=λk' l=>by rw[KI,hb]
   rw[this k l];split<;>(rw[this];exact ih)
theorem fU{env:Env}{kd:Str→Option Js}{scope:Scope}{cl:List (Str×Addr)}{C:Addr}(hk:env.scope.kind= .function)(h:∀x,env.kindOf x=kd x)(x:Str):(O8 scope cl C env).kindOf x=cr kd scope.names x:=by
 refine(iM _ (λn=>env.kindOf n==O .cell) (λn k=> ?_) x scope.names).trans ?_
 ·show(if(k==KR&&env.scope.kind== .function&&env.kindOf n==O .cell)=Z then(n,NE) else(n,k))=_;rw[hk];simp
 ·delta cr;rw[←h x]
  all_goals first|rfl|(cases scope.names.lookup x with|none=>rfl|some k=>cases k<;>rfl)
noncomputable def bD:List Bool→List (Option LV)→List (Option LV)
 |_,[]=>[]
 |[],_::vs=>U::bD [] vs
 |b::bs,v::vs=>(if b then v else U)::bD bs vs
theorem kU:∀{bs:List Bool} {ρ:List (Option LV)} {i:Nat} {lv:LV},(bD bs ρ)[i]? =O (O lv)→bs[i]? =O Z∧ρ[i]? =O (O lv)
 |_,[],i,lv,e=>by cases ‹List Bool›<;>simp[bD] at e
 |[],_::vs,i,lv,e=>by
  induction i with
  |zero=>simp[bD] at e
  |succ i=>
   simp only[bD,J1] at e;have:=kU e;simp at this
 |b::bs,v::vs,i,lv,e=>by
  induction i with
  |zero=>
   dsimp only[bD,JM,JF] at e;split at e
   ·rename_i hb;exact⟨by simp[hb],(by assumption)⟩
   ·exfalso;exact nomatch e
  |succ i=>
   simp only[bD,J1] at e ⊢;exact kU e
noncomputable def iJ(kd:Str→Option Js)(names:List (Str×Js)):List Bool→List Str→Bool
 |[],_=>Z
 |b::bs,[]=> !b&&iJ kd names bs []
 |b::bs,x::xs=>(!b||(kd x==O .cell&&names.lookup x==O .free))&&iJ kd names bs xs
theorem mW{kd:Str→Option Js}{names:List (Str×Js)}:∀{bs:List Bool} {nm:List Str} {i:Nat} {x:Str},iJ kd names bs nm=Z→bs[i]? =O Z→nm[i]? =O x→kd x=O .cell∧names.lookup x=O .free
 |[],_,_,_,_,e,_=>by simp at e
 |b::bs,[],i,x,_,_,e=>by simp at e
 |b::bs,y::xs,i,x,h,e1,e2=>by
  simp only[iJ,I8] at h;induction i with
  |zero=>
   simp only[JM,JF] at e1 e2;subst e1 e2;simpa using h.1
  |succ i=>
   exact mW h.2 e1 e2
structure tG(kd:Str→Option Js)(scope:Scope):Prop where
 kind:scope.kind= .function
 names:∀x∈scope.names,x.2= .local→scope.names.lookup x.1=O .local
 nocell:∀x∈scope.names,x.2≠.cell
 free:∀x,(x,KR)∈scope.names→kd x=O .cell
noncomputable def lr(kd:Str→Option Js)(scope:Scope):Bool:=
 scope.kind== .function&&scope.names.all λx=>x.2 != .cell&&(x.2 != .local||scope.names.lookup x.1==O .local)&&(x.2 != .free||kd x.1==O .cell)
theorem vn{kd:Str→Option Js}{scope:Scope}(h:lr kd scope=Z):tG kd scope:=by
 delta lr at h;simp only[I8,Jb,beq_iff_eq,bne_iff_ne,JL,ne_eq] at h;refine⟨by simpa using h.1,λx hx e=> ?_,λx hx=>(h.2 x hx).1.1,λx hx=> ?_⟩
 ·rcases(h.2 x hx).1.2 with q|q
  ·exact absurd e q
  ·exact q
 ·rcases(h.2 _ hx).2 with q|q
  ·exact absurd rfl q
  ·exact q
section
variable{W:Wd}{A:Around}{s:Shared}{μ μ0:Mp}{st:St}{lv:LV}{v:Value}{l:List AV}{env:Env}{nm:List Str}{kd:Str→Option Js}
theorem sr{h h':Heap}{ρ:List (Option LV)}{scope:Scope}{C:Addr}{bs:List Bool}(hk:∀x,env.kindOf x=kd x)(F:am W env nm ρ h μ)(sc:tG kd scope)(hb:iJ kd scope.names bs nm=Z)(V:au W h μ st)
  (hC:h.get? C=U) (k:∀b o,h.get? b=O o→h'.get? b=O o) (hn:∃m,h'.Ns C m):am W (O8 scope (d7 env.cells scope.names []) C env) nm (bD bs ρ) h' μ:=by
 have F':=F.step (aH.more (X:=X0) (μ:=μ) k);refine aG hn λmC hn=> ?_
 refine ak F'.ns λm hm hv=> ?_
 have e0:∀x c,(([]:List (Str×Addr)).lookup x)=O c→env.cells.lookup x=O c:=λx c q=>by cases q
 have bC:W.B.get? C=U:=by
  cases q:W.B.get? C with
  |none=>rfl
  |some o=>
   have:=V.base _ _ q;rw[hC] at this;exact nomatch this
 have mC':¬μ.Mem C:=λq=>by
  refine aG ((V.fresh _ q).2) λo e=> ?_
  rw[hC] at e;exact nomatch e
 refine⟨sc.kind,F.glo,F.bui,⟨mC,hn,λi x lv e1 e2=> ?_⟩,F.plain,F.nd,⟨mC',bC⟩,λx c e=>F'.cel x c (ez e0 e),λx y c e1 e2=>F.inj x y c (ez e0 e1) (ez e0 e2),λx e=> ?_⟩
 rotate_left
 ·rw[fU F.kind hk] at e;delta cr at e;refine aw λMz kz432=> ?_
  split at e
  ·rename_i q;split at e
   ·rename_i q2;obtain⟨c,hc⟩:=KO.mp (F.cok x (by rw[hk];simpa using q2));refine kz432 ?_;show((d7 env.cells scope.names []).lookup x).isSome=Z;rw[jr hc e0 (.inl (J9 q))];rfl
   ·exact nomatch e
  ·exact absurd rfl (sc.nocell _ (J9 e))
 refine aw λMz kz433=> ?_
 refine aO (kU e2) λq1 q2=> ?_
 refine aO (mW hb q1 e1) λk1 k2=> ?_
 refine ak (hv i x lv e1 q2) λv rv q=> ?_
 refine kz433 ?_;refine⟨v,rv,.inr ?_⟩;rw[fU F.kind hk];refine aw λMz kz434=> ?_
 rcases q with⟨q,_⟩|⟨_,c,ec,ic⟩
 ·rw[hk x,k1] at q;exact nomatch q
 ·refine kz434 ?_;exact⟨.inl (by delta cr;rw[k2];simp[k1]),c,jr ec e0 (.inl (J9 k2)),ic⟩
theorem uT{I:Addr}{It:Nat→Heap→Prop}{ok:St→Bool}{asg:AV→List (Option LV)→Option (List (Option LV))}{tst:List (Option LV)→St→Option (Bool×St)}{elt:List (Option LV)→St→Option (AV×St)}
  {target ex iter:Expr} {ifs:List Expr} {scope:Scope} {pos:Pos} {ρ:List (Option LV)} {stf:St} {h0:Heap} {bs:List Bool} {E:Value→Shared→Prop}
  (hk:∀x,env.kindOf x=kd x) (sc:tG kd scope) (hb:iJ kd scope.names bs nm=Z)
  (w:Wk W A lv v I l It ok) (hlv:∀i,lv= .loc i→i<st.S.length)
  (S0:aH X0 h0 μ s.heap μ) (hI0:h0.get? I=U) (hO:mf W I s.heap μ) (hIcel:∀x,env.cells.lookup x≠O I)
  (hasg:∀cenv,(∀x,cenv.kindOf x=cr kd scope.names x)→∀x ρ ρ1,asg x ρ=O ρ1→∀(s:Shared) (μ:Mp) (st:St) (u:Value),au W s.heap μ st→am W cenv nm ρ s.heap μ→ay s.heap μ x u→Tr W A (assign target cenv u) (λa=>a=cenv.locals) s μ (λ_ h' μ'=>μ'=μ∧au W h' μ st∧am W cenv nm ρ1 h' μ))
  (htst:∀cenv,(∀x,cenv.kindOf x=cr kd scope.names x)→∀ρ st c st',tst ρ st=O (c,st')→∀(s:Shared) (μ:Mp),au W s.heap μ st→am W cenv nm ρ s.heap μ→Tr W A (hU ifs cenv) X0 s μ (λb h' μ'=>b=c∧au W h' μ' st'))
  (helt:∀cenv,(∀x,cenv.kindOf x=cr kd scope.names x)→∀ρ st a st',elt ρ st=O (a,st')→∀(s:Shared) (μ:Mp),au W s.heap μ st→am W cenv nm ρ s.heap μ→Tr W A (eval ex cenv) X0 s μ (λu h' μ'=>ay h' μ' a u∧au W h' μ' st'))
  (V:au W s.heap μ st) (F:am W env nm ρ s.heap μ) (r:ai s.heap μ lv v) (hit:It 0 s.heap) (hok:ok {st with S:=st.S++[.list []]}=Z)
  (e:ch asg tst elt ok st.S.length l (bD bs ρ) {st with S:=st.S++[.list []]}=O stf)
  (ht:∀v,Me target (.ref I) v=pure ()) (Rr:Value→Addr→Result→Shared→Prop)
  (hR:∀D C h' tk μ',aH X0 h0 μ h' μ'→h0.get? C=U→au W h' μ' stf→(∃m,h'.Ns C m)→mf W C h' μ'→μ'.s[μ'.off+st.S.length]? =O D→Rr (.ref D) C (.ok .next) {s with heap:=h',toks:=tk}):
  wpAny (model W.prog W.w) A (Oa []) (λacc s₃=>wpAny (model W.prog W.w) A (newFunctionEnv scope env.globals (d7 env.cells scope.names []) [] env.qual U .none (O env)) (λcenv s₄=>
   Oc (model W.prog W.w) A (.compStart (.ListComp ex [⟨target,iter,ifs,0⟩] scope pos) 0 (.ref I) acc {cenv with scope:=relabel scope env}) (Rr acc cenv.locals) s₄) E s₃) E s:=by
 refine lP (W:=W) (A:=A) (X:=X0) (s:=s) (μ:=μ) V (l:=[]) (vs:=[]) rfl (by decide) _ _ λD h1 tk1 μ1 S1 p1=> ?_
 refine aO p1 λoz548 V1=> ?_
 refine ak oz548 λD' hD' oz550=> ?_
 subst oz550;refine wpAny_newFunctionEnv sc.nocell (by intro y hy;simp at hy) (λh2 hns2 hsb2=> ?_) sc.kind;have k2:∀b o,h1.get? b=O o→h2.get? b=O o:=λb o q=>hsb2.extBut b o (Lo (Kr q)) (Jn _ q)
 have hC1:h1.get? h1.objs.size=U:=bj _;have V2:au W h2 μ1 _:=V1.more k2;have F1:am W env nm ρ h1 μ1:=F.step S1;have F2:=sr hk F1 sc hb V1 hC1 k2 ⟨_,hns2⟩;have S2:aH X0 h0 μ h2 μ1:=(S0.trans S1).trans (aH.more k2);have hC0:h0.get? h1.objs.size=U:=by
  cases q:h0.get? h1.objs.size with
  |none=>rfl
  |some o=>
   refine aG ((S0.trans S1).alive _ _ q) λo' q'=> ?_
   rw[hC1] at q';cases q'
 refine ak hO.obj λoI hoI hdI=> ?_
 have hI1:h1.get? I=O oI:=S1.keep I oI hoI hO.mem id;have kdc:∀x,(O8 scope (d7 env.cells scope.names []) h1.objs.size env).kindOf x=cr kd scope.names x:=fU F.kind hk
 have hlI:I≠h1.objs.size:=λq=>by rw[q,hC1] at hI1;cases hI1
 have O1:=hO.step S1 id;have O2:mf W I h2 μ1:=⟨⟨oI,k2 _ _ hI1,hdI⟩,O1.mem,O1.base⟩;have loop:=vd (W:=W) (A:=A) (s:={s with heap:=h2,toks:=tk1}) (μ:=μ1) (μ0:=μ) (st:={st with S:=st.S++[.list []]}) (cenv:=O8 scope (d7 env.cells scope.names []) h1.objs.size env) (nm:=nm)
  (I:=I) (D:=D') (It:=It) (ok:=ok) (asg:=asg) (tst:=tst) (elt:=elt) (target:=target) (ex:=ex) (iter:=iter) (ifs:=ifs) (scope:=scope) (pos:=pos) (ρ:=bD bs ρ) (stf:=stf) (h0:=h0) (n:=st.S.length)
  w (by simp) hD' (λi q=>MH (hlv i q)) (by rw[V.ls];exact OL _) S2 hI0 hC0 hlI (λx q=>hIcel x (ez (λx c q=>by cases q) q)) O2
  (hasg _ kdc) (htst _ kdc) (helt _ kdc) V2 F2 ((r.step S1).step (aH.more (X:=X0) k2)) (w.frame _ _ _ hit λo q=>k2 _ _ (S1.keep I o q hO.mem id)) hok e ht (Rr (.ref D') h1.objs.size) λh' tk μ' ρ' S' V' F' hD=> ?_
 ·exact codeAny_compStart_list loop (w.self 0 _ _ _ (w.frame _ _ _ hit λo q=>k2 _ _ (S1.keep I o q hO.mem id)) loop)
 ·refine ak F'.ns λm hm _=> ?_
  refine Bs (id hm) λo es ep ho hd _=> ?_
  exact hR D' _ h' tk μ' S' hC0 V' ⟨m,hm⟩ ⟨⟨o,ho,λvs n q=>by rw[hd] at q;cases q⟩,F'.loc.1,F'.loc.2⟩ hD
end
noncomputable def r4(i:Int):List Int→List Int
 |[]=>[i]
 |j::l=>if i≤j then i::j::l else j::r4 i l
noncomputable def nk:List Int→List Int
 |[]=>[]
 |i::l=>r4 i (nk l)
theorem jn(i:Int):∀l,(r4 i l).Perm (i::l)
 |[]=> .refl _
 |j::l=>by
  unfold r4;split
  ·exact .refl _
  ·exact((jn i l).cons j).trans (.swap i j l)
theorem gS:∀l,(nk l).Perm l
 |[]=> .refl _
 |i::l=>(jn i _).trans ((gS l).cons i)
theorem jx(i:Int):∀l:List Int,l.Pairwise (·≤·)→(r4 i l).Pairwise (·≤·)
 |[],_=>by simp[r4]
 |j::l,h=>by
  have h1:=K4.mp h;unfold r4;split
  ·rename_i hij;exact K4.mpr ⟨λa ha=>by
    rcases Jh.mp ha with e|ha
    ·rw[e];exact hij
    ·exact PP hij (h1.1 a ha),h⟩
  ·refine K4.mpr ⟨λa ha=> ?_,jx i l h1.2⟩;rcases Jh.mp ((jn i l).mem_iff.mp ha) with e|ha
   ·rw[e];omega
   ·exact h1.1 a ha
theorem eW:∀l:List Int,(nk l).Pairwise (·≤·)
 |[]=> .nil
 |i::l=>jx i _ (eW l)
theorem ej:∀{l m:List Int},l.Perm m→l.Pairwise (·≤·)→m.Pairwise (·≤·)→l=m
 |[],m,p,_,_=>by rw[List.nil_perm.mp p]
 |a::l,[],p,_,_=>by have:=p.length_eq;simp at this
 |a::l,b::m,p,h1,h2=>by
  have q1:=K4.mp h1;have q2:=K4.mp h2;have e:a=b:=by
   have ha:=p.mem_iff.mp (NY (a:=a) (l:=l));have hb:=p.mem_iff.mpr (NY (a:=b) (l:=m));rcases Jh.mp ha with e|ha
   ·exact e
   ·rcases Jh.mp hb with e|hb
    ·exact e.symm
    ·exact Int.le_antisymm (q1.1 b hb) (q2.1 a ha)
  subst e;rw[ej ((List.perm_cons a).mp p) q1.2 q2.2]
noncomputable def jJ:List (AV×AV)→List Int
 |[]=>[]
 |(AV.int i,_)::es=>i::jJ es
 |_::es=>jJ es
noncomputable def dy(k:KD)(es:List (AV×AV)):Option (List AV):=match k with
 | .int=>if es.length<64 then O ((nk (jJ es)).map AV.int) else U
 | .str=>match es with
  |[]=>O []
  |[(AV.str x,_)]=>O [AV.str x]
  |_=>U
 | .tup=>U
theorem fC{h:Heap}{μ:Mp}:∀{vs:List Value} {ns:List Int},OZ vs ns→ax h μ (ns.map AV.int) vs
 |_,_,.nil=>rfl
 |_,_,.cons n t r=>⟨_,_,rfl,⟨t,rfl⟩,fC r⟩
theorem qQ{h:Heap}{μ:Mp}:∀{es:List (AV×AV)} {kvs:List (Int×Value)},KV h μ v6 es kvs→jJ es=kvs.map (·.1)
 |[],_,r=>by subst r;rfl
 |(_,_)::_,_,⟨i,u,r,e,p,q,t⟩=>by
  subst e;have p':_=_:=p;subst p';simp only[jJ,JT,qQ t]
section
variable{W:Wd}{A:Around}{X:Addr→Prop}{s:Shared}{h':Heap}{μ:Mp}{st:St}{lv:LV}{v u:Value}{l m:List AV}{b:Bool}
theorem jH:∀{vs:List Value} {ns:List Int},vs.length=ns.length→(∀(j:Nat) (v:Value),vs[j]? =O v→∃(n:Int) (t:Tok),ns[j]? =O n∧v=QK n t)→OZ vs ns
 |[],[],_,_=> .nil
 |[],_::_,h,_=>by simp at h
 |_::_,[],h,_=>by simp at h
 |v::vs,n::ns,h,g=>by
  refine b9 (g 0 v rfl) λn' t e1 e2=> ?_
  simp only[JM,JF] at e1;subst e1 e2;exact .cons _ t (jH (by simpa using h) λj v e=>g (j+1) v e)
theorem Bk{es:List (AV×AV)}{l:List AV}(h:dy .str es=O l):(es=[]∧l=[])∨∃x y,es=[(.str x,y)]∧l=[.str x]:=by
 cases es with
 |nil=>exact .inl ⟨rfl,(Jt h).symm⟩
 |cons p es=>
  induction p with
  |mk a y=>
   cases es with
   |nil=>cases a<;>first|exact .inr ⟨_,_,rfl,(Jt h).symm⟩|exact nomatch h
   |cons q es=>cases a<;>exact nomatch h
theorem CW{v:Value}{k:Int}(h:v.isInt k=Z):∃t,v= .int k t:=by
 induction v with
 |int i t=>exact⟨t,by rw[beq_iff_eq.mp h]⟩
 |_=>exact(Jd h).elim
theorem DC{v:Value}{k:Str}(h:v.isStrOf k=Z):∃t,v= .str k t:=by
 induction v with
 |str i t=>exact⟨t,by rw[beq_iff_eq.mp h]⟩
 |_=>exact(Jd h).elim
theorem Ay{h:Heap}{μ:Mp}{x:List Nat}{y:AV}{kvs:List (Str×Value)}{vs:List Value}(hv:KV h μ vq [(.str x,y)] kvs)(hl:vs.length=1)(hvs:∀(j:Nat) (v:Value),vs[j]? =O v→∃k z,kvs[j]? =O (k,z)∧v.isStrOf k=Z):
  ax h μ [.str x] vs∧∃ss,StrsAre vs ss:=by
 refine aw λMz kz456=> ?_
 refine aG (List.length_eq_one_iff.mp hl) λw oz578=> ?_
 subst oz578;refine vj hv λi u r oz579 oz580 ru hr=> ?_
 subst oz579;refine ak oz580 λx' p hi=> ?_
 cases p;refine b9 (hvs 0 w rfl) λk z e1 e2=> ?_
 cases e1;refine aG (DC e2) λt oz581=> ?_
 subst oz581;refine kz456 ?_;exact⟨⟨_,_,rfl,⟨t,by rw[hi]⟩,rfl⟩,[_],.cons _ t .nil⟩
theorem rT{vs:List Value}{α:Type}{q:Array α}{f:α→Value}(hl:vs.length<2)(h:(q.toList.map f).Perm vs):(q.map f).toList=vs:=by
 rw[Array.toList_map];induction vs with
 |nil=>exact List.perm_nil.mp h
 |cons w vs=>
  induction vs with
  |nil=>exact List.perm_singleton.mp h
  |cons _ _=>exact absurd hl (by simp)
theorem vc(hA:A.handled=U)(I:au W s.heap μ st){k:KD}{es:List (AV×AV)}(e:dictOf? W.tb st lv=O (k,es))(r:ai s.heap μ lv v)(hs:dy k es=O l):
  Tr W A (call (.builtin "sorted") [v]) X s μ (dM W st μ (.lst l)):=by
 refine cG (d9 I e r) λa oz566 hr hs'=> ?_
 subst oz566;have shell:∀{K:Type} [DecidableEq K] {knd:KeyKind W.prog W.w K} {kvs:List (K×Value)} {ep:Nat},s.heap.DictAt knd a kvs ep→kvs.length<64→
   (∀(A':Around) (vs:List Value) (h1:Heap) (D:Addr) (tk:Nat) (Q:Heap→Prop) (E:Value→Shared→Prop),(∀b o,s.heap.get? b=O o→h1.get? b=O o)→h1.get? D=O (seqObj "list" vs.toArray 0)→vs.length=kvs.length→(∀(j:Nat) (v:Value),vs[j]? =O v→∃k x,kvs[j]? =O (k,x)∧knd.is k v=Z)→
    (∀out,ax s.heap μ l out.toList→Q (sortedHeap h1 D vs out))→wpAny (model W.prog W.w) A' (PK.«list.sort» ⟨[.ref D],[]⟩) (λbv s'=>bv= .done (.ret .none)∧∃h'',s'={s with heap:=h'',toks:=tk}∧Q h'') E {s with heap:=h1,toks:=tk})→
   Tr W A (call (.builtin "sorted") [.ref a]) X s μ (dM W st μ (.lst l)):=by
  intro K _ knd kvs ep hd h64 hsort Q E q;refine call_function_entry kind_sorted plain_sorted entry_sorted (args_sorted1 _) ?_;refine Jc (m:=checkCount "sorted" 1 1 _) (Jg ?_);refine Jc (kdu_collect (A:=A.in1) (kdl_dict (knd:=knd) (kvs:=kvs) (ep:=ep) hs') hA hd (by rw[JP];exact nr (JB h64)) λh0 tk acc hk hacc=> ?_);have hl:acc.toList.length=kvs.length:=hacc.1;refine Jc (L5 ?_ (by rw[hl,JP];exact nr (JB h64)));have hD:(h0.push ({cls:= .type "list",data:= .seq acc.toList.toArray}:Obj)).get? h0.objs.size=O (seqObj "list" acc.toList.toArray 0):=JG _ rfl;have k1:∀b o,s.heap.get? b=O o→(h0.push ({cls:= .type "list",data:= .seq acc.toList.toArray}:Obj)).get? b=O o:=λb o e=>Jn _ (hk b o e)
  refine Jc (KP (MV slot_list_sort ⟨_,hD,rfl⟩ entry_list_sort (Ks (hsort _ acc.toList _ _ tk (λh=>Q (.ref h0.objs.size) {s with heap:=h,toks:=tk}) _ k1 hD hl (λj v e=>hacc.2 j v (by rw[←JI];exact e)) λout ro=> ?_)
   (λbv s' x=> ?_) λ_ _ e=>e) (args_list_sort _)))
  ·have hlt:∀b o,s.heap.get? b=O o→b≠h0.objs.size∧b<(h0.push ({cls:= .type "list",data:= .seq acc.toList.toArray}:Obj)).objs.size:=λb o e=>by
    have:=Kr (hk b o e);exact⟨Lo this,by rw[MB];exact MH this⟩
   have k2:∀b o,s.heap.get? b=O o→(sortedHeap (h0.push ({cls:= .type "list",data:= .seq acc.toList.toArray}:Obj)) h0.objs.size acc.toList out).get? b=O o:=λb o e=>by
    rw[sortedHeap_old (hlt b o e).1 (hlt b o e).2];exact k1 b o e
   refine aG (sortedHeap_at (out:=out) hD) λc hc=> ?_
   have nm:¬μ.Mem h0.objs.size:=λm=>by
    refine aG ((I.fresh _ m).2) λo e=> ?_
    have:=hk _ _ e;rw[bj] at this;cases this
   exact q _ _ _ _ (aH.more k2) ⟨⟨_,_,_,_,rfl,nm,hc,rfl,rfl,ro.step (aH.more (X:=X0) k2)⟩,rfl,I.more k2⟩
  ·obtain⟨rfl,h'',rfl,x⟩:=x;exact⟨_,rfl,Jg ⟨_,rfl,x⟩⟩
 induction k with
 |tup=>simp only[dy] at hs;cases hs
 |int=>
  simp only[dy] at hs;split at hs
  ·rename_i h64;cases hs;refine b9 hr λkvs ep hd hv=> ?_
   refine shell hd (by rw[hv.length];exact h64) λA' vs h1 D tk Q E k1 hD hl hvs q=> ?_
   have hI:OZ vs (kvs.map (·.1)):=jH (by simpa using hl) λj v e=>by
    refine b9 (hvs j v e) λk x e1 e2=> ?_
    refine aG (CW e2) λt ht=> ?_
    exact⟨k,t,by rw[JK,e1];rfl,ht⟩
   refine list_sort_tree hD hI (by rw[hl,hv.length];exact h64) λout ns' a1 a2 a3=>⟨rfl,_,rfl,q out ?_⟩
   rw[qQ hv,←ej (a2.trans (gS _).symm) a3 (eW _)];exact fC a1
  ·contradiction
 |str=>
  refine b9 hr λkvs ep hd hv=> ?_
  have hh:=Bk hs;have hle:es.length<2:=by rcases hh with⟨rfl,_⟩|⟨x,y,rfl,_⟩<;>simp
  refine shell hd (by rw[hv.length];exact Oe hle (by decide)) λA' vs h1 D tk Q E k1 hD hl hvs q=> ?_
  rw[hv.length] at hl;have one:ax s.heap μ l vs∧∃ss,StrsAre vs ss:=by
   rcases hh with⟨rfl,rfl⟩|⟨x,y,rfl,rfl⟩
   ·exact(LF.mp hl)▸(⟨rfl,[],.nil⟩)
   ·exact Ay hv hl hvs
  obtain⟨ro,ss,hstr⟩:=one;have hl2:vs.length<2:=by rw[hl];exact hle
  exact list_sort_treeK O9 hD hstr.keysOf (λv1 v2 rest e=>by rw[e] at hl2;exact absurd hl2 (by simp)) (Oe hl2 (by decide)) λst' a1 a2=>⟨rfl,_,rfl,q _ (by
   have a2:=a1.toList;have z:((arrOf st').map (·.2)).toList=vs:=rT hl2 (by have:=a2.map Prod.snd;rwa [pairsOf_toList,List.map_snd_zip (JC _)] at this);rw[z];exact ro)⟩
end
section
set_option tactic.hygienic true
noncomputable def cw:List AV→Option (List Bool)
 |[]=>O []
 | .bool b::l=>(cw l).map (b::·)
 |_=>U
theorem gR:∀{l:List AV} {bs:List Bool},cw l=O bs→l=bs.map AV.bool
 |[],bs,e=>by simp only[cw,JF] at e;subst e;rfl
 |a::l,bs,e=>by
  cases a<;>simp only[cw] at e<;>first|cases e|skip
  refine ak (Jr.mp e) λcs h oz601=> ?_
  subst oz601;rw[gR h];rfl
noncomputable def eY:List AV→Option (List Int)
 |[]=>O []
 | .int b::l=>(eY l).map (b::·)
 |_=>U
theorem mN:∀{l:List AV} {bs:List Int},eY l=O bs→l=bs.map AV.int
 |[],bs,e=>by simp only[eY,JF] at e;subst e;rfl
 |a::l,bs,e=>by
  cases a<;>simp only[eY] at e<;>first|cases e|skip
  refine ak (Jr.mp e) λcs h oz602=> ?_
  subst oz602;rw[mN h];rfl
theorem uQ(bs:List Bool):(JE bs.length).all (λi=>bs.getD i N)=bs.all id:=by
 rw[K7,Jb,Jb];constructor
 ·intro h b hb;obtain⟨i,hi,rfl⟩:=Ma.mp hb;have:=h i (J6.mpr hi);simpa[OD,hi] using this
 ·intro h i hi;have hi:=J6.mp hi;have:=h bs[i] (Kk hi);simpa[OD,hi] using this
theorem uV(bs:List Bool):(JE bs.length).any (λi=>bs.getD i N)=bs.any id:=by
 rw[K7,J2,J2];constructor
 ·intro rz7;refine ak rz7 λi hi h=> ?_
  have hi:=J6.mp hi;exact⟨bs[i],Kk hi,by simpa[OD,hi] using h⟩
 ·intro rz8;refine aw λMz kz492=> ?_
  refine ak rz8 λb hb h=> ?_
  obtain⟨i,hi,rfl⟩:=Ma.mp hb;refine kz492 ?_;exact⟨i,J6.mpr hi,by simpa[OD,hi] using h⟩
noncomputable def qc(l:List Int):Int:=l.getD (QA (λi j=>QQ (l.getD i 0>l.getD j 0)) (l.length - 1)) 0
noncomputable def zk:LV→Option GV
 | .val a=>O (.dat a)
 | .ref n=>O (.ref n)
 |_=>U
noncomputable def sO:GV→LV
 | .dat a=> .val a
 | .ref n=> .ref n
theorem qa{h:Heap}{μ:Mp}{g:GV}{v:Value}(r:fv h μ g v):ai h μ (sO g) v:=by cases g<;>exact r
theorem k9{h:Heap}{μ:Mp}{lv:LV}{g:GV}{v:Value}(e:zk lv=O g)(r:ai h μ lv v):fv h μ g v:=by
 cases lv<;>simp only[zk] at e<;>first|(cases e;exact r)|cases e
theorem cq.length{h:Heap}{μ:Mp}:∀{l:List GV} {vs:List Value},cq h μ l vs→vs.length=l.length
 |[],_,r=>by subst r;rfl
 |_::_,_,⟨v,rest,e,_,t⟩=>by subst e;simp[cq.length t]
theorem cq.get{h:Heap}{μ:Mp}:∀{l:List GV} {vs:List Value} {i:Nat} {a:GV},cq h μ l vs→l[i]? =O a→∃v,vs[i]? =O v∧fv h μ a v
 |[],_,_,_,_,e=>by simp at e
 |_::_,_,0,_,⟨v,rest,er,h1,_⟩,e=>by
  subst er;simp only[JM,JF] at e;subst e;exact⟨v,rfl,h1⟩
 |_::_,_,i+1,_,⟨v,rest,er,_,h2⟩,e=>by
  subst er;simp only[J1] at e ⊢;exact cq.get h2 e
theorem cq.append{h:Heap}{μ:Mp}:∀{l l':List GV} {vs vs':List Value},cq h μ l vs→cq h μ l' vs'→cq h μ (l++l') (vs++vs')
 |[],_,_,_,r,r'=>by subst r;exact r'
 |_::_,_,_,_,⟨v,rest,er,h1,h2⟩,r'=>by subst er;exact⟨v,rest++_,rfl,h1,cq.append h2 r'⟩
section
variable{W:Wd}{A:Around}{X:Addr→Prop}{s:Shared}{h':Heap}{μ:Mp}{st:St}{lv:LV}{v u:Value}{l m:List AV}{b:Bool}
theorem kJ{B:Around}(hB:B.handled=U)(I:au W s.heap μ st)(e:ao st lv=O (b,l))(r:ai s.heap μ lv v):
  ∃(o:Obj) (a:Addr) (vs:Array Value) (St:Nat→Heap→Prop),v= .ref a∧o.isFreed=N∧ax s.heap μ l vs.toList∧(∀(A':Around) (Q:Value→Shared→Prop) (E:Value→Shared→Prop),Q (.ref s.heap.objs.size) {s with heap:=s.heap.push o}→wpAny (model W.prog W.w) A' (pyIter v) Q E s)∧
   Walks W.prog W.w B s.heap.objs.size [s.heap.objs.size,a] [s.heap.objs.size] vs.size (λi u=>vs[i]? =O u) St∧St 0 (s.heap.push o)∧(∀b∈[s.heap.objs.size,a],b<(s.heap.push o).objs.size):=by
 refine dJ (bJ I e r) λa o vs n oz603 ho hc hd hr=> ?_
 subst oz603;have hlt:=Kr ho;have hfp:∀(o':Obj),∀b∈[s.heap.objs.size,a],b<(s.heap.push o').objs.size:=λo' b hb=>by
  rw[MB];rcases Jh.mp hb with e|hb
  ·rw[e];exact KZ _
  ·rw[Ja.mp hb];exact MH hlt
 induction b with
 |true=>exact⟨_,a,vs,_,rfl,rfl,hr,λA' Q E q=>Od ⟨o,ho,hc,n,hd⟩ q,Walks.list hB _ a (Lo hlt) vs,⟨⟨_,JG _ rfl,rfl,rfl⟩,_,Jn _ ho,hc,n,hd⟩,hfp _⟩
 |false=>exact⟨_,a,vs,_,rfl,rfl,hr,λA' Q E q=>NW ⟨o,ho,hc,n,hd⟩ q,Walks.tuple hB _ a (Lo hlt) vs,⟨⟨_,JG _ rfl,rfl,rfl⟩,_,Jn _ ho,hc,n,hd⟩,hfp _⟩
theorem i9{o:Obj}{h2:Heap}(hk:∀b ob,b∉[s.heap.objs.size]→(s.heap.push o).get? b=O ob→h2.get? b=O ob):∀b ob,s.heap.get? b=O ob→h2.get? b=O ob:=λb ob e=>
 hk b ob (λq=>absurd (Ja.mp q▸Kr e) (Lv _)) (Jn _ e)
theorem tT{bs:List Bool}{vs:Array Value}(hr:ax s.heap μ (bs.map AV.bool) vs.toList){i:Nat}{w:Value}(e:vs[i]? =O w):w= .bool (bs.getD i N):=by
 refine aw λMz kz497=> ?_
 obtain⟨x,hx,rx⟩:=hr.get' (i:=i) (by rw[JI];exact e);rw[JK] at hx;refine ak (Jr.mp hx) λc hc oz641=> ?_
 subst oz641;refine kz497 ?_;rw[rx,Jp,hc];rfl
theorem CU(hA:A.handled=U)(I:au W s.heap μ st)(e:ao st lv=O (b,l))(r:ai s.heap μ lv v){bs:List Bool}(hb:cw l=O bs):
  Tr W A (call (.builtin "all") [v]) X s μ (dM W st μ (.bool (bs.all id))):=by
 refine Dn (kJ (B:=A.in1) hA I e r) λo a vs St oz605 hf hr hit wk s0 hfp=> ?_
 rw[gR hb] at hr;have hz:vs.size=bs.length:=by rw[←JR,hr.length];simp
 intro Q E q;refine call_all_walk (hit _ _ _ ⟨_,_,_,_,_,_,λi=>bs.getD i N,rfl,wk,s0,λi w s Q E hw hq=> ?_,λh2 tk hk=> ?_⟩)
 ·rw[tT hr hw];exact KN hq
 ·have k:=i9 hk;rw[hz,uQ];exact q _ h2 tk μ (aH.more k) ⟨rfl,rfl,I.more k⟩
theorem Ci(hA:A.handled=U)(I:au W s.heap μ st)(e:ao st lv=O (b,l))(r:ai s.heap μ lv v){bs:List Bool}(hb:cw l=O bs):
  Tr W A (call (.builtin "any") [v]) X s μ (dM W st μ (.bool (bs.any id))):=by
 refine Dn (kJ (B:=A.in1) hA I e r) λo a vs St oz606 hf hr hit wk s0 hfp=> ?_
 rw[gR hb] at hr;have hz:vs.size=bs.length:=by rw[←JR,hr.length];simp
 intro Q E q;refine call_any_walk (hit _ _ _ ⟨_,_,_,_,_,_,λi=>bs.getD i N,rfl,wk,s0,λi w s Q E hw hq=> ?_,λh2 tk hk=> ?_⟩)
 ·rw[tT hr hw];exact KN hq
 ·have k:=i9 hk;rw[hz,uV];exact q _ h2 tk μ (aH.more k) ⟨rfl,rfl,I.more k⟩
theorem DO(hA:A.handled=U)(I:au W s.heap μ st)(e:ao st lv=O (b,l))(r:ai s.heap μ lv v){ns:List Int}(hb:eY l=O ns)(hne:ns.isEmpty=N):
  Tr W A (call (.builtin "max") [v]) X s μ (dM W st μ (.int (qc ns))):=by
 refine Dn (kJ (B:=A.in1) hA I e r) λo a vs St oz607 hf hr hit wk s0 hfp=> ?_
 rw[mN hb] at hr;have hz:vs.size=ns.length:=by rw[←JR,hr.length];simp
 have at':∀i w,vs[i]? =O w→∃t:Tok,w=QK (ns.getD i 0) t:=λi w e=>by
  refine aw λMz kz503=> ?_
  obtain⟨x,hx,rx⟩:=hr.get' (i:=i) (by rw[JI];exact e);rw[JK] at hx;refine kz503 ?_;refine ak (Jr.mp hx) λc hc oz608=> ?_
  subst oz608;simp only[ay] at rx;refine aG rx λt oz609=> ?_
  subst oz609;exact⟨t,by rw[Jp,hc];rfl⟩
 intro Q E q;refine call_max_walk (hit _ _ _ ⟨_,_,_,_,_,_,_,rfl,wk,s0,hfp,?_,CmpOf.ints_gt (λi=>ns.getD i 0) at',λw h2 tk hw hk=> ?_⟩)
 ·rw[hz];cases ns with|nil=>cases hne|cons _ _=>simp
 ·have k:=i9 hk;rw[hz] at hw;refine aG (at' _ _ hw) λt oz610=> ?_
  subst oz610;exact q _ h2 tk μ (aH.more k) ⟨⟨t,rfl⟩,rfl,I.more k⟩
noncomputable def nJ:AV→Option Bool
 | .str _=>O Z
 | .int _=>O N
 |_=>U
theorem zr(I:au W s.heap μ st){x:AV}{c:Bool}(e:nJ x=O c)(r:ay s.heap μ x v):Tr W A (call (.builtin "isinstance") [v,.type "str"]) X s μ (cX s μ (λr=>r= .bool c)):=by
 have XK:W.K.In s.heap:=W.XB.keeps I.base;cases x<;>simp only[nJ] at e<;>first|cases e|skip
 ·simp only[ay] at r;obtain⟨t,rfl⟩:=r
  exact Tr.same (a:= .bool N) (λQ E k=>kia_one kitx_int XK trivial (by rfl) (by intro q;cases q) k) rfl
 ·simp only[ay] at r;obtain⟨t,rfl⟩:=r
  exact Tr.same (a:= .bool Z) (λQ E k=>kia_one kitx_str XK trivial (by rfl) (by intro q;cases q) k) rfl
theorem qW(I:au W s.heap μ st){k:KD}{es:List (AV×AV)}{x y:AV}{z:Value}(e:dictOf? W.tb st lv=O (k,es))(r:ai s.heap μ lv v)(hk:aU k x=Z)(rx:ay s.heap μ x u)(ry:ay s.heap μ y z)(hu:A.units+18<cLine):
  Tr W A (call (.builtin "dict.get") [v,u,z]) X s μ (dM W st μ ((aE es x).getD y)):=by
 refine cG (d9 I e r) λa oz611 hr hs=> ?_
 subst oz611;intro Q E q;have bv:∀(w:Option Value) (tk:Nat),(match aE es x with|none=>w=U|some y=>∃u,w=O u∧ay s.heap μ y u)→Q (w.getD z) {s with toks:=tk}:=λw tk hw=>by
  refine q _ s.heap tk μ (aH.refl X s.heap μ) ⟨?_,rfl,I⟩;split at hw
  ·rename_i h;rw[hw,h];exact ry
  ·rename_i h;obtain⟨u,rfl,ru⟩:=hw;rw[h];exact ru
 induction k with
 |int=>
  refine b9 hr λkvs ep hd hv=> ?_
  cases x<;>simp only[aU] at hk<;>first|cases hk|skip
  rename_i i;simp only[ay] at rx;obtain⟨t,rfl⟩:=rx
  exact Of La hd.dictOf.typeIs LQ (LG _ _ _) (Nb (LK W.prog W.w) (k:=i) a (by simp[LK,MG]) hs z) ⟨_,hd.dictOf.mapOf,bv _ _ (hv.get fG iI rfl)⟩
 |str=>
  refine b9 hr λkvs ep hd hv=> ?_
  cases x<;>simp only[aU] at hk<;>first|cases hk|skip
  rename_i i;simp only[ay] at rx;obtain⟨t,rfl⟩:=rx
  exact Of La hd.dictOf.typeIs LQ (LG _ _ _) (Nb (Km W.prog W.w) (k:=b8 i) a (by simp[Km,L4]) hs z) ⟨_,hd.dictOf.mapOf,bv _ _ (hv.get fF iP ⟨i,rfl,rfl⟩)⟩
 |tup=>
  refine ak hr λxs hd hv=> ?_
  refine ak (lQ hk rx) λka oz612 ik=> ?_
  subst oz612;refine Of La hd.typeIs LQ (LG _ _ _) (meetsH_dict_get_default (eN W.prog W.w) a (a:=ka) hs z) ⟨by show A.units+1+16<cLine;exact JB hu,_,xs,ik,hd,bv _ _ ?_⟩;have:=hv.get (x:=x)
  revert this
  cases aE es x with
  |none=>intro h;simp only at h ⊢;rw[h];rfl
  |some y=>intro h;obtain⟨c,w,h1,h2⟩:=h;exact⟨w,by simp[h1],h2⟩
theorem lH{x:AV}(r:ay s.heap μ x v):Tr W A (Kg .Is v .none) X s μ (cX s μ (λr=>r= .bool (x== .none)))∧Tr W A (Kg .IsNot v .none) X s μ (cX s μ (λr=>r= .bool (!(x== .none)))):=by
 have e:(v==Mx)=(x== .none):=by
  cases x<;>simp only[ay] at r
  ·refine aw λMz kz507=> ?_
   subst r;refine kz507 ?_;rfl
  ·refine aw λMz kz508=> ?_
   subst r;refine kz508 ?_;rfl
  ·refine aw λMz kz509=> ?_
   refine aG r λt oz655=> ?_
   subst oz655;refine kz509 ?_;rfl
  ·refine aw λMz kz510=> ?_
   refine aG r λt oz656=> ?_
   subst oz656;refine kz510 ?_;rfl
  ·refine aw λMz kz511=> ?_
   refine xc r λa o vs n oz657 _=> ?_
   subst oz657;refine kz511 ?_;rfl
  ·refine aw λMz kz512=> ?_
   refine xc r λa o vs n oz658 _=> ?_
   subst oz658;refine kz512 ?_;rfl
 exact⟨Tr.same (a:= .bool (v== .none)) (λQ E k=>is_none (k s.toks)) (by rw[e]),Tr.same (a:= .bool (!(v== .none))) (λQ E k=>isNot_none (k s.toks)) (by rw[e])⟩
end
end
section
set_option tactic.hygienic true
open Builtin Builtin.ObjectAttr
structure wX(W:Wd)(c i:Nat):Prop where
 get:Pa W.K (W.ca c) (W.an i)=Z
 dict:Nv W.K (W.ca c)=Z
 attr:∃a,NZ W.K (.ref (W.ca c)) (W.an i)=O a∧noGet W.K a=Z
structure BO(W:Wd)(c i:Nat):Prop where
 set:NZ W.K (.ref (W.ca c)) "__setattr__"=O (O (.builtin "object.__setattr__"))
 over:PD W.K (W.ca c)=Z
 take:QB W.K (W.ca c) (W.an i)=O U
 dict:Nv W.K (W.ca c)=Z
structure xi(W:Wd)(c i:Nat)(f:Addr):Prop where
 get:Pa W.K (W.ca c) (W.an i)=Z
 find:NZ W.K (.ref (W.ca c)) (W.an i)=O (O (.ref f))
 fn:isFn W.K (.ref f)=Z
structure B2(W:Wd)(c:Nat)(f:Addr):Prop where
 makes:makesIn W.K (W.ca c)=Z
 init:NZ W.K (.ref (W.ca c)) "__init__"=O (O (.ref f))
 fn:typeIn W.K (.ref f)=O (.type "function")
noncomputable def kB:List (Nat×GV)→Nat→Option GV
 |[],_=>U
 |(i,v)::fs,j=>if i=j then O v else kB fs j
noncomputable def pU:List (Nat×GV)→Nat→GV→List (Nat×GV)
 |[],j,v=>[(j,v)]
 |(i,u)::fs,j,v=>if i=j then(i,v)::fs else(i,u)::pU fs j v
section
variable{W:Wd}{A:Around}{X:Addr→Prop}{s:Shared}{h:Heap}{μ:Mp}{st:St}{v u:Value}{n c i:Nat}{fs:List (Nat×GV)}
theorem iy{t:Tok}{x y:Str}:(Value.str x t).isStr y=(x==y):=rfl
theorem ip(inj:∀i j,W.an i=W.an j→i=j):∀{fs:List (Nat×GV)} {es:List Lm},eu W h μ fs es→match kB fs i with|none=>getL (W.an i) es=O U|some g=>∃v,getL (W.an i) es=O (O v)∧fv h μ g v
 |[],_,r=>by subst r;rfl
 |(j,g)::fs,_,⟨e,r,t,er,hk,rg,rr⟩=>by
  subst er;have ih:=ip inj rr;simp only[kB];by_cases hj:j=i
  ·subst hj;rw[if_pos rfl];refine⟨_,?_,rg⟩;delta getL;rw[List.find?_cons_of_pos (by rw[hk,iy];simp)]
  ·rw[if_neg hj];have ne:(e.key.isStr (W.an i))=N:=by rw[hk,iy];exact beq_eq_false_iff_ne.mpr λq=>hj (inj _ _ q)
   have e1:getL (W.an i) (e::r)=getL (W.an i) r:=by
    delta getL;rw[List.find?_cons_of_neg (by rw[ne];decide)];have:e.refKey=N:=by
     delta QL;rw[hk]
    simp[this]
   rw[e1];exact ih
theorem rd(inj:∀i j,W.an i=W.an j→i=j){g:GV}{hs:Int}{t:Tok}(rg:fv h μ g v):∀{fs:List (Nat×GV)} {es:List Lm},eu W h μ fs es→eu W h μ (pU fs i g) (putL (W.an i) hs (.str (W.an i) t) v es)
 |[],_,r=>by subst r;exact⟨_,_,t,rfl,rfl,rg,rfl⟩
 |(j,g')::fs,_,⟨e,r,t',er,hk,rg',rr⟩=>by
  subst er;have ih:=rd inj (hs:=hs) (t:=t) rg rr;simp only[pU];unfold putL;by_cases hj:j=i
  ·subst hj;rw[if_pos rfl,if_pos (by rw[hk,iy];simp)];exact⟨_,_,t',rfl,hk,rg,rr⟩
  ·rw[if_neg hj,if_neg (by rw[hk,iy];simp;exactλq=>hj (inj _ _ q))];exact⟨_,_,t',rfl,hk,rg',ih⟩
theorem eu.length:∀{fs:List (Nat×GV)} {es:List Lm},eu W h μ fs es→es.length=fs.length
 |[],_,r=>by subst r;rfl
 |(_,_)::_,_,⟨e,r,t,er,_,_,rr⟩=>by subst er;simp[eu.length rr]
theorem ol(I:au W s.heap μ st)(e:st.G[n]? =O (.inst c fs))(r:ai s.heap μ (.ref n) v):
  ∃x dx es k,v= .ref x∧μ.g[n]? =O (x,O dx)∧InstAt s.heap x (MF (W.ca c) dx) (W.ca c) (O (NS es k))∧s.heap.get? dx=O (NS es k)∧eu W s.heap μ fs es:=by
 refine ak r λoz666 hp oz667=> ?_
 obtain⟨x,d⟩:=oz666;subst oz667;refine vj (I.og _ _ _ e hp) λdx es k hd h1 h2 h3=> ?_
 simp only at hd h1;subst hd;exact⟨x,dx,es,k,rfl,hp,⟨h1,rfl,rfl,h2⟩,h2,h3⟩
theorem AE(inj:∀i j,W.an i=W.an j→i=j)(I:au W s.heap μ st)(e:st.G[n]? =O (.inst c fs))(r:ai s.heap μ (.ref n) v)(ok:wX W c i){g:GV}(hg:kB fs i=O g)(expr:Bool):
  Tr W A (getAttr v (W.an i) expr) X s μ (cX s μ (ai s.heap μ (sO g))):=by
 refine dJ (ol I e r) λx dx es k oz668 hp IA hd hf=> ?_
 subst oz668;have:=ip inj hf (i:=i);rw[hg] at this;refine ak this λw hw rw'=> ?_
 refine ak ok.attr λa ha hn=> ?_
 exact Tr.same (a:=w) (λQ E q=>PySem.W.get_value (W.XB.keeps I.base) IA (OM ok.get).1 (findObj_own ok.dict ha hn (hw)) rw'.handed (q _)) (qa rw')
theorem uP(inj:∀i j,W.an i=W.an j→i=j)(I:au W s.heap μ st)(e:st.G[n]? =O (.inst c fs))(r:ai s.heap μ (.ref n) v){f:Addr}(ok:xi W c i f)(hg:kB fs i=U)(pl:Sem Bool)
  (Q:Value×List Value→Shared→Prop) (E:Value→Shared→Prop) (q:Q (.ref f,[v]) s):wpAny (model W.prog W.w) A (PE v (W.an i) pl) Q E s:=by
 refine dJ (ol I e r) λx dx es k oz669 hp IA hd hf=> ?_
 subst oz669;have:=ip inj hf (i:=i);rw[hg] at this;exact PySem.W.method_fn (W.XB.keeps I.base) IA (OM ok.get).1 (OM ok.get).2 ok.find (beq_iff_eq.mp ok.fn) (by show(lookIn _ (NS es k)).map _=_;rw[lookIn_dict,this];rfl) q
theorem yq{prog:Program}{w:World}{K:Frag}{C x dx:Addr}{ox:Obj}{name:Str}{tk:Tok}{es es':List Lm}{k k':Nat}{R:Result→Shared→Prop}(XK:K.In s.heap)
  (IA:InstAt s.heap x ox C (O (NS es k))) (hd:ox.dict=O dx) (D:s.heap.get? dx=O (NS es k)) (hp:PD K C=Z) (ht:QB K C name=O U) (hh:Nv K C=Z)
  (hl:(getL name es).isSome=Z) (e:(putL name (KJ w.params name) (.str name s.toks) v es,putN name es k)=(es',k')) (hz:es'.length≤1000)
  (q:∀h',K0 dx s.heap h'→h'.get? dx=O (NS es' k')→R (.ok (.ret .none)) {s with heap:=h',toks:=s.toks+1}):
  Oc (model prog w) A (.call (.builtin "object.__setattr__") ⟨[.ref x,.str name tk,v],[]⟩) R s:=by
 refine osa_open XK IA hp ht λb=> ?_
 refine aw λMz kz531=> ?_
 refine ak (any_some hh) λcd hc hd'=> ?_
 obtain⟨hx,hcl,hn, -⟩:=IA;obtain⟨oc,odi,oda,osl⟩:=ox;dsimp only at hcl hd;subst hcl hd;refine aO (Prod.mk.inj e) λe1 e2=> ?_
 have D':(s.heap.update dx (Obj.putName name (KJ w.params name) (.str name s.toks) v)).get? dx=O (NS es' k'):=by
  rw[←e1,←e2,←PQ];exact Heap.get?_update_self _ D (by rw[PQ];rfl)
 refine kz531 ?_;refine Jc (Jg (Jc (Jc (Pb hx (Jc ((looks_clsIn XK hc).here ?_))))));rw[hd'];refine Jg (a:=O dx) (Jc (Jg (Jc ?_)));refine Jc (Jc (wpAny_askSetting (Jg (Jc (wpAny_mkText (Jc (Pb D ?_)))))));dsimp only;have c:(!es.toArray.any (·.key.isStr name)&&es.toArray.any (·.refKey))=N:=by
  rw[←MW,←MW];delta getL at hl;split at hl
  ·rename_i en he;rw[J2.mpr ⟨en,List.mem_of_find?_eq_some he,List.find?_some he⟩];rfl
  ·split at hl
   ·contradiction
   ·rename_i z;rw[JN] at z;rw[z,Np]
 rw[aRefKeyMayBeTheName_at,c];refine wpAny_updatePart D ?_;refine Jc (wpAny_lookBehind D' (pastItsLine_dict (by rw[Ob,JP];exact nr hz)) ?_);exact Jg (q _ (Lr ..) D')
theorem rz(fs:List (Nat×GV))(i:Nat)(g:GV):(pU fs i g).length≤fs.length+1:=by
 induction fs with
 |nil=>simp[pU]
 |cons a fs ih=>obtain⟨j,u⟩:=a;simp only[pU];split<;>simp;exact ih
theorem s8(inj:∀i j,W.an i=W.an j→i=j)(I:au W s.heap μ st)(e:st.G[n]? =O (.inst c fs))(r:ai s.heap μ (.ref n) v)(ok:BO W c i){g:GV}(rg:fv s.heap μ g u)(hz:fs.length<900):
  Tr W A (setAttr v (W.an i) u) X s μ (λ_ h' μ'=>μ'=μ∧au W h' μ {st with G:=st.G.set n (.inst c (pU fs i g))}):=by
 refine dJ (ol I e r) λx dx es k oz670 hp IA hd hf=> ?_
 subst oz670;have XK:W.K.In s.heap:=W.XB.keeps I.base;intro Q E q;have hput:=rd inj (hs:=KJ W.w.params (W.an i)) (t:=s.toks+1) (i:=i) rg hf;refine set_plain XK IA ok.set (yq (s:={s with toks:=s.toks+1}) XK IA rfl hd ok.over ok.take ok.dict ?_ rfl ?_ λh' hs hd'=> ?_)
 ·have:=ip inj hf (i:=i);split at this
  ·rw[this];rfl
  ·obtain⟨w,hw,_⟩:=this;rw[hw];rfl
 ·rw[hput.length];have:=rz fs i g;exact nr (JD this hz)
 ·have S:aH X s.heap μ h' μ:=aH.setG I hp (.inr rfl) hs ⟨_,hd'⟩;have hx:h'.get? x=O (MF (W.ca c) dx):=(hs.2 x (I.g_ne2 hp rfl)).trans IA.at_;exact q () h' _ μ S ⟨rfl,I.setG hp (.inr rfl) hs ⟨dx,_,_,rfl,hx,hd',hput.kept (cD.of_stp S)⟩⟩
end
end
section
open Builtin Builtin.ObjectAttr
section
variable{W:Wd}{A:Around}{X:Addr→Prop}{s:Shared}{h:Heap}{μ:Mp}{st st':St}{v u:Value}{n c i:Nat}{fs:List (Nat×GV)}{as:List LV}{vs:List Value}{f:Addr}
theorem Cl(ok:B2 W c f)(I:au W s.heap μ st)(r:bx s.heap μ as vs)
  (hinit:∀(s1:Shared) (μ1:Mp) (vs1:List Value),au W s1.heap μ1 {st with G:=st.G++[.inst c []]}→bx s1.heap μ1 (.ref st.G.length::as) vs1→
   Ct W (A.under (.builtin "type.__call__" ⟨.ref (W.ca c)::vs,[]⟩)) (.ref f) vs1 s1 μ1 (λv h' μ'=>v= .none∧au W h' μ' st')):
  Ct W A (.ref (W.ca c)) vs s μ (λv h' μ'=>ai h' μ' (.ref st.G.length) v∧au W h' μ' st'):=by
 intro R q;have XK:W.K.In s.heap:=W.XB.keeps I.base;obtain⟨hh,g,d,t,os⟩:=s;have k1:∀b o,hh.get? b=O o→((hh.push MY).push (MF (W.ca c) hh.objs.size)).get? b=O o:=λb o e=>Jn _ (Jn _ e)
 have gx:((hh.push MY).push (MF (W.ca c) hh.objs.size)).get? (hh.objs.size+1)=O (MF (W.ca c) hh.objs.size):=by
  have:=JG (hh.push MY) (o:=MF (W.ca c) hh.objs.size) rfl;rw[MB] at this;exact this
 have gd:((hh.push MY).push (MF (W.ca c) hh.objs.size)).get? hh.objs.size=O MY:=Jn _ (JG _ rfl);obtain⟨I1,S1⟩:=I.addG (X:=X0) (p:=(hh.objs.size+1,O hh.objs.size)) (o:= .inst c []) k1 (λa q=>by
  rcases q with q|q
  ·exact bm (by simp only at q;rw[q];exact OL _)
  ·cases q;exact bm (JC _)) (by simp) ⟨hh.objs.size,[],0,rfl,gx,gd,rfl⟩
 refine make_core (makes_of XK ok.makes) (looks_findIn XK ok.init) (λself=>bind_fn XK self ok.fn) (.inl rfl) ?_;have rx:ai ((hh.push MY).push (MF (W.ca c) hh.objs.size)) ⟨μ.g++[(hh.objs.size+1,O hh.objs.size)],μ.s,μ.off⟩ (.ref st.G.length) (.ref (hh.objs.size+1)):=by
  refine⟨(hh.objs.size+1,O hh.objs.size),?_,rfl⟩;rw[←I.lg,JS]
 refine hinit ⟨_,g,d,t,os⟩ _ (.ref (hh.objs.size+1)::vs) I1 ⟨_,_,rfl,rx,r.step S1⟩ _ λw h' tk' μ' S2 p2=> ?_
 exact⟨p2.1,q _ h' tk' μ' (S1.trans S2) ⟨rx.step S2,p2.2⟩⟩
theorem uX(I:au W s.heap μ st){l:List GV}{k:Int}{t:Tok}{x:GV}(e:st.G[n]? =O (.rlist l))(r:ai s.heap μ (.ref n) v)(h0:0≤k)(hhi:k<2^63)(hx:l[k.toNat]? =O x):
  Tr W A (Mn v (.int k t)) X s μ (cX s μ (ai s.heap μ (sO x))):=by
 refine aw λMz kz545=> ?_
 refine ak r λp hp oz690=> ?_
 subst oz690;obtain⟨_,vs,m,ho,hr⟩:=I.og _ _ _ e hp;refine ak (hr.get hx) λw hw rw'=> ?_
 rw[JI] at hw;refine kz545 ?_;exact Tr.same (a:=w) (λQ E q=>NT ⟨_,ho,rfl,m,rfl⟩ h0 hhi hw (q s.toks)) (qa rw')
theorem wL(I:au W s.heap μ st){l:List GV}(e:st.G[n]? =O (.rlist l))(r:ai s.heap μ (.ref n) v)(hl:l.length<aA):
  Tr W A (call (.builtin "len") [v]) X s μ (cX s μ (Gq l.length)):=by
 refine aw λMz kz546=> ?_
 refine ak r λp hp oz691=> ?_
 subst oz691;obtain⟨_,vs,m,ho,hr⟩:=I.og _ _ _ e hp;have hz:vs.size=l.length:=hr.length;refine kz546 ?_;exact Tr.same (a:= .int vs.size (s.toks+1)) (λQ E k=>Pt ⟨_,ho,rfl,m,rfl⟩ (by rw[hz];delta aA at hl;omega) (k _)) ⟨_,by rw[hz]⟩
theorem qZ(I:au W s.heap μ st){l:List GV}{x:GV}(e:st.G[n]? =O (.rlist l))(r:ai s.heap μ (.ref n) v)(rx:fv s.heap μ x u)(hl:l.length<aA):
  Tr W A (call (.builtin "list.append") [v,u]) X s μ (λr h' μ'=>r= .none∧μ'=μ∧au W h' μ {st with G:=st.G.set n (.rlist (l++[x]))}):=by
 refine aw λMz kz547=> ?_
 refine ak r λp hp oz692=> ?_
 subst oz692;obtain⟨h2,vs,m,ho,hr⟩:=I.og _ _ _ e hp;have hz:vs.size=l.length:=hr.length;refine kz547 ?_;intro Q E q;refine append_at ho (λh' hs ho'=> ?_) (hsz:=by rw[hz,JP];delta aA at hl;exact nr (JB hl));have S:aH X s.heap μ h' μ:=aH.setG I hp (.inl rfl) hs ⟨_,ho'⟩;refine q .none h' s.toks μ S ⟨rfl,rfl,I.setG hp (.inl rfl) hs ⟨h2,_,_,ho',?_⟩⟩;rw[ME];refine cq.append (cq.kept (cD.of_stp S) hr) ⟨_,_,rfl,fv.kept (cD.of_stp S) rx,rfl⟩
theorem pp(I:au W s.heap μ st){l:List GV}(r:cq s.heap μ l vs)(hl:l.length<aA):Tr W A (Oa vs) X s μ (λv h' μ'=>ai h' μ' (.ref st.G.length) v∧au W h' μ' {st with G:=st.G++[.rlist l]}):=by
 intro Q E k;have hz:vs.length≤Lu:=by rw[r.length,JP];delta aA at hl;exact nr (JB hl)
 have kp:∀b ob,s.heap.get? b=O ob→(s.heap.push ({cls:= .type "list",data:= .seq vs.toArray}:Obj)).get? b=O ob:=λb ob e=>Jn _ e
 have K:cD s.heap (s.heap.push ({cls:= .type "list",data:= .seq vs.toArray}:Obj)) μ ⟨μ.g++[(s.heap.objs.size,U)],μ.s,μ.off⟩:=⟨λb o _ _ e _ m=>⟨kp _ _ e,λq=>by
  rcases q with⟨p,hp,q⟩|q
  ·rcases Ju.mp hp with hp|hp
   ·exact m (.inl ⟨p,hp,q⟩)
   ·rw[Ja.mp hp] at q;rcases q with q|q
    ·simp only at q;rw[q] at e;exact absurd (Kr e) (Lv _)
    ·contradiction
  ·exact m (.inr q)⟩,⟨_,rfl⟩⟩
 obtain⟨I',S⟩:=I.addG (X:=X) (p:=(s.heap.objs.size,U)) (o:= .rlist l) kp (λa q=>by
  rcases q with q|q
  ·simp only at q;rw[q];exact bj _
  ·cases q) (by simp) ⟨rfl,vs.toArray,0,JG _ rfl,cq.kept K (by simpa using r)⟩
 refine L5 (k _ _ s.toks _ S ⟨⟨(s.heap.objs.size,U),?_,rfl⟩,I'⟩) hz;rw[←I.lg,JS]
end
end
section
inductive D8 where
 |add|sub|mul|mod|div|band
inductive zD where
 |eq|ne|lt|gt|le|ge|inn|nin
inductive rL where
 |len|all|any|max|srt|lst|tup|isStr
inductive Dm where
 |val|loc|glob
set_option genInjectivity false in
inductive Md where
 |V|T|L|B (b:Bool)|C (b:Bool)
set_option genInjectivity false in
inductive X where
 |nil
 |cons (a b:X)
 |cst (a:AV)
 |var (i:Nat)
 |glb (i:Nat)
 |tup (l:X)
 |lst (m:Dm) (l:X)
 |rls (l:X)
 |dct (g:Bool) (k:KD)
 |bin (o:D8) (a b:X)
 |neg (a:X)
 |nt (a:X)
 |cmp (o:zD) (a b:X)
 |isN (n:Bool) (a:X)
 |chn (o1 o2:zD) (a b c:X)
 |bop (b:Bool) (l:X)
 |ite (c a b:X)
 |atr (i:Nat) (o:X)
 |sub (o i:X)
 |slT (o:X) (hi:X)
 |slF (o:X) (lo:X)
 |fn1 (f:rL) (a:X)
 |getD (o k d:X)
 |app (o e:X)
 |ext (o e:X)
 |pop (o:X)
 |cal (f:Nat) (as:X)
 |mth (i:Nat) (o as:X)
 |new (c:Nat) (as:X)
 |comp (loc:Bool) (tg:Nat) (bs:List Bool) (e it cond:X)
 |hole
set_option genInjectivity false in
inductive Sx where
 |nil
 |cons (s r:Sx)
 |asg (i:Nat) (e:X)
 |asc (i:Nat) (e:X)
 |as2 (i j:Nat) (e:X)
 |asT (i j:Nat) (e:X)
 |sti (o i e:X)
 |sta (o:X) (f:Nat) (e:X)
 |exp (e:X)
 |ret (e:X)
 |ife (c:X) (a b:Sx)
 |frN (tg:Nat) (it:X) (b:Sx)
 |fr2 (t1 t2:Nat) (it:X) (b:Sx)
 |frR (tg:Nat) (n:X) (b:Sx)
 |whl (n:Nat) (c:X) (b:Sx)
 |hole
set_option genInjectivity false in
structure FD where
 name:Str
 glob:Bool
 addr:Addr
 np:Nat
 dv:List AV
 nm:List Str
 body:Sx
set_option genInjectivity false in
structure Pg where
 gl:List (Str×LV)
 fd:List FD
 at_:List (Nat×Nat)
 sa:List (Nat×Nat)
 mt:List ((Nat×Nat)×Nat)
 nw:List (Nat×Nat)
 cn:List Str
 an:List Str
noncomputable abbrev ek:=Nat→List LV→St→Option (LV×St)
noncomputable abbrev Ρ:=List (Option LV)
noncomputable def di:List (Nat×Nat)→Nat→Nat→Bool
 |[],_,_=>N
 |(a,b)::l,x,y=>(a==x&&b==y)||di l x y
noncomputable def gm:List (Nat×Nat)→Nat→Option Nat
 |[],_=>U
 |(a,b)::l,x=>if a=x then O b else gm l x
noncomputable def kE:List ((Nat×Nat)×Nat)→Nat→Nat→Option Nat
 |[],_,_=>U
 |((a,b),f)::l,x,y=>if a=x∧b=y then O f else kE l x y
noncomputable def zg:LV→Option Int
 | .val (.int i)=>O i
 |_=>U
noncomputable def eG:List LV→Option (List AV)
 |[]=>O []
 | .val a::l=>(eG l).map (a::·)
 |_=>U
noncomputable def nh:List LV→Option (List GV)
 |[]=>O []
 |a::l=>match zk a with
  |some g=>(nh l).map (g::·)
  |none=>U
noncomputable def bd(o:D8)(st:St)(a b:LV):Option LV:=match o with
 | .add=>match a,b with
  | .val (.int x),.val (.int y)=>O (.val (.int (x+y)))
  | .val (.tup l),.val (.tup m)=>if l.length+m.length<aA then O (.val (.tup (l++m))) else U
  |a,b=>match ao st a,ao st b with
   |some (Z,l),O (Z,m)=>if l.length+m.length<aA then O (.val (.lst (l++m))) else U
   |_,_=>U
 | .sub=>match a,b with
  | .val (.int x),.val (.int y)=>O (.val (.int (x - y)))
  |_,_=>U
 | .mul=>match a,b with
  | .val (.int x),.val (.int y)=>if x=2∨x=31 then O (.val (.int (x*y))) else U
  |_,_=>U
 | .mod=>match a,b with
  | .val (.int x),.val (.int y)=>if y=0 then U else O (.val (.int (x.fmod y)))
  |_,_=>U
 | .div=>match a,b with
  | .val (.int x),.val (.int y)=>if y=0 then U else if y.natAbs<1073741824 then O (.val (.int (x.fdiv y))) else U
  |_,_=>U
 | .band=>match a,b with
  | .val (.int x),.val (.int y)=>O (.val (.int (O4 x y)))
  |_,_=>U
noncomputable def fB(tb:Nat→Option (KD×List (AV×AV)))(st:St)(a b:LV):Option Bool:=match a with
 | .val x=>match ao st b with
  |some (_,l)=>if x.dep≤8 then O (l.any λy=>AV.eqv y x) else U
  |none=>match dictOf? tb st b with
   |some (k,es)=>if aU k x then O (aE es x).isSome else U
   |none=>U
 |_=>U
noncomputable def af(tb:Nat→Option (KD×List (AV×AV)))(o:zD)(st:St)(a b:LV):Option Bool:=match o with
 | .eq=>match a,b with
  | .val x,.val y=>if x.dep≤8∨y.dep≤8 then O (AV.eqv x y) else U
  |_,_=>U
 | .ne=>match a,b with
  | .val x,.val y=>if x.dep≤8∨y.dep≤8 then O (!AV.eqv x y) else U
  |_,_=>U
 | .lt=>match a,b with
  | .val (.int x),.val (.int y)=>O (QQ (x<y))
  |_,_=>U
 | .gt=>match a,b with
  | .val (.int x),.val (.int y)=>O (QQ (y<x))
  |_,_=>U
 | .le=>match a,b with
  | .val (.int x),.val (.int y)=>O (QQ (x≤y))
  |_,_=>U
 | .ge=>match a,b with
  | .val (.int x),.val (.int y)=>O (QQ (y≤x))
  |_,_=>U
 | .inn=>fB tb st a b
 | .nin=>(fB tb st a b).map (!·)
noncomputable def xD(b:Bool)(l:List AV)(i:Int):Option LV:=match i with
 | .ofNat k=>if k<1000000000 then(l[k]?).map .val else U
 |i=>if -(2^63)≤i∧i<2^63∧(b=Z→0≤i) then
  match Oy i l.length with
  |some j=>(l[j]?).map .val
  |none=>U
 else U
noncomputable def aL(tb:Nat→Option (KD×List (AV×AV)))(st:St)(o i:LV):Option LV:=match i with
 | .val x=>match ao st o with
  |some (b,l)=>match x with
   | .int k=>xD b l k
   |_=>U
  |none=>match dictOf? tb st o with
   |some (k,es)=>if aU k x then(aE es x).map .val else U
   |none=>match o,x with
    | .ref n,.int k=>match st.G[n]? with
     |some (.rlist l)=>if 0≤k∧k<2^63 then(l[k.toNat]?).map sO else U
     |_=>U
    |_,_=>U
 |_=>U
noncomputable def aF(tb:Nat→Option (KD×List (AV×AV)))(f:rL)(st:St)(a:LV):Option LV:=match f with
 | .len=>match ao st a with
  |some (_,l)=>if l.length<aA then O (.val (.int l.length)) else U
  |none=>match dictOf? tb st a with
   |some (.tup,_)=>U
   |some (_,es)=>if es.length<aA then O (.val (.int es.length)) else U
   |none=>match a with
    | .ref n=>match st.G[n]? with
     |some (.rlist l)=>if l.length<aA then O (.val (.int l.length)) else U
     |_=>U
    |_=>U
 | .all=>match ao st a with
  |some (_,l)=>(cw l).map λbs=> .val (.bool (bs.all id))
  |none=>U
 | .any=>match ao st a with
  |some (_,l)=>(cw l).map λbs=> .val (.bool (bs.any id))
  |none=>U
 | .max=>match ao st a with
  |some (_,l)=>match eY l with
   |some (i::is)=>O (.val (.int (qc (i::is))))
   |_=>U
  |none=>U
 | .srt=>match dictOf? tb st a with
  |some (k,es)=>(dy k es).map λl=> .val (.lst l)
  |none=>U
 | .lst=>match ao st a with
  |some (_,l)=>if l.length<aA then O (.val (.lst l)) else U
  |none=>U
 | .tup=>match ao st a with
  |some (_,l)=>if l.length<aA then O (.val (.tup l)) else U
  |none=>U
 | .isStr=>match a with
  | .val x=>(nJ x).map λb=> .val (.bool b)
  |_=>U
noncomputable def bv(m:Md)(r:Option (LV×St)):Option (List LV×St):=match r with
 |none=>U
 |some (v,st)=>match m with
  | .V=>O ([v],st)
  | .T=>(aK st v).map λb=>([.val (.bool b)],st)
  |_=>U
noncomputable def sj(m:Md)(b:Bool)(st:St):Option (List LV×St):=match m with
 | .V=>O ([.val (.bool b)],st)
 | .T=>O ([.val (.bool b)],st)
 |_=>U
noncomputable def lA(st:St)(o:LV):Bool:=match cC st o with
 |some (.list _)=>Z
 |some _=>N
 |none=>match o with
  | .ref n=>match st.G[n]? with
   |some (.rlist _)=>Z
   |_=>N
  |_=>N
noncomputable def iu(st:St)(o e:LV):Option St:=match cC st o with
 |some (.list l)=>match e with
  | .val x=>if l.length<aA then O (bU st o (.list (l++[x]))) else U
  |_=>U
 |some _=>U
 |none=>match o with
  | .ref n=>match st.G[n]? with
   |some (.rlist l)=>match zk e with
    |some g=>if l.length<aA then O {st with G:=st.G.set n (.rlist (l++[g]))} else U
    |none=>U
   |_=>U
  |_=>U
noncomputable def tL(st:St)(o e:LV):Option St:=match cC st o with
 |some (.list l)=>match e with
  | .val (.tup m)=>if l.length+m.length<aA then O (bU st o (.list (l++m))) else U
  |_=>U
 |_=>U
noncomputable def mO(st:St)(o:LV):Option (AV×St):=match cC st o with
 |some (.list l)=>match l.getLast? with
  |some x=>if l.length<15000000 then O (x,bU st o (.list l.dropLast)) else U
  |none=>U
 |_=>U
noncomputable def bn(tg:Nat)(x:AV)(ρ:Ρ):Option Ρ:=if tg<ρ.length then O (ρ.set tg (O (.val x))) else U
noncomputable def l9(t1 t2:Nat)(x:AV)(ρ:Ρ):Option Ρ:=match x with
 | .tup [a,b]=>if t1<ρ.length∧t2<ρ.length then O ((ρ.set t1 (O (.val a))).set t2 (O (.val b))) else U
 |_=>U
section
variable{β:Type}
noncomputable def o1(q:Option (List LV×St))(f:LV→St→Option β):Option β:=match q with
 |some ([x],st1)=>f x st1
 |_=>U
noncomputable def oL(q:Option (List LV×St))(f:List LV→St→Option β):Option β:=match q with
 |some (x,st1)=>f x st1
 |none=>U
noncomputable def CE(x:LV)(f:AV→Option β):Option β:=match x with
 | .val a=>f a
 |_=>U
noncomputable def wt(x:AV)(f:Bool→Option β):Option β:=match x with
 | .bool a=>f a
 |_=>U
noncomputable def A8(x:AV)(f:Int→Option β):Option β:=match x with
 | .int a=>f a
 |_=>U
noncomputable def Be(x:LV)(f:Nat→Option β):Option β:=match x with
 | .ref a=>f a
 |_=>U
noncomputable def oV(q:Option (List LV×St))(f:AV→St→Option β):Option β:=o1 q λx st1=>CE x λa=>f a st1
noncomputable def oB(q:Option (List LV×St))(f:Bool→St→Option β):Option β:=oV q λx st1=>wt x λa=>f a st1
noncomputable def oI(q:Option (List LV×St))(f:Int→St→Option β):Option β:=oV q λx st1=>A8 x λa=>f a st1
noncomputable def oR(q:Option (List LV×St))(f:Nat→St→Option β):Option β:=o1 q λx st1=>Be x λa=>f a st1
theorem kH{q:Option (List LV×St)}{f:List LV→St→Option β}{r:β}{M:Prop}(h:oL q f=O r)(K:∀x st1,q=O (x,st1)→f x st1=O r→M):M:=by
 cases q with
 |none=>exact ns h
 |some p=>exact K p.1 p.2 rfl h
theorem aS{q:Option (List LV×St)}{f:LV→St→Option β}{r:β}{M:Prop}(h:o1 q f=O r)(K:∀x st1,q=O ([x],st1)→f x st1=O r→M):M:=by
 cases q with
 |none=>exact ns h
 |some p=>
  cases p with
  |mk l st1=>
   cases l with
   |nil=>exact ns h
   |cons x l=>
    cases l with
    |nil=>exact K x st1 rfl h
    |cons y l=>exact ns h
theorem zE{x:LV}{f:AV→Option β}{r:β}{M:Prop}(h:CE x f=O r)(K:∀a,x= .val a→f a=O r→M):M:=by
 cases x<;>first|exact ns h|exact K _ rfl h
theorem wM{x:AV}{f:Bool→Option β}{r:β}{M:Prop}(h:wt x f=O r)(K:∀a,x= .bool a→f a=O r→M):M:=by
 cases x<;>first|exact ns h|exact K _ rfl h
theorem uB{x:AV}{f:Int→Option β}{r:β}{M:Prop}(h:A8 x f=O r)(K:∀a,x= .int a→f a=O r→M):M:=by
 cases x<;>first|exact ns h|exact K _ rfl h
theorem AZ{x:LV}{f:Nat→Option β}{r:β}{M:Prop}(h:Be x f=O r)(K:∀a,x= .ref a→f a=O r→M):M:=by
 cases x<;>first|exact ns h|exact K _ rfl h
theorem iR{q:Option (List LV×St)}{f:AV→St→Option β}{r:β}{M:Prop}(h:oV q f=O r)(K:∀x st1,q=O ([.val x],st1)→f x st1=O r→M):M:=
 aS h λx st1 e h=>zE h λa ha h=>K a st1 (ha▸e) h
theorem lJ{q:Option (List LV×St)}{f:Bool→St→Option β}{r:β}{M:Prop}(h:oB q f=O r)(K:∀x st1,q=O ([.val (.bool x)],st1)→f x st1=O r→M):M:=
 iR h λx st1 e h=>wM h λa ha h=>K a st1 (ha▸e) h
theorem xG{q:Option (List LV×St)}{f:Int→St→Option β}{r:β}{M:Prop}(h:oI q f=O r)(K:∀x st1,q=O ([.val (.int x)],st1)→f x st1=O r→M):M:=
 iR h λx st1 e h=>uB h λa ha h=>K a st1 (ha▸e) h
theorem zc{q:Option (List LV×St)}{f:Nat→St→Option β}{r:β}{M:Prop}(h:oR q f=O r)(K:∀x st1,q=O ([.ref x],st1)→f x st1=O r→M):M:=
 aS h λx st1 e h=>AZ h λa ha h=>K a st1 (ha▸e) h
@[elab_as_elim] theorem aV{a:β}(r:β){M:β→Prop}(h:O a=O r)(K:M a):M r:=Jt h▸K
@[elab_as_elim] theorem dI{α:Type}{q:Option α}{f:α→β}(r:β){M:β→Prop}(h:q.map f=O r)(K:∀a,q=O a→M (f a)):M r:=by
 cases q with
 |none=>exact ns h
 |some a=>exact aV r h (K a rfl)
noncomputable def sJ(c:CO)(f:List AV→Option β):Option β:=match c with
 | .list a=>f a
 |_=>U
theorem Ar{x:CO}{f:List AV→Option β}{r:β}{M:Prop}(h:sJ x f=O r)(K:∀a,x= .list a→f a=O r→M):M:=by
 cases x<;>first|exact ns h|exact K _ rfl h
noncomputable def jG(g:GO)(f:Nat→List (Nat×GV)→Option β):Option β:=match g with
 | .inst c fs=>f c fs
 |_=>U
theorem ln{x:GO}{f:Nat→List (Nat×GV)→Option β}{r:β}{M:Prop}(h:jG x f=O r)(K:∀c fs,x= .inst c fs→f c fs=O r→M):M:=by
 cases x<;>first|exact ns h|exact K _ _ rfl h
noncomputable def xQ(x:LV)(r:Option β):Option β:=match x with
 | .val .none=>r
 |_=>U
theorem ze{x:LV}{q:Option β}{r:β}{M:Prop}(h:xQ x q=O r)(K:x= .val .none→q=O r→M):M:=by
 cases x with
 |val a=>cases a<;>first|exact ns h|exact K rfl h
 |_=>exact ns h
noncomputable def xZ(x:AV)(f:AV→AV→Option β):Option β:=match x with
 | .tup [a,b]=>f a b
 |_=>U
theorem yA{x:AV}{f:AV→AV→Option β}{r:β}{M:Prop}(h:xZ x f=O r)(K:∀a b,x= .tup [a,b]→f a b=O r→M):M:=by
 cases x with
 |tup l=>
  match l,h,K with
  |[_,_],h,K=>exact K _ _ rfl h
 |_=>exact ns h
end
noncomputable def k8:X→Bool
 | .nil=>Z
 |_=>N
noncomputable def FA(n:Bool):LV→Option Bool
 | .val x=>O (if n then !(x== .none) else x== .none)
 | .ref _=>O n
 |_=>U
noncomputable def rP(d:Dm)(l:List AV)(st1:St):LV×St:=match d with
 | .val=>(.val (.lst l),st1)
 | .loc=>(.loc st1.S.length,{st1 with S:=st1.S++[.list l]})
 | .glob=>(.ref st1.G.length,{st1 with G:=st1.G++[.con (.list l)]})
noncomputable def ky(st3:St)(x:LV)(y z:AV):Option St:=oO (cC st3 x) λc=>match c with
 | .dict k es=>if aU k y∧es.length<aA then O (bU st3 x (.dict k (jT es y z))) else U
 | .list l=>A8 y λn=>if 0≤n∧n<l.length∧l.length<aA then O (bU st3 x (.list (l.set n.toNat z))) else U
section
variable(P:Pg)(tb:Nat→Option (KD×List (AV×AV)))(Φ:ek)
noncomputable def ev:X→Md→Ρ→St→Option (List LV×St)
 | .nil,m,_,st=>match m with
  | .L=>O ([],st)
  | .C b=>O ([.val (.bool b)],st)
  |_=>U
 | .cons a b,m,ρ,st=>match m with
  | .L=>o1 (ev a .V ρ st) λv st1=>oL (ev b .L ρ st1) λvs st2=>O (v::vs,st2)
  | .B c=>if k8 b then ev a .V ρ st else o1 (ev a .V ρ st) λv st1=>oO (aK st1 v) λt=>if t==c then ev b (.B c) ρ st1 else O ([v],st1)
  | .C c=>oB (ev a .T ρ st) λt st1=>if t==c then ev b (.C c) ρ st1 else O ([.val (.bool t)],st1)
  |_=>U
 | .cst a,m,_,st=>bv m (O (.val a,st))
 | .var i,m,ρ,st=>bv m (oO ρ[i]? λo=>oO o λlv=>O (lv,st))
 | .glb i,m,_,st=>bv m (oO P.gl[i]? λp=>O (p.2,st))
 | .tup l,m,ρ,st=>bv m (oL (ev l .L ρ st) λvs st1=>oO (eG vs) λl=>if l.length<aA then O (.val (.tup l),st1) else U)
 | .lst d l,m,ρ,st=>bv m (oL (ev l .L ρ st) λvs st1=>oO (eG vs) λl=>if l.length<aA then O (rP d l st1) else U)
 | .rls l,m,ρ,st=>bv m (oL (ev l .L ρ st) λvs st1=>oO (nh vs) λl=>if l.length<aA then O (.ref st1.G.length,{st1 with G:=st1.G++[.rlist l]}) else U)
 | .dct g k,m,_,st=>bv m (O (if g then(.ref st.G.length,{st with G:=st.G++[.con (.dict k [])]}) else(.loc st.S.length,{st with S:=st.S++[.dict k []]})))
 | .bin o a b,m,ρ,st=>bv m (o1 (ev a .V ρ st) λx st1=>o1 (ev b .V ρ st1) λy st2=>(bd o st2 x y).map λv=>(v,st2))
 | .neg a,m,ρ,st=>bv m (o1 (ev a .V ρ st) λx st1=>(zg x).map λi=>(.val (.int (-i)),st1))
 | .nt a,m,ρ,st=>match m with
  | .V=>o1 (ev a .V ρ st) λx st1=>(aK st1 x).map λb=>([.val (.bool (!b))],st1)
  | .T=>oB (ev a .T ρ st) λb st1=>O ([.val (.bool (!b))],st1)
  |_=>U
 | .cmp o a b,m,ρ,st=>o1 (ev a .V ρ st) λx st1=>o1 (ev b .V ρ st1) λy st2=>oO (af tb o st2 x y) λc=>sj m c st2
 | .isN n a,m,ρ,st=>o1 (ev a .V ρ st) λx st1=>oO (FA n x) λc=>sj m c st1
 | .chn p q a b c,m,ρ,st=>o1 (ev a .V ρ st) λx st1=>o1 (ev b .V ρ st1) λy st2=>oO (af tb p st2 x y) λd=>
   if d then o1 (ev c .V ρ st2) λz st3=>oO (af tb q st3 y z) λd=>sj m d st3 else sj m N st2
 | .bop b l,m,ρ,st=>match m with
  | .V=>ev l (.B b) ρ st
  | .T=>ev l (.C b) ρ st
  |_=>U
 | .ite c a b,m,ρ,st=>match m with
  | .V=>oB (ev c .T ρ st) λt st1=>if t then ev a .V ρ st1 else ev b .V ρ st1
  | .T=>oB (ev c .T ρ st) λt st1=>if t then ev a .T ρ st1 else ev b .T ρ st1
  |_=>U
 | .atr i o,m,ρ,st=>bv m (oR (ev o .V ρ st) λn st1=>oO st1.G[n]? λg=>jG g λc fs=>if di P.at_ c i then(kB fs i).map λg=>(sO g,st1) else U)
 | .sub o i,m,ρ,st=>bv m (o1 (ev o .V ρ st) λx st1=>o1 (ev i .V ρ st1) λy st2=>(aL tb st2 x y).map λv=>(v,st2))
 | .slT o i,m,ρ,st=>bv m (o1 (ev o .V ρ st) λx st1=>oI (ev i .V ρ st1) λk st2=>oO (ao st2 x) λp=>
   if p.1 then(if p.2.length<aA∧0≤k then O (.val (.lst (p.2.take (min k.toNat p.2.length))),st2) else U) else(if p.2.length<aA then O (.val (.tup (p.2.take (bT k p.2.length))),st2) else U))
 | .slF o i,m,ρ,st=>bv m (o1 (ev o .V ρ st) λx st1=>oI (ev i .V ρ st1) λk st2=>oO (ao st2 x) λp=>
   if p.1=N∧p.2.length<aA∧1≤k∧k.toNat≤p.2.length then O (.val (.tup (p.2.drop k.toNat)),st2) else U)
 | .fn1 f a,m,ρ,st=>bv m (o1 (ev a .V ρ st) λx st1=>(aF tb f st1 x).map λv=>(v,st1))
 | .getD o k d,m,ρ,st=>bv m (o1 (ev o .V ρ st) λx st1=>oO (dictOf? tb st1 x) λ_=>oV (ev k .V ρ st1) λy st2=>oV (ev d .V ρ st2) λz st3=>oO (dictOf? tb st3 x) λp=>
   if aU p.1 y then O (.val ((aE p.2 y).getD z),st3) else U)
 | .app o e,m,ρ,st=>bv m (o1 (ev o .V ρ st) λx st1=>if lA st1 x then(o1 (ev e .V ρ st1) λy st2=>(iu st2 x y).map λs=>(.val .none,s)) else U)
 | .ext o e,m,ρ,st=>bv m (o1 (ev o .V ρ st) λx st1=>if lA st1 x then(o1 (ev e .V ρ st1) λy st2=>(tL st2 x y).map λs=>(.val .none,s)) else U)
 | .pop o,m,ρ,st=>bv m (o1 (ev o .V ρ st) λx st1=>(mO st1 x).map λp=>(.val p.1,p.2))
 | .cal f as,m,ρ,st=>bv m (oL (ev as .L ρ st) λvs st1=>Φ f vs st1)
 | .mth i o as,m,ρ,st=>bv m (oR (ev o .V ρ st) λn st1=>oO st1.G[n]? λg=>jG g λc fs=>oO (kE P.mt c i) λf=>if kB fs i=U then oL (ev as .L ρ st1) λvs st2=>Φ f (.ref n::vs) st2 else U)
 | .new c as,m,ρ,st=>bv m (oL (ev as .L ρ st) λvs st1=>oO (gm P.nw c) λf=>oO (Φ f (.ref st1.G.length::vs) {st1 with G:=st1.G++[.inst c []]}) λr=>xQ r.1 (O (.ref st1.G.length,r.2)))
 | .comp loc tg bs e it cond,m,ρ,st=>bv m (o1 (ev it .V ρ st) λx st1=>oO (ao st1 x) λp=>oO (ch (bn tg) (λρ s=>oB (ev cond .T ρ s) λt s1=>O (t,s1)) (λρ s=>oV (ev e .V ρ s) λa s1=>O (a,s1))
     (aP x p.1 p.2) st1.S.length p.2 (bD bs ρ) {st1 with S:=st1.S++[.list []]}) λst2=>
    if loc then O (.loc st1.S.length,cR (st1.S.length+1) st2) else oO st2.S[st1.S.length]? λc=>sJ c λr=>O (.val (.lst r),cR st1.S.length st2))
 | .hole,_,_,_=>U
noncomputable def Cv(c:Ρ→St→Option (Bool×St))(b:Ρ→St→Option (Option LV×Ρ×St)):Nat→Ρ→St→Option (Option LV×Ρ×St)
 |0,_,_=>U
 |n+1,ρ,st=>oO (c ρ st) λp=>if p.1 then oO (b ρ p.2) λq=>q.1.elim (Cv c b n q.2.1 q.2.2) λ_=>O q
  else O (U,ρ,p.2)
noncomputable def ex:Sx→Ρ→St→Option (Option LV×Ρ×St)
 | .nil,ρ,st=>O (U,ρ,st)
 | .cons s r,ρ,st=>oO (ex s ρ st) λq=>match q.1 with
  |none=>ex r q.2.1 q.2.2
  |some v=>O (O v,q.2)
 | .asg i e,ρ,st=>o1 (ev P tb Φ e .V ρ st) λv st1=>if i<ρ.length then O (U,ρ.set i (O v),st1) else U
 | .asc i e,ρ,st=>o1 (ev P tb Φ e .V ρ st) λv st1=>if i<ρ.length then O (U,ρ.set i (O v),st1) else U
 | .as2 i j e,ρ,st=>oV (ev P tb Φ e .V ρ st) λx st1=>(l9 i j x ρ).map λρ1=>(U,ρ1,st1)
 | .asT i j e,ρ,st=>oV (ev P tb Φ e .V ρ st) λp st1=>xZ p λx y=>(l9 j i (.tup [y,x]) ρ).map λρ1=>(U,ρ1,st1)
 | .sti o i e,ρ,st=>oV (ev P tb Φ e .V ρ st) λz st1=>o1 (ev P tb Φ o .V ρ st1) λx st2=>oV (ev P tb Φ i .V ρ st2) λy st3=>(ky st3 x y z).map λs=>(U,ρ,s)
 | .sta o f e,ρ,st=>o1 (ev P tb Φ e .V ρ st) λz st1=>oR (ev P tb Φ o .V ρ st1) λn st2=>oO st2.G[n]? λg=>jG g λc fs=>oO (zk z) λg=>
   if di P.sa c f∧fs.length<900 then O (U,ρ,{st2 with G:=st2.G.set n (.inst c (pU fs f g))}) else U
 | .exp e,ρ,st=>o1 (ev P tb Φ e .V ρ st) λ_ st1=>O (U,ρ,st1)
 | .ret e,ρ,st=>o1 (ev P tb Φ e .V ρ st) λv st1=>O (O v,ρ,st1)
 | .ife c a b,ρ,st=>oB (ev P tb Φ c .T ρ st) λt st1=>if t then ex a ρ st1 else ex b ρ st1
 | .frN tg it b,ρ,st=>o1 (ev P tb Φ it .V ρ st) λx st1=>oO (ao st1 x) λp=>bB (bn tg) (ex b) (aP x p.1 p.2) p.2 ρ st1
 | .fr2 t1 t2 it b,ρ,st=>o1 (ev P tb Φ it .V ρ st) λx st1=>oO (ao st1 x) λp=>bB (l9 t1 t2) (ex b) (aP x p.1 p.2) p.2 ρ st1
 | .frR tg n b,ρ,st=>oI (ev P tb Φ n .V ρ st) λk st1=>if 0≤k∧k<1000000 then bB (bn tg) (ex b) (λ_=>Z) ((JE k.toNat).map λ(i:Nat)=>AV.int (i:Int)) ρ st1 else U
 | .whl n c b,ρ,st=>Cv (λρ s=>oB (ev P tb Φ c .T ρ s) λt s1=>O (t,s1)) (ex b) n ρ st
 | .hole,_,_=>U
end
noncomputable def dU:List LV→Bool
 |[]=>Z
 | .loc _::_=>N
 |_::l=>dU l
noncomputable def ij(S:List CO):LV×St→LV×St
 |(.loc i,st)=>(.loc (S.length+i),{st with S:=S++st.S})
 |(r,st)=>(r,{st with S:=S})
noncomputable def Fn(P:Pg)(tb:Nat→Option (KD×List (AV×AV))):Nat→ek
 |0=>λ_ _ _=>U
 |k+1=>λf as st=>match P.fd[f]? with
  |some fd=>if as.length+fd.dv.length=fd.np then
    (if dU as then
     oO (ex P tb (Fn P tb k) fd.body (aM fd.nm.length as fd.dv) {st with S:=[]}) λp=>(uh 0 p.2.2 (p.1.getD (.val .none))).map (ij st.S)
    else
     oO (ex P tb (Fn P tb k) fd.body (aM fd.nm.length as fd.dv) st) λp=>uh st.S.length p.2.2 (p.1.getD (.val .none)))
   else U
  |none=>U
end
noncomputable def zn:D8→Operator
 | .add=> .Add| .sub=> .Sub| .mul=> .Mult| .mod=> .Mod| .div=> .FloorDiv| .band=> .BitAnd
noncomputable def dY:zD→CmpOp
 | .eq=> .Eq| .ne=> .NotEq| .lt=> .Lt| .gt=> .Gt| .le=> .LtE| .ge=> .GtE| .inn=> .In| .nin=> .NotIn
noncomputable def nN:rL→Str
 | .len=>"len"| .all=>"all"| .any=>"any"| .max=>"max"| .srt=>"sorted"| .lst=>"list"| .tup=>"tuple"| .isStr=>"isinstance"
noncomputable def pI:rL→Value
 | .len=> .builtin "len"| .all=> .builtin "all"| .any=> .builtin "any"| .max=> .builtin "max"| .srt=> .builtin "sorted"| .lst=> .type "list"| .tup=> .type "tuple"| .isStr=> .builtin "isinstance"
noncomputable def oe(a:AV)(c:Const):Bool:=match a,c with
 | .none,.none=>Z
 | .bool b,.bool d=>b==d
 | .int i,.int j=>i==j
 | .str x,.str y=>b8 x==y
 |_,_=>N
noncomputable def nA(kd:Str→Option Js)(x:Str):Bool:=kd x==O .globalImplicit&& !(x==("__debug__":Str))
noncomputable def cB(e:Expr):Bool:= !(e.ctorIdx==16)
noncomputable def fR(e:Expr):Bool:= !(e.ctorIdx==26)
noncomputable def je(e:Expr):Bool:= !(e.ctorIdx==7)
noncomputable def sI(e:Expr):Bool:=Lk 8 e.ctorIdx&&Lk e.ctorIdx 10
noncomputable def H7:AV→Bool
 | .bool b=>b
 |_=>N
noncomputable def wV(c:X):Bool:=if h:c.ctorIdx=2 then X.cst.elim (motive:=λ_=>Bool) c h H7 else N
theorem CV{a:AV}(h:H7 a=Z):a= .bool Z:=by
 cases a with
 |bool b=>exact congrArg AV.bool h
 |_=>cases h
theorem AF{c:X}(h:wV c=Z):c= .cst (.bool Z):=
 if q:c.ctorIdx=2 then X.cst.elim (motive:=λc=>wV c=Z→c= .cst (.bool Z)) c q (λ_ h=>congrArg X.cst (CV h)) h else by delta wV at h;rw[dif_neg q] at h;cases h
noncomputable def on{α:Type}(o:Option α)(f:α→Bool):Bool:=match o with
 |some a=>f a
 |none=>N
theorem aj{α:Type}{o:Option α}{f:α→Bool}{M:Prop}(h:on o f=Z)(K:∀a,o=O a→f a=Z→M):M:=by
 cases o with
 |none=>cases h
 |some a=>exact K a rfl h
theorem ae{a b:Bool}{M:Prop}(h:(a&&b)=Z)(K:a=Z→b=Z→M):M:=by
 cases a with
 |false=>cases h
 |true=>exact K rfl h
theorem cz{α:Type}[BEq α][LawfulBEq α]{a b:α}{M:α→Prop}(h:(a==b)=Z)(K:M b):M a:=by rw[beq_iff_eq.mp h];exact K
noncomputable def o9{α:Type}:List α→Option α
 |[x]=>O x
 |_=>U
theorem ef{α:Type}{l:List α}{x:α}{M:List α→Prop}(h:o9 l=O x)(K:M [x]):M l:=by
 cases l with
 |nil=>cases h
 |cons _ t=>cases t with
  |nil=>cases h;exact K
  |cons=>cases h
noncomputable def as2{α:Type}:List α→Option (α×α)
 |[x,y]=>O (x,y)
 |_=>U
theorem jf{α:Type}{l:List α}{x:α×α}{M:List α→Prop}(h:as2 l=O x)(K:M [x.1,x.2]):M l:=by
 cases l with
 |nil=>cases h
 |cons _ t=>cases t with
  |nil=>cases h
  |cons _ t=>cases t with
   |nil=>cases h;exact K
   |cons=>cases h
noncomputable def dC{α:Type}:List α→Bool
 |[]=>Z
 |_=>N
theorem bX{α:Type}{l:List α}{M:List α→Prop}(h:dC l=Z)(K:M []):M l:=by
 cases l with
 |nil=>exact K
 |cons a b=>cases h
noncomputable def zi{α:Type}:Option α→Bool
 |none=>Z
 |_=>N
theorem kt{α:Type}{l:Option α}{M:Option α→Prop}(h:zi l=Z)(K:M U):M l:=by
 cases l with
 |none=>exact K
 |some a=>cases h
theorem xY{α:Type}{l:Option α}{x:α}{M:Option α→Prop}(h:l=O x)(K:M (O x)):M l:=by subst h;exact K
theorem bA{α:Type}{c:Prop}[Decidable c]{F:c→Option α}{p:α}{M:Prop}(h:(if h:c then F h else U)=O p)(K:c→M):M:=
 if q:c then K q else by rw[dif_neg q] at h;cases h
noncomputable def Br(e:Expr):Option (Const):=if h:e.ctorIdx=19 then N0 (motive_1:=λ_=>Option (Const)) e h λc _ _=>O c else U
theorem tW{M:Expr→Prop}{e:Expr}{p:Const}(h:Br e=O p)(K:∀k ps,M (.Constant p k ps)):M e:=
 bA h λq=>N0 (motive_1:=λe=>Br e=O p→M e) e q (λw0 w1 w2 h=>by cases h;exact K w1 w2) h
noncomputable def bZ(e:Expr):Option (Str×Pos):=if h:e.ctorIdx=23 then Pd (motive_1:=λ_=>Option (Str×Pos)) e h λx p=>O (x,p) else U
theorem bN{M:Expr→Prop}{e:Expr}{p:Str×Pos}(h:bZ e=O p)(K:M (.Name p.1 p.2)):M e:=
 bA h λq=>Pd (motive_1:=λe=>bZ e=O p→M e) e q (λw0 w1 h=>by cases h;exact K) h
noncomputable def qn(e:Expr):Option (List Expr×Nat×Pos):=if h:e.ctorIdx=25 then Nh (motive_1:=λ_=>Option (List Expr×Nat×Pos)) e h λes k p=>O (es,k,p) else U
theorem nK{M:Expr→Prop}{e:Expr}{p:List Expr×Nat×Pos}(h:qn e=O p)(K:M (.Tuple p.1 p.2.1 p.2.2)):M e:=
 bA h λq=>Nh (motive_1:=λe=>qn e=O p→M e) e q (λw0 w1 w2 h=>by cases h;exact K) h
noncomputable def AC(e:Expr):Option (List Expr):=if h:e.ctorIdx=24 then Pe (motive_1:=λ_=>Option (List Expr)) e h λes _=>O es else U
theorem uE{M:Expr→Prop}{e:Expr}{p:List Expr}(h:AC e=O p)(K:∀ps,M (.List p ps)):M e:=
 bA h λq=>Pe (motive_1:=λe=>AC e=O p→M e) e q (λw0 w1 h=>by cases h;exact K w1) h
noncomputable def DW(e:Expr):Option (List (Option Expr)×List Expr):=if h:e.ctorIdx=6 then Pf (motive_1:=λ_=>Option (List (Option Expr)×List Expr)) e h λks vs _=>O (ks,vs) else U
theorem zY{M:Expr→Prop}{e:Expr}{p:List (Option Expr)×List Expr}(h:DW e=O p)(K:∀ps,M (.Dict p.1 p.2 ps)):M e:=
 bA h λq=>Pf (motive_1:=λe=>DW e=O p→M e) e q (λw0 w1 w2 h=>by cases h;exact K w2) h
noncomputable def Dj(e:Expr):Option (Expr×Operator×Expr):=if h:e.ctorIdx=2 then OT (motive_1:=λ_=>Option (Expr×Operator×Expr)) e h λl o r _=>O (l,o,r) else U
theorem zF{M:Expr→Prop}{e:Expr}{p:Expr×Operator×Expr}(h:Dj e=O p)(K:∀ps,M (.BinOp p.1 p.2.1 p.2.2 ps)):M e:=
 bA h λq=>OT (motive_1:=λe=>Dj e=O p→M e) e q (λw0 w1 w2 w3 h=>by cases h;exact K w3) h
noncomputable def Gu(e:Expr):Option (QC×Expr):=if h:e.ctorIdx=3 then Og (motive_1:=λ_=>Option (QC×Expr)) e h λo x _=>O (o,x) else U
theorem yh{M:Expr→Prop}{e:Expr}{p:QC×Expr}(h:Gu e=O p)(K:∀ps,M (.UnaryOp p.1 p.2 ps)):M e:=
 bA h λq=>Og (motive_1:=λe=>Gu e=O p→M e) e q (λw0 w1 w2 h=>by cases h;exact K w2) h
noncomputable def za(e:Expr):Option (Expr×List CmpOp×List Expr):=if h:e.ctorIdx=15 then Oh (motive_1:=λ_=>Option (Expr×List CmpOp×List Expr)) e h λl os rs _=>O (l,os,rs) else U
theorem oy{M:Expr→Prop}{e:Expr}{p:Expr×List CmpOp×List Expr}(h:za e=O p)(K:∀ps,M (.Compare p.1 p.2.1 p.2.2 ps)):M e:=
 bA h λq=>Oh (motive_1:=λe=>za e=O p→M e) e q (λw0 w1 w2 w3 h=>by cases h;exact K w3) h
noncomputable def Cr(e:Expr):Option (BoolOp×List Expr):=if h:e.ctorIdx=0 then OE (motive_1:=λ_=>Option (BoolOp×List Expr)) e h λo es _=>O (o,es) else U
theorem zU{M:Expr→Prop}{e:Expr}{p:BoolOp×List Expr}(h:Cr e=O p)(K:∀ps,M (.BoolOp p.1 p.2 ps)):M e:=
 bA h λq=>OE (motive_1:=λe=>Cr e=O p→M e) e q (λw0 w1 w2 h=>by cases h;exact K w2) h
noncomputable def GF(e:Expr):Option (Expr×Expr×Expr):=if h:e.ctorIdx=5 then OU (motive_1:=λ_=>Option (Expr×Expr×Expr)) e h λt x y _=>O (t,x,y) else U
theorem Dk{M:Expr→Prop}{e:Expr}{p:Expr×Expr×Expr}(h:GF e=O p)(K:∀ps,M (.IfExp p.1 p.2.1 p.2.2 ps)):M e:=
 bA h λq=>OU (motive_1:=λe=>GF e=O p→M e) e q (λw0 w1 w2 w3 h=>by cases h;exact K w3) h
noncomputable def mG(e:Expr):Option (Expr×Str×Pos):=if h:e.ctorIdx=20 then Nz (motive_1:=λ_=>Option (Expr×Str×Pos)) e h λv a p=>O (v,a,p) else U
theorem nD{M:Expr→Prop}{e:Expr}{p:Expr×Str×Pos}(h:mG e=O p)(K:M (.Attribute p.1 p.2.1 p.2.2)):M e:=
 bA h λq=>Nz (motive_1:=λe=>mG e=O p→M e) e q (λw0 w1 w2 h=>by cases h;exact K) h
noncomputable def vX(e:Expr):Option (Expr×Expr):=if h:e.ctorIdx=21 then NA (motive_1:=λ_=>Option (Expr×Expr)) e h λv s _=>O (v,s) else U
theorem kx{M:Expr→Prop}{e:Expr}{p:Expr×Expr}(h:vX e=O p)(K:∀ps,M (.Subscript p.1 p.2 ps)):M e:=
 bA h λq=>NA (motive_1:=λe=>vX e=O p→M e) e q (λw0 w1 w2 h=>by cases h;exact K w2) h
noncomputable def zL(e:Expr):Option (Option Expr×Option Expr×Option Expr):=if h:e.ctorIdx=26 then OV (motive_1:=λ_=>Option (Option Expr×Option Expr×Option Expr)) e h λl u s _=>O (l,u,s) else U
theorem uc{M:Expr→Prop}{e:Expr}{p:Option Expr×Option Expr×Option Expr}(h:zL e=O p)(K:∀ps,M (.Slice p.1 p.2.1 p.2.2 ps)):M e:=
 bA h λq=>OV (motive_1:=λe=>zL e=O p→M e) e q (λw0 w1 w2 w3 h=>by cases h;exact K w3) h
noncomputable def eA(e:Expr):Option (Expr×List Expr×List Keyword×Pos):=if h:e.ctorIdx=16 then Ph (motive_1:=λ_=>Option (Expr×List Expr×List Keyword×Pos)) e h λf es ks p=>O (f,es,ks,p) else U
theorem qO{M:Expr→Prop}{e:Expr}{p:Expr×List Expr×List Keyword×Pos}(h:eA e=O p)(K:M (.Call p.1 p.2.1 p.2.2.1 p.2.2.2)):M e:=
 bA h λq=>Ph (motive_1:=λe=>eA e=O p→M e) e q (λw0 w1 w2 w3 h=>by cases h;exact K) h
noncomputable def tZ(e:Expr):Option (Expr×List Comprehension×Scope×Pos):=if h:e.ctorIdx=8 then N1 (motive_1:=λ_=>Option (Expr×List Comprehension×Scope×Pos)) e h λe gs sc p=>O (e,gs,sc,p) else U
theorem wP{M:Expr→Prop}{e:Expr}{p:Expr×List Comprehension×Scope×Pos}(h:tZ e=O p)(K:M (.ListComp p.1 p.2.1 p.2.2.1 p.2.2.2)):M e:=
 bA h λq=>N1 (motive_1:=λe=>tZ e=O p→M e) e q (λw0 w1 w2 w3 h=>by cases h;exact K) h
noncomputable def pj(e:Stmt):Option (List Expr×Expr):=if h:e.ctorIdx=5 then OF (motive_2:=λ_=>Option (List Expr×Expr)) e h λts e _=>O (ts,e) else U
theorem By{M:Stmt→Prop}{e:Stmt}{p:List Expr×Expr}(h:pj e=O p)(K:∀ps,M (.Assign p.1 p.2 ps)):M e:=
 bA h λq=>OF (motive_2:=λe=>pj e=O p→M e) e q (λw0 w1 w2 h=>by cases h;exact K w2) h
noncomputable def Cs(e:Stmt):Option (Expr):=if h:e.ctorIdx=24 then Pi (motive_2:=λ_=>Option (Expr)) e h λe _=>O e else U
theorem Ak{M:Stmt→Prop}{e:Stmt}{p:Expr}(h:Cs e=O p)(K:∀ps,M (.Expr p ps)):M e:=
 bA h λq=>Pi (motive_2:=λe=>Cs e=O p→M e) e q (λw0 w1 h=>by cases h;exact K w1) h
noncomputable def DF(e:Stmt):Option (Option Expr):=if h:e.ctorIdx=3 then OG (motive_2:=λ_=>Option (Option Expr)) e h λe _=>O e else U
theorem AN{M:Stmt→Prop}{e:Stmt}{p:Option Expr}(h:DF e=O p)(K:∀ps,M (.Return p ps)):M e:=
 bA h λq=>OG (motive_2:=λe=>DF e=O p→M e) e q (λw0 w1 h=>by cases h;exact K w1) h
noncomputable def Dc(e:Stmt):Option (Expr×List Stmt×List Stmt):=if h:e.ctorIdx=12 then PR (motive_2:=λ_=>Option (Expr×List Stmt×List Stmt)) e h λt a b _=>O (t,a,b) else U
theorem BA{M:Stmt→Prop}{e:Stmt}{p:Expr×List Stmt×List Stmt}(h:Dc e=O p)(K:∀ps,M (.If p.1 p.2.1 p.2.2 ps)):M e:=
 bA h λq=>PR (motive_2:=λe=>Dc e=O p→M e) e q (λw0 w1 w2 w3 h=>by cases h;exact K w3) h
noncomputable def yi(e:Stmt):Option (Expr×Expr×List Stmt×List Stmt):=if h:e.ctorIdx=9 then Pv (motive_2:=λ_=>Option (Expr×Expr×List Stmt×List Stmt)) e h λt i b o _=>O (t,i,b,o) else U
theorem nW{M:Stmt→Prop}{e:Stmt}{p:Expr×Expr×List Stmt×List Stmt}(h:yi e=O p)(K:∀ps,M (.For p.1 p.2.1 p.2.2.1 p.2.2.2 ps)):M e:=
 bA h λq=>Pv (motive_2:=λe=>yi e=O p→M e) e q (λw0 w1 w2 w3 w4 h=>by cases h;exact K w4) h
noncomputable def Cq(e:Stmt):Option (Expr×List Stmt×List Stmt):=if h:e.ctorIdx=11 then OW (motive_2:=λ_=>Option (Expr×List Stmt×List Stmt)) e h λt b o _=>O (t,b,o) else U
theorem zQ{M:Stmt→Prop}{e:Stmt}{p:Expr×List Stmt×List Stmt}(h:Cq e=O p)(K:∀ps,M (.While p.1 p.2.1 p.2.2 ps)):M e:=
 bA h λq=>OW (motive_2:=λe=>Cq e=O p→M e) e q (λw0 w1 w2 w3 h=>by cases h;exact K w3) h
noncomputable def Cd(c:Const):Bool:=c.ctorIdx==0
theorem xe{c:Const}{M:Const→Prop}(h:Cd c=Z)(K:M .none):M c:=QO c (beq_iff_eq.mp h) K
noncomputable def y7(e:Expr):Bool:= !(e.ctorIdx==22)&& !(e.ctorIdx==7)
noncomputable def yV(x:X):Bool:=x.ctorIdx==29
section
variable(P:Pg)
mutual
noncomputable def mE:X→(Str→Option Js)→List Str→Expr→Bool
 | .cst a,_,_,e=>on (Br e) λc=>oe a c
 | .var i,_,nm,e=>on (bZ e) λx=>nm[i]? ==O x.1
 | .glb i,kd,_,e=>on (bZ e) λx=>on P.gl[i]? λy=>x.1==y.1&&nA kd x.1
 | .tup l,kd,nm,e=>on (qn e) λp=>mL l kd nm p.1
 | .lst _ l,kd,nm,e=>on (AC e) λes=>mL l kd nm es
 | .rls l,kd,nm,e=>on (AC e) λes=>mL l kd nm es
 | .dct _ _,_,_,e=>on (DW e) λp=>dC p.1&&dC p.2
 | .bin o a b,kd,nm,e=>on (Dj e) λp=>p.2.1==zn o&&(mE a kd nm p.1&&mE b kd nm p.2.2)
 | .neg a,kd,nm,e=>on (Gu e) λp=>p.1== .USub&&mE a kd nm p.2
 | .nt a,kd,nm,e=>on (Gu e) λp=>p.1== .Not&&mE a kd nm p.2
 | .cmp o a b,kd,nm,e=>on (za e) λp=>on (o9 p.2.1) λop=>on (o9 p.2.2) λr=>op==dY o&&(mE a kd nm p.1&&(mE b kd nm r&& !(MR op r)))
 | .isN n a,kd,nm,e=>on (za e) λp=>on (o9 p.2.1) λop=>on (o9 p.2.2) λr=>on (Br r) λc=>Cd c&&(op==(if n then ON else P8)&&mE a kd nm p.1)
 | .chn o1 o2 a b c,kd,nm,e=>on (za e) λp=>on (as2 p.2.1) λop=>on (as2 p.2.2) λr=>op.1==dY o1&&(op.2==dY o2&&(mE a kd nm p.1&&(mE b kd nm r.1&&(mE c kd nm r.2&& !(MR op.2 r.2)))))
 | .bop b l,kd,nm,e=>on (Cr e) λp=>p.1==(if b then Qm else QM)&&(mL l kd nm p.2&& !p.2.isEmpty)
 | .ite c a b,kd,nm,e=>on (GF e) λp=>mE c kd nm p.1&&(mE a kd nm p.2.1&&mE b kd nm p.2.2)
 | .atr i o,kd,nm,e=>on (mG e) λp=>P.an[i]? ==O p.2.1&&(cB p.1&&mE o kd nm p.1)
 | .sub o i,kd,nm,e=>on (vX e) λp=>fR p.2&&(mE o kd nm p.1&&mE i kd nm p.2)
 | .slT o i,kd,nm,e=>on (vX e) λp=>on (zL p.2) λq=>on q.2.1 λs=>zi q.1&&(zi q.2.2&&(mE o kd nm p.1&&mE i kd nm s))
 | .slF o i,kd,nm,e=>on (vX e) λp=>on (zL p.2) λq=>on q.1 λs=>zi q.2.1&&(zi q.2.2&&(mE o kd nm p.1&&mE i kd nm s))
 | .fn1 f a,kd,nm,e=>on (eA e) λp=>on (bZ p.1) λx=>dC p.2.2.1&&(x.1==nN f&&(nA kd x.1&&(match f with
  | .isStr=>on (as2 p.2.1) λq=>on (bZ q.2) λy=>mE a kd nm q.1&&(y.1==("str":Str)&&nA kd y.1)
  |_=>on (o9 p.2.1) λq=>mE a kd nm q)))
 | .getD o k d,kd,nm,e=>on (eA e) λp=>on (mG p.1) λx=>on (as2 p.2.1) λq=>dC p.2.2.1&&(x.2.1==("get":Str)&&(cB x.1&&(x.2.2.endLine==p.2.2.2.line&&(mE o kd nm x.1&&(mE k kd nm q.1&&mE d kd nm q.2)))))
 | .app o x,kd,nm,e=>on (eA e) λp=>on (mG p.1) λy=>on (o9 p.2.1) λq=>dC p.2.2.1&&(y.2.1==("append":Str)&&(cB y.1&&(y.2.2.endLine==p.2.2.2.line&&(mE o kd nm y.1&&mE x kd nm q))))
 | .ext o x,kd,nm,e=>on (eA e) λp=>on (mG p.1) λy=>on (o9 p.2.1) λq=>dC p.2.2.1&&(y.2.1==("extend":Str)&&(cB y.1&&(y.2.2.endLine==p.2.2.2.line&&(mE o kd nm y.1&&mE x kd nm q))))
 | .pop o,kd,nm,e=>on (eA e) λp=>on (mG p.1) λy=>dC p.2.1&&(dC p.2.2.1&&(y.2.1==("pop":Str)&&(cB y.1&&(y.2.2.endLine==p.2.2.2.line&&mE o kd nm y.1))))
 | .cal f as,kd,nm,e=>on (eA e) λp=>on (bZ p.1) λx=>on P.fd[f]? λfd=>dC p.2.2.1&&(fd.glob&&(x.1==fd.name&&(nA kd x.1&&mL as kd nm p.2.1)))
 | .mth i o as,kd,nm,e=>on (eA e) λp=>on (mG p.1) λy=>dC p.2.2.1&&(P.an[i]? ==O y.2.1&&(cB y.1&&(y.2.2.endLine==p.2.2.2.line&&(QQ (p.2.1.length<30)&&(mE o kd nm y.1&&mL as kd nm p.2.1)))))
 | .new c as,kd,nm,e=>on (eA e) λp=>on (bZ p.1) λx=>dC p.2.2.1&&(P.cn[c]? ==O x.1&&(nA kd x.1&&mL as kd nm p.2.1))
 | .comp _ tg bs x it cond,kd,nm,e=>on (tZ e) λp=>on (o9 p.2.1) λg=>on (bZ g.target) λy=>g.is_async==0&&(nm[tg]? ==O y.1&&(p.2.2.1.names.lookup y.1==O .local&&(lr kd p.2.2.1&&(iJ kd p.2.2.1.names bs nm&&(mE it kd nm g.iter&&(mE x (cr kd p.2.2.1.names) nm p.1&&
  (match g.ifs with
   |[]=>wV cond
   |t::r=>dC r&&mE cond (cr kd p.2.2.1.names) nm t)))))))
 | .hole,_,_,e=>y7 e
 |_,_,_,_=>N
noncomputable def mL:X→(Str→Option Js)→List Str→List Expr→Bool
 | .nil,_,_,es=>dC es
 | .cons a b,kd,nm,es=>match es with
  |[]=>N
  |e::es=>mE a kd nm e&&mL b kd nm es
 |_,_,_,_=>N
end
noncomputable def bg(kd:Str→Option Js)(nm:List Str)(i:Nat)(x:Str):Bool:=nm[i]? ==O x&&(kd x==O .local||kd x==O .cell)
noncomputable def qR(kd:Str→Option Js)(e:Expr)(x:Str)(px:Pos):Bool:=on (tZ e) λp=>kd x==O .local&&px.line==p.2.2.2.line&& !(p.2.2.1.names.any λ(n,k)=>n==x&&(k== .local||k== .cell))
noncomputable def dZ(e:Expr):Bool:= !(e.ctorIdx==9)&& !(e.ctorIdx==10)
noncomputable def oh(e:Expr):Bool:= !(e.ctorIdx==22)
noncomputable def tA(e:Expr):Bool:=if h:e.ctorIdx=25 then Nh (motive_1:=λ_=>Bool) e h λes _ _=>es.all (MS 8)&&es.length==2 else !(e.ctorIdx==24)
noncomputable def yC(kd:Str→Option Js)(x y:Str)(px py:Pos)(a b:Expr):Bool:=
 kd x==O .local&&kd y==O .local&&py.line==px.line&& !(x==y)&& !(MS 8 a&&MS 8 b)&& !(Pj 8 a&&Pj 8 b)&&oh a&&oh b
mutual
noncomputable def mS:Sx→(Str→Option Js)→List Str→Stmt→Bool
 | .asg i x,kd,nm,s=>on (pj s) λp=>on (o9 p.1) λt=>on (bZ t) λy=>bg kd nm i y.1&&(mE P x kd nm p.2&&(!(qR kd p.2 y.1 y.2)&&dZ p.2))
 | .asc i x,kd,nm,s=>on (pj s) λp=>on (o9 p.1) λt=>on (bZ t) λy=>bg kd nm i y.1&&(mE P x kd nm p.2&&(qR kd p.2 y.1 y.2&&yV x))
 | .as2 i j x,kd,nm,s=>on (pj s) λp=>on (o9 p.1) λt=>on (qn t) λts=>on (as2 ts.1) λr=>on (bZ r.1) λy=>on (bZ r.2) λz=>bg kd nm i y.1&&(bg kd nm j z.1&&(!(i==j)&&(mE P x kd nm p.2&&tA p.2)))
 | .asT i j x,kd,nm,s=>on (pj s) λp=>on (o9 p.1) λt=>on (qn t) λts=>on (as2 ts.1) λr=>on (bZ r.1) λy=>on (bZ r.2) λz=>on (qn p.2) λvs=>on (as2 vs.1) λe=>bg kd nm i y.1&&(bg kd nm j z.1&&(!(i==j)&&(mE P x kd nm p.2&&yC kd y.1 z.1 y.2 z.2 e.1 e.2)))
 | .sti o i x,kd,nm,s=>on (pj s) λp=>on (o9 p.1) λt=>on (vX t) λq=>mE P o kd nm q.1&&(mE P i kd nm q.2&&(mE P x kd nm p.2&&fR q.2))
 | .sta o f x,kd,nm,s=>on (pj s) λp=>on (o9 p.1) λt=>on (mG t) λq=>P.an[f]? ==O q.2.1&&(mE P o kd nm q.1&&mE P x kd nm p.2)
 | .exp x,kd,nm,s=>on (Cs s) λe=>mE P x kd nm e&& !(sI e)
 | .ret x,kd,nm,s=>on (DF s) λe=>on e λe=>mE P x kd nm e
 | .ife c a b,kd,nm,s=>on (Dc s) λp=>mE P c kd nm p.1&&(mB a kd nm p.2.1&&mB b kd nm p.2.2)
 | .frN tg it b,kd,nm,s=>on (yi s) λp=>on (bZ p.1) λy=>dC p.2.2.2&&(bg kd nm tg y.1&&(mE P it kd nm p.2.1&&(mB b kd nm p.2.2.1&&je p.2.1)))
 | .fr2 t1 t2 it b,kd,nm,s=>on (yi s) λp=>on (qn p.1) λts=>on (as2 ts.1) λr=>on (bZ r.1) λy=>on (bZ r.2) λz=>dC p.2.2.2&&(bg kd nm t1 y.1&&(bg kd nm t2 z.1&&(!(t1==t2)&&(mE P it kd nm p.2.1&&(mB b kd nm p.2.2.1&&je p.2.1)))))
 | .frR tg n b,kd,nm,s=>on (yi s) λp=>on (bZ p.1) λy=>on (eA p.2.1) λc=>on (bZ c.1) λr=>on (o9 c.2.1) λe=>dC p.2.2.2&&(dC c.2.2.1&&(bg kd nm tg y.1&&(r.1==("range":Str)&&(nA kd r.1&&(mE P n kd nm e&&mB b kd nm p.2.2.1)))))
 | .whl _ c b,kd,nm,s=>on (Cq s) λp=>dC p.2.2&&(mE P c kd nm p.1&&mB b kd nm p.2.1)
 | .hole,_,_,_=>Z
 |_,_,_,_=>N
noncomputable def mB:Sx→(Str→Option Js)→List Str→List Stmt→Bool
 | .nil,_,_,ss=>dC ss
 | .cons a b,kd,nm,ss=>match ss with
  |[]=>N
  |s::ss=>mS a kd nm s&&mB b kd nm ss
 | .hole,_,_,_=>Z
 |_,_,_,_=>N
end
end
noncomputable def cY:List (Str×Value):=[("len",.builtin "len"),("all",.builtin "all"),("any",.builtin "any"),("max",.builtin "max"),("sorted",.builtin "sorted"),("list",.type "list"),("tuple",.type "tuple"),("isinstance",.builtin "isinstance"),("str",.type "str"),("range",.type "range")]
structure Ok(W:Wd)(P:Pg):Prop where
 gl:∀(i:Nat) x lv,P.gl[i]? =O (x,lv)→∃v,nsIn W.K JY x=O (O v)∧ai W.B vZ lv v∧(∀n,lv≠.loc n)∧(∀n,lv≠.ref n)
 fd:∀(i:Nat) fd,P.fd[i]? =O fd→∃body sc,CG W fd.addr fd.nm fd.np fd.dv body sc∧mB P fd.body (λx=>sc.names.lookup x) fd.nm body=Z
 fg:∀(i:Nat) fd,P.fd[i]? =O fd→fd.glob=Z→nsIn W.K JY fd.name=O (O (.ref fd.addr))
 kp:∀(i:Nat) fd,P.fd[i]? =O fd→Qp W.K (.ref fd.addr)=Z
 an:∀(i:Nat) x,P.an[i]? =O x→W.an i=x
 inj:∀i j,W.an i=W.an j→i=j
 at_:∀c i,di P.at_ c i=Z→wX W c i
 sa:∀c i,di P.sa c i=Z→BO W c i
 mt:∀c i f,kE P.mt c i=O f→∃fd,P.fd[f]? =O fd∧xi W c i fd.addr
 nw:∀c f,gm P.nw c=O f→∃fd,P.fd[f]? =O fd∧B2 W c fd.addr
 cn:∀(c:Nat) x,P.cn[c]? =O x→nsIn W.K JY x=O (O (.ref (W.ca c)))∧Qp W.K (.ref (W.ca c))=Z
 bl:∀p∈cY,nsIn W.K JY p.1=O U∧LL p.1=O p.2
section
set_option tactic.hygienic true
noncomputable def eh(W:Wd)(lv:LV)(st:St)(v:Value)(h':Heap)(μ':Mp):Prop:=ai h' μ' lv v∧au W h' μ' st
noncomputable def mV(W:Wd)(b:Bool)(st:St)(v:Value)(h':Heap)(μ':Mp):Prop:=v= .bool b∧au W h' μ' st
section
variable{W:Wd}{A:Around}{X:Addr→Prop}{s:Shared}{μ:Mp}{st:St}{a b r:LV}{v u:Value}
theorem Tr.made{t:Sem Value}{x:AV}(h:Tr W A t X s μ (dM W st μ x)):Tr W A t X s μ (eh W (.val x) st):=h.mono λ_ _ _ _ p=>⟨p.1,by obtain⟨_,rfl,I⟩:=p;exact I⟩
theorem Tr.sameB{t:Sem Value}{c:Bool}(I:au W s.heap μ st)(h:Tr W A t X s μ (cX s μ (λr=>r= .bool c))):Tr W A t X s μ (mV W c st):=h.mono λ_ _ _ _ p=>by obtain⟨rfl,rfl,e⟩:=p;exact⟨e,I⟩
theorem Tr.samePost{t:Sem Value}{x:LV}(I:au W s.heap μ st)(h:Tr W A t X s μ (cX s μ (ai s.heap μ x))):Tr W A t X s μ (eh W x st):=h.mono λ_ _ _ _ p=>by obtain⟨rfl,rfl,e⟩:=p;exact⟨e,I⟩
theorem Tr.postB{t:Sem Value}{c:Bool}(h:Tr W A t X s μ (mV W c st)):Tr W A t X s μ (eh W (.val (.bool c)) st):=h.mono λ_ _ _ _ p=>by obtain⟨rfl,I⟩:=p;exact⟨rfl,I⟩
theorem Cm{o:D8}(e:bd o st a b=O r)(I:au W s.heap μ st)(ra:ai s.heap μ a v)(rb:ai s.heap μ b u):Tr W A (L9 (zn o) v u) X s μ (eh W r st):=by
 induction o with
 |add=>
  simp only[bd] at e;split at e
  ·cases e;exact(sG I ra rb).made
  ·split at e
   ·rename_i h;cases e;exact(sh I ra rb h).made
   ·contradiction
  ·split at e
   ·rename_i h1 h2;split at e
    ·rename_i h;cases e;exact(qF I h1 ra h2 rb h).made
    ·exact nomatch e
   ·exfalso;contradiction
 |sub=>
  simp only[bd] at e;split at e
  ·cases e;exact(tH I ra rb).made
  ·exact nomatch e
 |mul=>
  simp only[bd] at e;split at e
  ·split at e
   ·rename_i h;cases e;refine(rR I ra rb ?_).made;rcases h with rfl|rfl<;>decide+kernel
   ·exact nomatch e
  ·contradiction
 |mod=>
  simp only[bd] at e;split at e
  ·split at e
   ·contradiction
   ·rename_i h;cases e;exact(sP I ra rb h).made
  ·contradiction
 |div=>
  simp only[bd] at e;split at e
  ·split at e
   ·contradiction
   ·rename_i h;split at e
    ·rename_i h2;cases e;exact(th I ra rb h h2).made
    ·exact nomatch e
  ·contradiction
 |band=>
  simp only[bd] at e;split at e
  ·cases e;exact(r8 I ra rb).made
  ·exact nomatch e
theorem xy{c:Bool}(hu:A.units+60<cLine)(e:fB W.tb st a b=O c)(I:au W s.heap μ st)(ra:ai s.heap μ a v)(rb:ai s.heap μ b u):
  Tr W A (Kg .In v u) X s μ (mV W c st)∧Tr W A (Kg .NotIn v u) X s μ (mV W (!c) st):=by
 delta fB at e;refine aw λMz kz551=> ?_
 split at e
 ·split at e
  ·rename_i h;split at e
   ·rename_i hd;cases e;have:=vu (W:=W) (A:=A) (X:=X) I h rb ra hd (nu hu);refine kz551 ?_;exact⟨this.1.sameB I,this.2.sameB I⟩
   ·exact nomatch e
  ·split at e
   ·rename_i h;split at e
    ·rename_i hk;cases e;refine kz551 ?_;exact⟨(sT I h rb hk ra (nu hu)).sameB I,(l7 I h rb hk ra (nu hu)).sameB I⟩
    ·contradiction
   ·contradiction
 ·contradiction
theorem nZ{o:zD}{c:Bool}(hu:A.units+60<cLine)(e:af W.tb o st a b=O c)(I:au W s.heap μ st)(ra:ai s.heap μ a v)(rb:ai s.heap μ b u):Tr W A (Kg (dY o) v u) X s μ (mV W c st):=by
 induction o with
 |eq=>
  simp only[af] at e;split at e
  ·split at e
   ·rename_i h;cases e;exact(Eb ra rb h (nu hu)).sameB I
   ·contradiction
  ·contradiction
 |ne=>
  simp only[af] at e;split at e
  ·split at e
   ·rename_i h;cases e;exact(Fy ra rb h (nu hu)).sameB I
   ·contradiction
  ·contradiction
 |lt=>
  simp only[af] at e;split at e
  ·cases e;exact(Es ra rb).sameB I
  ·exfalso;cases e
 |gt=>
  simp only[af] at e;split at e
  ·cases e;exact(Ew ra rb).sameB I
  ·exfalso;cases e
 |le=>
  simp only[af] at e;split at e
  ·cases e;exact(FR ra rb).sameB I
  ·exfalso;cases e
 |ge=>
  simp only[af] at e;split at e
  ·cases e;exact(Fq ra rb).sameB I
  ·exact nomatch e
 |inn=>exact(xy hu e I ra rb).1
 |nin=>
  refine ak (Jr.mp e) λc' h oz706=> ?_
  subst oz706;exact(xy hu h I ra rb).2
theorem CJ(hu:A.units+60<cLine)(e:aL W.tb st a b=O r)(I:au W s.heap μ st)(ra:ai s.heap μ a v)(rb:ai s.heap μ b u):Tr W A (Mn v u) X s μ (eh W r st):=by
 delta aL at e;split at e
 ·rename_i x;split at e
  ·rename_i c l h;split at e
   ·rename_i k;refine aG rb λt oz707=> ?_
    subst oz707;delta xD at e;split at e
    ·rename_i n;split at e
     ·rename_i hn;refine ak (Jr.mp e) λy hy oz708=> ?_
      subst oz708;have hlt:=(Ji.mp hy).1;refine Tr.samePost (x:= .val y) I (t5 (k:=I9 n) I h ra (by show -(2^63)≤(n:Int);omega) (by show(n:Int)<2^63;omega) (λ_=>Ky n) ?_ hy);delta Oy;have h1:¬(I9 n<0):=by show¬((n:Int)<0);omega
      simp only[h1,if_false];have h2:(QQ (0≤I9 n)&&QQ (I9 n<(l.length:Int)))=Z:=by
       rw[I8,decide_eq_true_eq,decide_eq_true_eq];exact⟨Ky n,by show(n:Int)<(l.length:Int);omega⟩
      rw[if_pos h2];rfl
     ·contradiction
    ·split at e
     ·rename_i hb;split at e
      ·rename_i j hj;refine ak (Jr.mp e) λy hy oz709=> ?_
       subst oz709;exact Tr.samePost (x:= .val y) I (t5 I h ra hb.1 hb.2.1 hb.2.2 hj hy)
      ·exfalso;contradiction
     ·contradiction
   ·contradiction
  ·split at e
   ·rename_i k es h;split at e
    ·rename_i hk;refine ak (Jr.mp e) λy hy oz710=> ?_
     subst oz710;exact Tr.samePost (x:= .val y) I (pF I h ra hk rb hy (nu hu))
    ·contradiction
   ·split at e
    ·rename_i n k _ _;split at e
     ·rename_i l h;split at e
      ·rename_i hk;refine ak (Jr.mp e) λy hy oz711=> ?_
       subst oz711;refine aG rb λt oz712=> ?_
       subst oz712;exact Tr.samePost I (uX I h ra hk.1 hk.2 hy)
      ·contradiction
     ·contradiction
    ·contradiction
 ·contradiction
noncomputable def yO:rL→Value→List Value
 | .isStr,v=>[v,.type "str"]
 |_,v=>[v]
theorem xJ{f:rL}(hA:A.handled=U)(e:aF W.tb f st a=O r)(I:au W s.heap μ st)(ra:ai s.heap μ a v):
  Tr W A (call (pI f) (yO f v)) X s μ (eh W r st):=by
 have isI:∀{i:Int} {t:Sem Value},Tr W A t X s μ (cX s μ (Gq i))→Tr W A t X s μ (eh W (.val (.int i)) st):=λh=>h.mono λ_ _ _ _ p=>by
  refine cI p λoz713 oz714 q=> ?_
  subst oz713;subst oz714;exact⟨q,I⟩
 induction f with
 |len=>
  simp only[aF] at e;split at e
  ·rename_i h;split at e
   ·rename_i hl;cases e;exact isI (rW I h ra hl)
   ·exact nomatch e
  ·split at e
   ·contradiction
   ·rename_i k es hn h;split at e
    ·rename_i hl;cases e;exact isI (qj I h (λq=>by subst q;exact hn rfl) ra hl)
    ·exact nomatch e
   ·split at e
    ·split at e
     ·rename_i h;split at e
      ·rename_i hl;cases e;exact isI (wL I h ra hl)
      ·contradiction
     ·exfalso;contradiction
    ·contradiction
 |all=>
  simp only[aF] at e;split at e
  ·rename_i h;refine ak (Jr.mp e) λbs hb oz715=> ?_
   subst oz715;exact(CU hA I h ra hb).made
  ·exfalso;cases e
 |any=>
  simp only[aF] at e;split at e
  ·rename_i h;refine ak (Jr.mp e) λbs hb oz716=> ?_
   subst oz716;exact(Ci hA I h ra hb).made
  ·exfalso;cases e
 |max=>
  simp only[aF] at e;split at e
  ·rename_i h;split at e
   ·rename_i hb;cases e;exact(DO hA I h ra hb rfl).made
   ·contradiction
  ·contradiction
 |srt=>
  simp only[aF] at e;split at e
  ·rename_i h;refine ak (Jr.mp e) λbs hb oz717=> ?_
   subst oz717;exact(vc hA I h ra hb).made
  ·contradiction
 |lst=>
  simp only[aF] at e;split at e
  ·rename_i h;split at e
   ·rename_i hl;cases e;exact(sU I h ra hl).made
   ·contradiction
  ·contradiction
 |tup=>
  simp only[aF] at e;split at e
  ·rename_i h;split at e
   ·rename_i hl;cases e;exact(rC I h ra hl).made
   ·contradiction
  ·exact nomatch e
 |isStr=>
  simp only[aF] at e;split at e
  ·refine ak (Jr.mp e) λc hc oz718=> ?_
   subst oz718;exact((zr I hc ra).sameB I).postB
  ·contradiction
theorem DP{st':St}(e:iu st a b=O st')(I:au W s.heap μ st)(ra:ai s.heap μ a v)(rb:ai s.heap μ b u):Tr W A (call (.builtin "list.append") [v,u]) X s μ (eh W (.val .none) st'):=by
 delta iu at e;refine aw λMz kz554=> ?_
 split at e
 ·rename_i l h;split at e
  ·split at e
   ·rename_i hl;cases e;refine kz554 ?_;exact(nB I h ra rb hl).mono λ_ _ _ _ p=>by obtain⟨rfl,rfl,q⟩:=p;exact⟨rfl,q⟩
   ·contradiction
  ·cases e
 ·exact nomatch e
 ·split at e
  ·split at e
   ·rename_i l h;split at e
    ·rename_i g hg;split at e
     ·rename_i hl;cases e;refine kz554 ?_;exact(qZ I h ra (k9 hg rb) hl).mono λ_ _ _ _ p=>by obtain⟨rfl,rfl,q⟩:=p;exact⟨rfl,q⟩
     ·exact nomatch e
    ·contradiction
   ·contradiction
  ·cases e
theorem Dq{st':St}(e:tL st a b=O st')(I:au W s.heap μ st)(ra:ai s.heap μ a v)(rb:ai s.heap μ b u):Tr W A (call (.builtin "list.extend") [v,u]) X s μ (eh W (.val .none) st'):=by
 delta tL at e;refine aw λMz kz555=> ?_
 split at e
 ·rename_i l h;split at e
  ·split at e
   ·rename_i hl;cases e;refine kz555 ?_;exact(vT (lv2:= .val (.tup _)) I h ra rfl rb hl).mono λ_ _ _ _ p=>by obtain⟨rfl,rfl,q⟩:=p;exact⟨rfl,q⟩
   ·exact nomatch e
  ·contradiction
 ·contradiction
theorem DQ{st':St}{x:AV}(e:mO st a=O (x,st'))(I:au W s.heap μ st)(ra:ai s.heap μ a v):Tr W A (call (.builtin "list.pop") [v]) X s μ (eh W (.val x) st'):=by
 delta mO at e;refine aw λMz kz565=> ?_
 split at e
 ·rename_i l h;split at e
  ·rename_i y hy;split at e
   ·rename_i hl;cases e;have hne:l≠[]:=λq=>by rw[q] at hy;cases hy
    have hl':l=l.dropLast++[x]:=by
     have:=List.dropLast_concat_getLast hne;rw[List.getLast?_eq_some_getLast hne] at hy;cases hy;exact this.symm
    rw[hl'] at h;refine kz565 ?_;exact(CM I h ra (by rw[List.length_dropLast];omega)).mono λ_ _ _ _ p=>by obtain⟨p1,rfl,q⟩:=p;exact⟨p1,q⟩
   ·contradiction
  ·contradiction
 ·contradiction
end
end
section
set_option tactic.hygienic true
noncomputable def cp(A:Around)(k:Nat):Prop:=A.handled=U∧A.depth+4*k+7<1000∧A.units+16*k+70<9900
theorem cp.room{A:Around}{k:Nat}(r:cp A k):tc A k:=⟨r.1,by have:=r.2.1;exact nu this,by have:=r.2.2;exact nu this⟩
theorem cp.cl{A:Around}{k:Nat}(r:cp A k):A.units+60<cLine:=by show _<9900;have:=r.2.2;omega
theorem tc.body{A:Around}{k:Nat}(r:tc A (k+1))(env:Env):cp (A.deeper env) k:=⟨r.1,by have:=r.2.1;show A.depth+1+4*k+7<1000;omega,by have:=r.2.2;show A.units+3+16*k+70<9900;omega⟩
theorem cp.making{A:Around}{k:Nat}(r:cp A k)(C:Addr)(vs:List Value):tc (A.under (.builtin "type.__call__" ⟨.ref C::vs,[]⟩)) k:=by
 have hf:(Mo "type.__call__" ⟨.ref C::vs,[]⟩).frames=0:=rfl;have hw:(Mo "type.__call__" ⟨.ref C::vs,[]⟩).weight≤3:=by
  have h1:(Mo "type.__call__" ⟨.ref C::vs,[]⟩).isGuard=N:=by
   show guardIds.contains "type.__call__"=N;decide+kernel
  have h2:(Mo "type.__call__" ⟨.ref C::vs,[]⟩).isCaller=N:=rfl;delta Code.weight;rw[h1,h2,hf];simp only[NX,if_false];split<;>exact nc
 refine⟨r.1,?_,?_⟩
 ·show A.depth+_+4*k+4<1000;have:=r.2.1;omega
 ·show A.units+(1+3*(Mo "type.__call__" ⟨.ref C::vs,[]⟩).frames)+16*k+60<9900;have:=r.2.2;omega
theorem ey{h:Heap}{μ:Mp}:∀{vs:List LV} {l:List AV} {us:List Value},eG vs=O l→bx h μ vs us→ax h μ l us
 |[],l,us,e,r=>by simp only[eG,JF] at e;subst e;exact r
 |a::vs,l,us,e,r=>by
  cases a<;>simp only[eG] at e<;>first|cases e|skip
  refine ak (Jr.mp e) λm h oz749=> ?_
  subst oz749;refine aX r λu rest oz750 r1 r2=> ?_
  subst oz750;exact⟨u,rest,rfl,r1,ey h r2⟩
theorem m9{h:Heap}{μ:Mp}:∀{vs:List LV} {l:List GV} {us:List Value},nh vs=O l→bx h μ vs us→cq h μ l us
 |[],l,us,e,r=>by simp only[nh,JF] at e;subst e;exact r
 |a::vs,l,us,e,r=>by
  simp only[nh] at e;split at e
  ·rename_i g hg;refine ak (Jr.mp e) λm h oz751=> ?_
   subst oz751;refine aX r λu rest oz752 r1 r2=> ?_
   subst oz752;exact⟨u,rest,rfl,k9 hg r1,m9 h r2⟩
  ·contradiction
section
variable{P:Pg}{kd:Str→Option Js}{nm:List Str}(e:Expr){M:Expr→Prop}
@[elab_as_elim] theorem wl{a:AV}(m:mE P (.cst a) kd nm e=Z)(K:∀c k ps,oe a c=Z→M (.Constant c k ps)):M e:=
 aj m λc h m=>tW h λk ps=>K c k ps m
@[elab_as_elim] theorem xH{i:Nat}(m:mE P (.var i) kd nm e=Z)(K:∀x ps,nm[i]? =O x→M (.Name x ps)):M e:=
 aj m λp h m=>bN h (K p.1 p.2 (beq_iff_eq.mp m))
@[elab_as_elim] theorem Gk{i:Nat}{y:Str}{lv:LV}(hv:P.gl[i]? =O (y,lv))(m:mE P (.glb i) kd nm e=Z)(K:∀ps,nA kd y=Z→M (.Name y ps)):M e:=
 aj m λp h m=>aj m λy' h2 m=>bN h (by
  cases h2.symm.trans hv;exact ae m λm1 m2=>cz (M:=λz=>nA kd z=Z→M (.Name z p.2)) m1 (K p.2) m2)
@[elab_as_elim] theorem y8{i:Nat}(m:mE P (.glb i) kd nm e=Z)(K:∀x ps,M (.Name x ps)):M e:=aj m λp h _=>bN h (K _ _)
@[elab_as_elim] theorem ye{l:X}(m:mE P (.tup l) kd nm e=Z)(K:∀es k ps,mL P l kd nm es=Z→M (.Tuple es k ps)):M e:=aj m λ_ h m=>nK h (K _ _ _ m)
@[elab_as_elim] theorem yG{d:Dm}{l:X}(m:mE P (.lst d l) kd nm e=Z)(K:∀es ps,mL P l kd nm es=Z→M (.List es ps)):M e:=aj m λ_ h m=>uE h λps=>K _ ps m
@[elab_as_elim] theorem xn{l:X}(m:mE P (.rls l) kd nm e=Z)(K:∀es ps,mL P l kd nm es=Z→M (.List es ps)):M e:=aj m λ_ h m=>uE h λps=>K _ ps m
@[elab_as_elim] theorem xI{g:Bool}{kk:KD}(m:mE P (.dct g kk) kd nm e=Z)(K:∀ps,M (.Dict [] [] ps)):M e:=
 aj m λp h m=>zY h λps=>ae m λm1 m2=>bX (M:=λz=>M (.Dict z p.2 ps)) m1 (bX (M:=λz=>M (.Dict [] z ps)) m2 (K ps))
@[elab_as_elim] theorem yY{o:D8}{a b:X}(m:mE P (.bin o a b) kd nm e=Z)(K:∀l r ps,mE P a kd nm l=Z→mE P b kd nm r=Z→M (.BinOp l (zn o) r ps)):M e:=
 aj m λp h m=>zF h λps=>ae m λm1 m=>cz (M:=λz=>M (.BinOp p.1 z p.2.2 ps)) m1 (ae m λm2 m3=>K _ _ ps m2 m3)
@[elab_as_elim] theorem yc{a:X}(m:mE P (.neg a) kd nm e=Z)(K:∀x ps,mE P a kd nm x=Z→M (.UnaryOp .USub x ps)):M e:=
 aj m λp h m=>yh h λps=>ae m λm1 m=>cz (M:=λz=>M (.UnaryOp z p.2 ps)) m1 (K _ ps m)
@[elab_as_elim] theorem DT{a:X}(m:mE P (.nt a) kd nm e=Z)(K:∀x ps,mE P a kd nm x=Z→M (.UnaryOp .Not x ps)):M e:=
 aj m λp h m=>yh h λps=>ae m λm1 m=>cz (M:=λz=>M (.UnaryOp z p.2 ps)) m1 (K _ ps m)
@[elab_as_elim] theorem wg{o:zD}{a b:X}(m:mE P (.cmp o a b) kd nm e=Z)(K:∀l r ps,mE P a kd nm l=Z→mE P b kd nm r=Z→MR (dY o) r=N→M (.Compare l [dY o] [r] ps)):M e:=
 aj m λp h m=>oy h λps=>aj m λop h1 m=>ef (M:=λz=>M (.Compare p.1 z p.2.2 ps)) h1 (aj m λr h2 m=>ef (M:=λz=>M (.Compare p.1 [op] z ps)) h2
  (ae m λm0 m=>by cases beq_iff_eq.mp m0;exact ae m λm1 m=>ae m λm2 m3=>K _ _ ps m1 m2 (JU _▸m3)))
@[elab_as_elim] theorem wR{n:Bool}{a:X}(m:mE P (.isN n a) kd nm e=Z)(K:∀l k p1 ps,mE P a kd nm l=Z→M (.Compare l [if n then ON else P8] [.Constant .none k p1] ps)):M e:=
 aj m λp h m=>oy h λps=>aj m λop h1 m=>ef (M:=λz=>M (.Compare p.1 z p.2.2 ps)) h1 (aj m λr h2 m=>ef (M:=λz=>M (.Compare p.1 [op] z ps)) h2
  (aj m λc h3 m=>tW (M:=λz=>M (.Compare p.1 [op] [z] ps)) h3 λk p1=>ae m λm0 m=>xe (M:=λz=>M (.Compare p.1 [op] [.Constant z k p1] ps)) m0 (ae m λm1 m2=>cz (M:=λz=>M (.Compare p.1 [z] [.Constant .none k p1] ps)) m1 (K _ k p1 ps m2))))
@[elab_as_elim] theorem xR{o1 o2:zD}{a b c:X}(m:mE P (.chn o1 o2 a b c) kd nm e=Z)(K:∀l r1 r2 ps,mE P a kd nm l=Z→mE P b kd nm r1=Z→mE P c kd nm r2=Z→MR (dY o2) r2=N→M (.Compare l [dY o1,dY o2] [r1,r2] ps)):M e:=
 aj m λp h m=>oy h λps=>aj m λop h1 m=>jf (M:=λz=>M (.Compare p.1 z p.2.2 ps)) h1 (aj m λr h2 m=>jf (M:=λz=>M (.Compare p.1 [op.1,op.2] z ps)) h2
  (ae m λn1 m=>ae m λn2 m=>cz (M:=λz=>M (.Compare p.1 [z,op.2] [r.1,r.2] ps)) n1 (ae m λm1 m=>ae m λm2 m=>ae m λm3 m4=>by
   have n2:=beq_iff_eq.mp n2;rw[n2] at m4 ⊢;exact K _ _ _ ps m1 m2 m3 (JU _▸m4))))
@[elab_as_elim] theorem xp{b:Bool}{l:X}(m:mE P (.bop b l) kd nm e=Z)(K:∀es ps,mL P l kd nm es=Z→es≠[]→M (.BoolOp (if b then Qm else QM) es ps)):M e:=
 aj m λp h m=>zU h λps=>ae m λm1 m=>cz (M:=λz=>M (.BoolOp z p.2 ps)) m1 (ae m λm2 m3=>K _ ps m2 λq=>by rw[q] at m3;cases m3)
@[elab_as_elim] theorem wF{c a b:X}(m:mE P (.ite c a b) kd nm e=Z)(K:∀t x y ps,mE P c kd nm t=Z→mE P a kd nm x=Z→mE P b kd nm y=Z→M (.IfExp t x y ps)):M e:=
 aj m λ_ h m=>Dk h λps=>ae m λm1 m=>ae m λm2 m3=>K _ _ _ ps m1 m2 m3
@[elab_as_elim] theorem wS{i:Nat}{o:X}(m:mE P (.atr i o) kd nm e=Z)(K:∀v x ps,P.an[i]? =O x→cB v=Z→mE P o kd nm v=Z→M (.Attribute v x ps)):M e:=
 aj m λ_ h m=>nD h (ae m λm1 m=>ae m λm2 m3=>K _ _ _ (beq_iff_eq.mp m1) m2 m3)
@[elab_as_elim] theorem ym{o i:X}(m:mE P (.sub o i) kd nm e=Z)(K:∀v s ps,fR s=Z→mE P o kd nm v=Z→mE P i kd nm s=Z→M (.Subscript v s ps)):M e:=
 aj m λ_ h m=>kx h λps=>ae m λm1 m=>ae m λm2 m3=>K _ _ ps m1 m2 m3
@[elab_as_elim] theorem wm{o i:X}(m:mE P (.slT o i) kd nm e=Z)(K:∀v s p1 ps,mE P o kd nm v=Z→mE P i kd nm s=Z→M (.Subscript v (.Slice U (O s) U p1) ps)):M e:=
 aj m λp h m=>kx h λps=>aj m λq h1 m=>uc (M:=λz=>M (.Subscript p.1 z ps)) h1 λp1=>aj m λs h2 m=>xY (M:=λz=>M (.Subscript p.1 (.Slice q.1 z q.2.2 p1) ps)) h2
  (ae m λn1 m=>kt (M:=λz=>M (.Subscript p.1 (.Slice z (O s) q.2.2 p1) ps)) n1 (ae m λn2 m=>kt (M:=λz=>M (.Subscript p.1 (.Slice U (O s) z p1) ps)) n2 (ae m λm1 m2=>K _ _ p1 ps m1 m2)))
@[elab_as_elim] theorem wp{o i:X}(m:mE P (.slF o i) kd nm e=Z)(K:∀v s p1 ps,mE P o kd nm v=Z→mE P i kd nm s=Z→M (.Subscript v (.Slice (O s) U U p1) ps)):M e:=
 aj m λp h m=>kx h λps=>aj m λq h1 m=>uc (M:=λz=>M (.Subscript p.1 z ps)) h1 λp1=>aj m λs h2 m=>xY (M:=λz=>M (.Subscript p.1 (.Slice z q.2.1 q.2.2 p1) ps)) h2
  (ae m λn1 m=>kt (M:=λz=>M (.Subscript p.1 (.Slice (O s) z q.2.2 p1) ps)) n1 (ae m λn2 m=>kt (M:=λz=>M (.Subscript p.1 (.Slice (O s) U z p1) ps)) n2 (ae m λm1 m2=>K _ _ p1 ps m1 m2)))
theorem n9{e:Expr}{p:Expr×List Expr×List Keyword×Pos}{x:Str×Pos}(h:eA e=O p)(h1:bZ p.1=O x)(m:dC p.2.2.1=Z)(K:M (.Call (.Name x.1 x.2) p.2.1 [] p.2.2.2)):M e:=
 qO h (bN (M:=λz=>M (.Call z p.2.1 p.2.2.1 p.2.2.2)) h1 (bX (M:=λz=>M (.Call (.Name x.1 x.2) p.2.1 z p.2.2.2)) m K))
theorem lc{e:Expr}{p:Expr×List Expr×List Keyword×Pos}{x:Expr×Str×Pos}(h:eA e=O p)(h1:mG p.1=O x)(m:dC p.2.2.1=Z)(K:M (.Call (.Attribute x.1 x.2.1 x.2.2) p.2.1 [] p.2.2.2)):M e:=
 qO h (nD (M:=λz=>M (.Call z p.2.1 p.2.2.1 p.2.2.2)) h1 (bX (M:=λz=>M (.Call (.Attribute x.1 x.2.1 x.2.2) p.2.1 z p.2.2.2)) m K))
noncomputable def CY(P:Pg)(a:X)(kd:Str→Option Js)(nm:List Str)(f:rL)(es:List Expr):Bool:=match f with
 | .isStr=>on (as2 es) λq=>on (bZ q.2) λy=>mE P a kd nm q.1&&(y.1==("str":Str)&&nA kd y.1)
 |_=>on (o9 es) λq=>mE P a kd nm q
@[elab_as_elim] theorem yu{f:rL}{a:X}(m:mE P (.fn1 f a) kd nm e=Z)(K:∀np es ps,nA kd (nN f)=Z→CY P a kd nm f es=Z→M (.Call (.Name (nN f) np) es [] ps)):M e:=
 aj m λp h m=>aj m λx h1 m=>ae m λm0 m=>n9 h h1 m0 (ae m λm1 m=>ae m λm2 m3=>cz (M:=λz=>nA kd z=Z→M (.Call (.Name z x.2) p.2.1 [] p.2.2.2)) m1 (λm2=>K _ _ _ m2 m3) m2)
@[elab_as_elim] theorem rQ{o k d:X}(m:mE P (.getD o k d) kd nm e=Z)(K:∀v ap e1 e2 ps,cB v=Z→ap.endLine=ps.line→mE P o kd nm v=Z→mE P k kd nm e1=Z→mE P d kd nm e2=Z→M (.Call (.Attribute v "get" ap) [e1,e2] [] ps)):M e:=
 aj m λp h m=>aj m λx h1 m=>aj m λq h2 m=>ae m λm0 m=>lc h h1 m0 (jf (M:=λz=>M (.Call (.Attribute x.1 x.2.1 x.2.2) z [] p.2.2.2)) h2
  (ae m λm1 m=>cz (M:=λz=>M (.Call (.Attribute x.1 z x.2.2) [q.1,q.2] [] p.2.2.2)) m1 (ae m λm2 m=>ae m λm3 m=>ae m λm4 m=>ae m λm5 m6=>K _ _ _ _ _ m2 (beq_iff_eq.mp m3) m4 m5 m6)))
@[elab_as_elim] theorem yZ{o x:X}(m:mE P (.app o x) kd nm e=Z)(K:∀v ap e1 ps,cB v=Z→ap.endLine=ps.line→mE P o kd nm v=Z→mE P x kd nm e1=Z→M (.Call (.Attribute v "append" ap) [e1] [] ps)):M e:=
 aj m λp h m=>aj m λy h1 m=>aj m λq h2 m=>ae m λm0 m=>lc h h1 m0 (ef (M:=λz=>M (.Call (.Attribute y.1 y.2.1 y.2.2) z [] p.2.2.2)) h2
  (ae m λm1 m=>cz (M:=λz=>M (.Call (.Attribute y.1 z y.2.2) [q] [] p.2.2.2)) m1 (ae m λm2 m=>ae m λm3 m=>ae m λm4 m5=>K _ _ _ _ m2 (beq_iff_eq.mp m3) m4 m5)))
@[elab_as_elim] theorem yf{o x:X}(m:mE P (.ext o x) kd nm e=Z)(K:∀v ap e1 ps,cB v=Z→ap.endLine=ps.line→mE P o kd nm v=Z→mE P x kd nm e1=Z→M (.Call (.Attribute v "extend" ap) [e1] [] ps)):M e:=
 aj m λp h m=>aj m λy h1 m=>aj m λq h2 m=>ae m λm0 m=>lc h h1 m0 (ef (M:=λz=>M (.Call (.Attribute y.1 y.2.1 y.2.2) z [] p.2.2.2)) h2
  (ae m λm1 m=>cz (M:=λz=>M (.Call (.Attribute y.1 z y.2.2) [q] [] p.2.2.2)) m1 (ae m λm2 m=>ae m λm3 m=>ae m λm4 m5=>K _ _ _ _ m2 (beq_iff_eq.mp m3) m4 m5)))
@[elab_as_elim] theorem xX{o:X}(m:mE P (.pop o) kd nm e=Z)(K:∀v ap ps,cB v=Z→ap.endLine=ps.line→mE P o kd nm v=Z→M (.Call (.Attribute v "pop" ap) [] [] ps)):M e:=
 aj m λp h m=>aj m λy h1 m=>ae m λn0 m=>ae m λm0 m=>lc h h1 m0 (bX (M:=λz=>M (.Call (.Attribute y.1 y.2.1 y.2.2) z [] p.2.2.2)) n0
  (ae m λm1 m=>cz (M:=λz=>M (.Call (.Attribute y.1 z y.2.2) [] [] p.2.2.2)) m1 (ae m λm2 m=>ae m λm3 m4=>K _ _ _ m2 (beq_iff_eq.mp m3) m4)))
@[elab_as_elim] theorem wf{f:Nat}{as:X}(m:mE P (.cal f as) kd nm e=Z)(K:∀fd np es ps,P.fd[f]? =O fd→fd.glob=Z→nA kd fd.name=Z→mL P as kd nm es=Z→M (.Call (.Name fd.name np) es [] ps)):M e:=
 aj m λp h m=>aj m λx h1 m=>aj m λfd h2 m=>ae m λm0 m=>n9 h h1 m0 (ae m λm1 m=>ae m λm2 m=>ae m λm3 m4=>cz (M:=λz=>nA kd z=Z→M (.Call (.Name z x.2) p.2.1 [] p.2.2.2)) m2 (λm3=>K _ _ _ _ h2 m1 m3 m4) m3)
@[elab_as_elim] theorem yp{i:Nat}{o as:X}(m:mE P (.mth i o as) kd nm e=Z)(K:∀v x ap es ps,P.an[i]? =O x→cB v=Z→ap.endLine=ps.line→es.length<30→mE P o kd nm v=Z→mL P as kd nm es=Z→M (.Call (.Attribute v x ap) es [] ps)):M e:=
 aj m λp h m=>aj m λy h1 m=>ae m λm0 m=>lc h h1 m0 (ae m λm1 m=>ae m λm2 m=>ae m λm3 m=>ae m λm4 m=>ae m λm5 m6=>K _ _ _ _ _ (beq_iff_eq.mp m1) m2 (beq_iff_eq.mp m3) (of_decide_eq_true m4) m5 m6)
@[elab_as_elim] theorem wO{c:Nat}{as:X}(m:mE P (.new c as) kd nm e=Z)(K:∀x np es ps,P.cn[c]? =O x→nA kd x=Z→mL P as kd nm es=Z→M (.Call (.Name x np) es [] ps)):M e:=
 aj m λp h m=>aj m λx h1 m=>ae m λm0 m=>n9 h h1 m0 (ae m λm1 m=>ae m λm2 m3=>K _ _ _ _ (beq_iff_eq.mp m1) m2 m3)
noncomputable def zv(P:Pg)(cond:X)(kd:Str→Option Js)(nm:List Str)(ifs:List Expr):Bool:=match ifs with
 |[]=>wV cond
 |t::r=>dC r&&mE P cond kd nm t
@[elab_as_elim] theorem k5{loc:Bool}{tg:Nat}{bs:List Bool}{x it cond:X}(m:mE P (.comp loc tg bs x it cond) kd nm e=Z)
  (K:∀el y py iter ifs sc ps,nm[tg]? =O y→sc.names.lookup y=O .local→lr kd sc=Z→iJ kd sc.names bs nm=Z→mE P it kd nm iter=Z→mE P x (cr kd sc.names) nm el=Z→zv P cond (cr kd sc.names) nm ifs=Z→
   M (.ListComp el [⟨.Name y py,iter,ifs,0⟩] sc ps)):M e:=
 aj m λp h m=>wP h (aj m λg h1 m=>ef (M:=λz=>M (.ListComp p.1 z p.2.2.1 p.2.2.2)) h1 (aj m λy h2 m=>
  ae m λm0 m=>ae m λm1 m=>ae m λm2 m=>ae m λm3 m=>ae m λm4 m=>ae m λm5 m=>ae m λm6 m7=>by
   obtain⟨tgt,iter,ifs,a⟩:=g;cases beq_iff_eq.mp m0;exact bN (M:=λz=>M (.ListComp p.1 [⟨z,iter,ifs,0⟩] p.2.2.1 p.2.2.2)) h2 (K _ _ _ _ _ _ _ (beq_iff_eq.mp m1) (beq_iff_eq.mp m2) m3 m4 m5 m6 m7)))
theorem pT{e:Expr}{x:X}(m:mE P x kd nm e=Z):y7 e=Z:=by
 induction x with
 |hole=>exact m
 |cst=>exact wl e m λ_ _ _ _=>rfl
 |var=>exact xH e m λ_ _ _=>rfl
 |glb=>exact y8 e m λ_ _=>rfl
 |tup=>exact ye e m λ_ _ _ _=>rfl
 |lst=>exact yG e m λ_ _ _=>rfl
 |rls=>exact xn e m λ_ _ _=>rfl
 |dct=>exact xI e m λ_=>rfl
 |bin=>exact yY e m λ_ _ _ _ _=>rfl
 |neg=>exact yc e m λ_ _ _=>rfl
 |nt=>exact DT e m λ_ _ _=>rfl
 |cmp=>exact wg e m λ_ _ _ _ _ _=>rfl
 |isN=>exact wR e m λ_ _ _ _ _=>rfl
 |chn=>exact xR e m λ_ _ _ _ _ _ _ _=>rfl
 |bop=>exact xp e m λ_ _ _ _=>rfl
 |ite=>exact wF e m λ_ _ _ _ _ _ _=>rfl
 |atr=>exact wS e m λ_ _ _ _ _ _=>rfl
 |sub=>exact ym e m λ_ _ _ _ _ _=>rfl
 |slT=>exact wm e m λ_ _ _ _ _ _=>rfl
 |slF=>exact wp e m λ_ _ _ _ _ _=>rfl
 |fn1=>exact yu e m λ_ _ _ _ _=>rfl
 |getD=>exact rQ e m λ_ _ _ _ _ _ _ _ _ _=>rfl
 |app=>exact yZ e m λ_ _ _ _ _ _ _ _=>rfl
 |ext=>exact yf e m λ_ _ _ _ _ _ _ _=>rfl
 |pop=>exact xX e m λ_ _ _ _ _ _=>rfl
 |cal=>exact wf e m λ_ _ _ _ _ _ _ _=>rfl
 |mth=>exact yp e m λ_ _ _ _ _ _ _ _ _ _ _=>rfl
 |new=>exact wO e m λ_ _ _ _ _ _ _=>rfl
 |comp=>exact k5 e m λ_ _ _ _ _ _ _ _ _ _ _ _ _ _=>rfl
 |_=>exact(Jd m).elim
theorem vC{e:Expr}(m:y7 e=Z):je e=Z:=by
 cases e<;>first|rfl|exact(Jd m).elim
end
theorem bE{P:Pg}{kd:Str→Option Js}{nm:List Str}{x:X}{e:Expr}(m:mE P x kd nm e=Z)(rest:List Expr)(env:Env):Ku (e::rest) env=(N,eval e env)::Ku rest env:=by
 have m:=pT m;cases e<;>first|rfl|exact(Jd m).elim
theorem pS{P:Pg}{kd:Str→Option Js}{nm:List Str}{env:Env}:∀{es:List Expr} {x:X},mL P x kd nm es=Z→(Ku es env).any (·.1)=N
 |[],_,_=>rfl
 |e::es,x,h=>by
  cases x<;>first|exact(Jd h).elim|skip
  exact ae h λm1 m2=>by rw[bE m1];exact pS m2
theorem kz{pos:Pos}{l:List (Bool×Sem Value)}:(Mg pos l).any (·.1)=l.any (·.1):=by
 delta Mg;rw[Oi]
 congr 1
section
variable{W:Wd}{A:Around}{s:Shared}{env:Env}
theorem uu{o:Expr}{name:Str}{w:Sem Value}(h:cB o=Z):attributeBase o name env w=w:=by
 cases o<;>first|rfl|cases h
theorem vl{value:Expr}{at_:Str}{pos:Pos}{Q:Value→Shared→Prop}{E:Value→Shared→Prop}(nc:cB value=Z)
  (h:wpAny (model W.prog W.w) A (eval value env) (λo s₁=>wpAny (model W.prog W.w) A (getAttr o at_ Z) Q E s₁) E s):wpAny (model W.prog W.w) A (eval (.Attribute value at_ pos) env) Q E s:=by
 rw[arm_eval_Attribute,uu nc];exact Jc (Ks h (λo s₁ h₁=>Jc (Ko (Jc (KP (Ks h₁ (λr s₂ h₂=>Jc (Mb (Jg h₂))) λ_ _ x=>x))))) λ_ _ x=>x)
theorem zu{value slice:Expr}{pos:Pos}{Q:Value→Shared→Prop}{E:Value→Shared→Prop}(ns:fR slice=Z)
  (h:wpAny (model W.prog W.w) A (eval value env) (λo s₁=>wpAny (model W.prog W.w) A (eval slice env) (λi s₂=>P9 (model W.prog W.w) A o i Q E s₂) E s₁) E s):
  wpAny (model W.prog W.w) A (eval (.Subscript value slice pos) env) Q E s:=by
 refine Jc (Ks h (λo s₁ h₁=>Jc (KP (Ks h₁ (λi s₂ h₂=>Jc (Ko ?_)) λ_ _ x=>x)))
  λ_ _ x=>x)
 refine aX h₂ λT id hl hT hg=> ?_
 refine Jc ?_;refine Jc (Ly hT hl ?_);have e:subscripted slice N o i=operate [o,i] (Mn o i):=by cases slice<;>first|rfl|cases ns
 have bv:wpAny (model W.prog W.w) A (subscripted slice N o i) (λr s₃=>wpAny (model W.prog W.w) A (Pk value o r>>=λ_=>pure r) Q E s₃) E s₂:=by
  exact(e).symm▸(OX (Ks hg (λr s₃ h₃=>Jc (Mb (Jg h₃))) λ_ _ x=>x))
 first
  |exact Jg (Jc bv)
  |exact Jc (Jg (Jc bv))
  |exact Jc bv
theorem lV{value:Expr}{lower upper:Option Expr}{p pos:Pos}{Q:Value→Shared→Prop}{E:Value→Shared→Prop}
  (h:wpAny (model W.prog W.w) A (eval value env) (λo s₁=>wpAny (model W.prog W.w) A (eval (.Slice lower upper U p) env) (λi s₂=>P9 (model W.prog W.w) A o i Q E s₂) E s₁) E s):
  wpAny (model W.prog W.w) A (eval (.Subscript value (.Slice lower upper U p) pos) env) Q E s:=by
 refine Jc (Ks h (λo s₁ h₁=>Jc (KP (Ks h₁ (λi s₂ h₂=>Jc (Ko ?_)) λ_ _ x=>x)))
  λ_ _ x=>x)
 refine aX h₂ λT id hl hT hg=> ?_
 refine Jc ?_;refine Jc (Ly hT hl ?_);have bv:wpAny (model W.prog W.w) A (operate [i,o] (Mn o i)) (λr s₃=>wpAny (model W.prog W.w) A (Pk value o r>>=λ_=>pure r) Q E s₃) E s₂:=
  OX (Ks hg (λr s₃ h₃=>Jc (Mb (Jg h₃))) λ_ _ x=>x)
 first
  |exact Jg (Jc bv)
  |exact Jc (Jg (Jc bv))
  |exact Jc bv
theorem bP{f:Value}{first:List Value}{es:List Expr}{pos ps:Pos}{Q:Value→Shared→Prop}{E:Value→Shared→Prop}(hs:(Ku es env).any (·.1)=N)(H:Heap→Prop)
  (hk:∀h,H h→∃k,(k=Oj∨k=Nt∨k=MI)∧Looks (model W.prog W.w) h (Qb f) k)
  (h:wpAny (model W.prog W.w) A (spliced (Mg ps (Ku es env))) (λvs s₁=>H s₁.heap∧wpAny (model W.prog W.w) A (call f (first++vs)) Q E s₁) E s):
  wpAny (model W.prog W.w) A (Pl pos f first (Mg ps (Ku es env)) []) Q E s:=by
 refine callWith_of (P:=H) (by rw[kz,hs];rfl) hk ?_;induction es with
 |nil=>
  refine Jc (Ks (show wpAny _ A (spliced []) _ E s from h) (λvs s' h'=> ?_) λ_ _ x=>x);refine KP ?_;exact Jc (Jg (Jc (Jg (Jg h'))))
 |cons e es=>
  have hh:∀l:List (Bool×Sem Value),l.any (·.1)=N→l≠[]→∃t r,l=(N,t)::r:=λl hl hn=>by
   match l,hl,hn with
   |(b,t)::r,hl,_=>
    simp only[Ls,KA] at hl;exact⟨t,r,by rw[hl.1]⟩
  obtain⟨t,r,er⟩:=hh (Mg ps (Ku (e::es) env)) (by rw[kz];exact hs) (by
   cases e<;>exact OH _ _)
  rw[er] at h ⊢;exact evalArgs_plain h
theorem du{f:Value}(h:(match f with| .ref _=>N|_=>Z)=Z)(hh:Heap):∃k,(k=Oj∨k=Nt∨k=MI)∧Looks (model W.prog W.w) hh (Qb f) k:=by
 refine⟨.machine,.inr (.inl rfl),Looks.of_pure ?_⟩;cases f<;>first|rfl|cases h
theorem cW{o:Expr}{at_:Str}{ap ps:Pos}{es:List Expr}{Q:Value→Shared→Prop}{E:Value→Shared→Prop}(nc:cB o=Z)(hl:(ap.endLine==ps.line)=Z)(hs:(Ku es env).any (·.1)=N)(hn:es.length<30)
  (h:wpAny (model W.prog W.w) A (eval o env) (λov s₁=>∀pl,wpAny (model W.prog W.w) A (PE ov at_ pl) (λfp s₂=>wpAny (model W.prog W.w) A (Pl ps fp.1 fp.2 (Mg ps (Ku es env)) []) Q E s₂) E s₁) E s):
  wpAny (model W.prog W.w) A (eval (.Call (.Attribute o at_ ap) es [] ps) env) Q E s:=by
 rw[arm_eval_Call,uu nc];refine Jc (Ks h (λov s₁ h₁=>Jc (Ko ?_)) λ_ _ x=>x);have all:(Mg ps (Ku es env)).all (λx=> !x.1)=Z:=by
  rw[←Bool.not_eq_false,←kz (pos:=ps)] at*;rw[List.all_eq_not_any_not];simp only[Bool.not_not];rw[hs];simp
 have hform:Pm (es.length+([]:List Keyword).length) (Mg ps (Ku es env)) (backToKw ps (keywordEach [] env))=Z:=by
  delta Pm;rw[all];show(Z&&Z&&QQ (es.length+0+0<30))=Z;simpa using hn
 have hpos:Pw Z o env ap ps=pure ps:=by delta Pw;simp[hl]
 delta methodCall;rw[hform];refine Jc (KP ?_);refine Ks (h₁ _) (λfp s₂ h₂=> ?_) λ_ _ x=>x
 exact Jc (wpAny_of_eq hpos h₂)
end
end
noncomputable def yL(W:Wd)(P:Pg)(k:Nat)(Φ:ek):Prop:=∀f fd as st r st',P.fd[f]? =O fd→Φ f as st=O (r,st')→∀A s μ vs,tc A k→au W s.heap μ st→bx s.heap μ as vs→
 Ct W A (.ref fd.addr) vs s μ (λv h' μ'=>ai h' μ' r v∧au W h' μ' st')
section
variable(W:Wd)(P:Pg)(Φ:ek)(k:Nat)
noncomputable def I0(x:X)(R:Ρ→St→Option (LV×St)):Prop:=∀ρ st r,R ρ st=O r→∀A env kd nm s μ e,cp A k→(∀y,env.kindOf y=kd y)→am W env nm ρ s.heap μ→au W s.heap μ st→mE P x kd nm e=Z→
 Tr W A (eval e env) X0 s μ (eh W r.1 r.2)
noncomputable def wa(b:Bool)(st':St)(t:Bool)(h':Heap)(μ':Mp):Prop:=t=b∧au W h' μ' st'
noncomputable def HL(r:List LV)(st':St)(vs:List Value)(h':Heap)(μ':Mp):Prop:=bx h' μ' r vs∧au W h' μ' st'
structure Sd(x:X):Prop where
 V:∀ρ st r st',ev P W.tb Φ x .V ρ st=O ([r],st')→∀A env kd nm s μ e,cp A k→(∀y,env.kindOf y=kd y)→am W env nm ρ s.heap μ→au W s.heap μ st→mE P x kd nm e=Z→
  Tr W A (eval e env) X0 s μ (eh W r st')
 T:∀ρ st b st',ev P W.tb Φ x .T ρ st=O ([.val (.bool b)],st')→∀A env kd nm s μ e,cp A k→(∀y,env.kindOf y=kd y)→am W env nm ρ s.heap μ→au W s.heap μ st→mE P x kd nm e=Z→
  Tr W A (isTrue e env (eval e env)) X0 s μ (wa W b st')
 L:∀ρ st r st',ev P W.tb Φ x .L ρ st=O (r,st')→∀A env kd nm s μ es pos,cp A k→(∀y,env.kindOf y=kd y)→am W env nm ρ s.heap μ→au W s.heap μ st→mL P x kd nm es=Z→
  Tr W A (spliced (Mg pos (Ku es env))) X0 s μ (HL W r st')
 B:∀c ρ st r st',ev P W.tb Φ x (.B c) ρ st=O ([r],st')→∀A env kd nm s μ es pos,cp A k→(∀y,env.kindOf y=kd y)→am W env nm ρ s.heap μ→au W s.heap μ st→mL P x kd nm es=Z→es≠[]→
  Tr W A (Qq pos (if c then .And else .Or) (Pp es env)) X0 s μ (eh W r st')
 C:∀c ρ st b st',ev P W.tb Φ x (.C c) ρ st=O ([.val (.bool b)],st')→∀A env kd nm s μ es,cp A k→(∀y,env.kindOf y=kd y)→am W env nm ρ s.heap μ→au W s.heap μ st→mL P x kd nm es=Z→
  Tr W A (PT (if c then .And else .Or) es env) X0 s μ (wa W b st')
end
theorem BS{R:Option (LV×St)}{r:LV}{st':St}(e:bv .V R=O ([r],st')):R=O (r,st'):=by
 match R,e with
 |some (_,_),rfl=>rfl
theorem Fg{R:Option (LV×St)}{b:Bool}{st':St}(e:bv .T R=O ([.val (.bool b)],st')):∃r,R=O (r,st')∧aK st' r=O b:=by
 match R,e with
 |some (r,st),e=>
  have e:(aK st r).map (λb=>([LV.val (.bool b)],st))=O ([.val (.bool b)],st'):=e;cases q:aK st r with
  |none=>rw[q] at e;exact ns e
  |some c=>rw[q] at e;cases e;exact⟨r,rfl,q⟩
section
variable{W:Wd}{P:Pg}{Φ:ek}{k:Nat}
theorem Sd.val{x:X}{R:Ρ→St→Option (LV×St)}(hf:∀m ρ st,ev P W.tb Φ x m ρ st=bv m (R ρ st))
   (he:∀e kd nm,mE P x kd nm e=Z→∀env whole,isTrue e env whole=(do let v←whole;standAt e.pos;holding [v] (truthy v))) (hn:∀kd nm es,mL P x kd nm es=N) (h:I0 W P k x R):Sd W P Φ k x:=
 ⟨λρ st r st' e A env kd nm s μ ex room hk F V m=>h ρ st (r,st') (BS ((hf _ _ _).symm.trans e)) A env kd nm s μ ex room hk F V m,
  λρ st b st' e A env kd nm s μ ex room hk F V m=>by
   refine ak (Fg ((hf _ _ _).symm.trans e)) λlv q hb=> ?_
   refineλQ E qq=>wpAny_isTrue_value (h ρ st _ q A env kd nm s μ ex room hk F V m _ _ λv h1 tk1 μ1 S1 p1=> ?_) (he ex kd nm m env _)
   exact k7 (W:=W) (A:=A) (X:=X0) (s:={s with heap:=h1,toks:=tk1}) p1.2 hb p1.1 _ _ λt h2 tk2 μ2 S2 p2=>qq t h2 tk2 μ2 (S1.trans S2) ⟨p2.2.2,by obtain⟨rfl,rfl,_⟩:=p2;exact p1.2⟩,
  λρ st r st' e A env kd nm s μ es pos _ _ _ _ m=>absurd ((hn _ _ _).symm.trans m) Jd,
  λc ρ st r st' e A env kd nm s μ es pos _ _ _ _ m=>absurd ((hn _ _ _).symm.trans m) Jd,
  λc ρ st r st' e A env kd nm s μ es _ _ _ _ m=>absurd ((hn _ _ _).symm.trans m) Jd⟩
theorem BU{a b:X}(ha:Sd W P Φ k a)(hb:Sd W P Φ k b){ρ:Ρ}{st st1 st2:St}{x y:LV}(e1:ev P W.tb Φ a .V ρ st=O ([x],st1))(e2:ev P W.tb Φ b .V ρ st1=O ([y],st2))
  {A:Around} {env:Env} {kd:Str→Option Js} {nm:List Str} {s:Shared} {μ:Mp} {l r:Expr} (room:cp A k) (hk:∀y,env.kindOf y=kd y) (F:am W env nm ρ s.heap μ) (V:au W s.heap μ st) (m1:mE P a kd nm l=Z) (m2:mE P b kd nm r=Z)
  (Q:Value→Value→Shared→Prop) (E:Value→Shared→Prop) (q:∀v u h' tk' μ',aH X0 s.heap μ h' μ'→ai h' μ' x v→ai h' μ' y u→au W h' μ' st2→Q v u {s with heap:=h',toks:=tk'}):
  wpAny (model W.prog W.w) A (eval l env) (λv s1=>wpAny (model W.prog W.w) A (eval r env) (λu s2=>Q v u s2) E s1) E s:=
 ha.V _ _ _ _ e1 A env kd nm s μ l room hk F V m1 _ _ λv h1 tk1 μ1 S1 p1=>hb.V _ _ _ _ e2 A env kd nm {s with heap:=h1,toks:=tk1} μ1 r room hk (F.step S1) p1.2 m2 _ _ λu h2 tk2 μ2 S2 p2=>q v u h2 tk2 μ2 (S1.trans S2) (p1.1.step S2) p2.1 p2.2
theorem CH{A:Around}{env:Env}{s:Shared}{μ:Mp}{st:St}{kk:Nat}{ps:Pos}(V:au W s.heap μ st){a:AV}{c:Const}(m:oe a c=Z):Tr W A (eval (.Constant c kk ps) env) X0 s μ (eh W (.val a) st):=by
 cases a with
 |none=>cases c<;>first|exact(Jd m).elim|exact Tr.samePost (x:= .val .none) V (Tr.same (a:= .none) (λQ E q=>Mj (q s.toks)) rfl)
 |bool b=>cases c<;>first|exact(Jd m).elim|exact Tr.samePost (x:= .val (.bool b)) V (Tr.same (a:= .bool _) (λQ E q=>wpAny_Constant_bool (q s.toks)) (congrArg Value.bool (beq_iff_eq.mp m).symm))
 |int b=>cases c<;>first|exact(Jd m).elim|exact Tr.samePost (x:= .val (.int b)) V (Tr.same (a:= .int _ s.toks) (λQ E q=>wpAny_Constant_int (q _)) ⟨s.toks,by rw[beq_iff_eq.mp m]⟩)
 |str b=>cases c<;>first|exact(Jd m).elim|exact Tr.samePost (x:= .val (.str b)) V (Tr.same (a:= .str _ s.toks) (λQ E q=>wpAny_Constant_str (q _)) ⟨s.toks,by rw[beq_iff_eq.mp m]⟩)
 |_=>exact(Jd m).elim
theorem Fu(a:AV):Sd W P Φ k (.cst a):=by
 refine Sd.val (R:=λ_ st=>O (.val a,st)) (λm ρ st=>rfl) (λe kd nm m env whole=>wl e m λ_ _ _ _=>rfl) (λkd nm es=>rfl) ?_;intro ρ st lv e A env kd nm s μ ex room hk F V m;exact aV lv e (wl ex m λc kk ps m=>CH V m)
theorem F0(i:Nat):Sd W P Φ k (.var i):=by
 refine Sd.val (R:=λρ st=>oO ρ[i]? λo=>oO o λlv=>O (lv,st)) (λm ρ st=>rfl) (λe kd nm m env whole=>xH e m λ_ _ _=>rfl) (λkd nm es=>rfl) ?_;intro ρ st r e A env kd nm s μ ex room hk F V m;exact xH ex m λx ps hn=>aI e λo h1 e=>aI e λlv h2 e=>aV r e ((DG F hn (h1.trans (congrArg O h2))).mono λ_ _ _ _ p=>by obtain⟨rfl,rfl,r⟩:=p;exact⟨r,V⟩)
theorem oC{kd:Str→Option Js}{x:Str}{env:Env}(hk:∀y,env.kindOf y=kd y)(h:nA kd x=Z):env.kindOf x=O .globalImplicit∧(x==("__debug__":Str))=N:=
 ae h λh1 h2=>⟨(hk x).trans (beq_iff_eq.mp h1),JU _▸h2⟩
theorem Ev(ok:Ok W P)(i:Nat):Sd W P Φ k (.glb i):=by
 refine Sd.val (R:=λ_ st=>oO P.gl[i]? λp=>O (p.2,st)) (λm ρ st=>rfl) (λe kd nm m env whole=>y8 e m λ_ _=>rfl) (λkd nm es=>rfl) ?_;intro ρ st r e A env kd nm s μ ex room hk F V m;refine aI e λp hv e=>aV r e ?_
 obtain⟨y,lv⟩:=p;refine Gk ex hv m λpos hg=> ?_
 refine pE (ok.gl i _ _ hv) λv hv' rv nl nr=> ?_
 refine aO (oC hk hg) λh1 h2=> ?_
 refine(jh V F.kind F.glo h1 hv' h2).mono λu h' μ' _ p=> ?_
 refine cI p λoz764 oz765 oz766=> ?_
 subst oz764;subst oz765;subst oz766;refine⟨?_,V⟩;induction lv with
 |val a=>exact ay.ofB V rv
 |tab a=>exact rv
 |loc n=>exact absurd rfl (nl n)
 |ref n=>exact absurd rfl (nr n)
theorem Gh{l:X}(h:Sd W P Φ k l):Sd W P Φ k (.tup l):=by
 refine Sd.val (R:=λρ st=>oL (ev P W.tb Φ l .L ρ st) λvs st1=>oO (eG vs) λl=>if l.length<aA then O (.val (.tup l),st1) else U) (λm ρ st=>rfl) (λe kd nm m env whole=>ye e m λ_ _ _ _=>rfl) (λkd nm es=>rfl) ?_;intro ρ st r e A env kd nm s μ ex room hk F V m;refine ye ex m λes x1 pos m=>kH e λvs st1 hev e=>aI e λl' hav e=>bH e λhl e=>aV r e λQ E q=> ?_
 exact Jc (Ko (Jc (h.L _ _ _ _ hev A env kd nm s μ es pos room hk F V m _ _ λus h1 tk1 μ1 S1 p1=>
  oU (W:=W) (A:=A) (X:=X0) (s:={s with heap:=h1,toks:=tk1}) p1.2 (ey hav p1.1) hl _ _ λv h2 tk2 μ2 S2 p2=>q v h2 tk2 μ2 (S1.trans S2) ⟨p2.1,by obtain⟨_,rfl,I⟩:=p2;exact I⟩)))
theorem FV{l:X}(d:Dm)(h:Sd W P Φ k l):Sd W P Φ k (.lst d l):=by
 refine Sd.val (R:=λρ st=>oL (ev P W.tb Φ l .L ρ st) λvs st1=>oO (eG vs) λl=>if l.length<aA then O (rP d l st1) else U) (λm ρ st=>rfl) (λe kd nm m env whole=>yG e m λ_ _ _=>rfl) (λkd nm es=>rfl) ?_;intro ρ st r e A env kd nm s μ ex room hk F V m;refine yG ex m λes pos m=>kH e λvs st1 hev e=>aI e λl' hav e=>bH e λhl e=>aV r e λQ E q=> ?_
 refine Jc (Ko (Jc (h.L _ _ _ _ hev A env kd nm s μ es pos room hk F V m _ _ λus h1 tk1 μ1 S1 p1=> ?_)));induction d with
 |val=>exact qI (W:=W) (A:=A) (X:=X0) (s:={s with heap:=h1,toks:=tk1}) p1.2 (ey hav p1.1) hl _ _ λv h2 tk2 μ2 S2 p2=>q v h2 tk2 μ2 (S1.trans S2) ⟨p2.1,by obtain⟨_,rfl,I⟩:=p2;exact I⟩
 |loc=>exact lP (W:=W) (A:=A) (X:=X0) (s:={s with heap:=h1,toks:=tk1}) p1.2 (ey hav p1.1) hl _ _ λv h2 tk2 μ2 S2 p2=>q v h2 tk2 μ2 (S1.trans S2) p2
 |glob=>exact nV (W:=W) (A:=A) (X:=X0) (s:={s with heap:=h1,toks:=tk1}) p1.2 (ey hav p1.1) hl _ _ λv h2 tk2 μ2 S2 p2=>q v h2 tk2 μ2 (S1.trans S2) p2
theorem Ft{l:X}(h:Sd W P Φ k l):Sd W P Φ k (.rls l):=by
 refine Sd.val (R:=λρ st=>oL (ev P W.tb Φ l .L ρ st) λvs st1=>oO (nh vs) λl=>if l.length<aA then O (.ref st1.G.length,{st1 with G:=st1.G++[.rlist l]}) else U) (λm ρ st=>rfl) (λe kd nm m env whole=>xn e m λ_ _ _=>rfl) (λkd nm es=>rfl) ?_;intro ρ st r e A env kd nm s μ ex room hk F V m;refine xn ex m λes pos m=>kH e λvs st1 hev e=>aI e λl' hav e=>bH e λhl e=>aV r e λQ E q=> ?_
 exact Jc (Ko (Jc (h.L _ _ _ _ hev A env kd nm s μ es pos room hk F V m _ _ λus h1 tk1 μ1 S1 p1=>
  pp (W:=W) (A:=A) (X:=X0) (s:={s with heap:=h1,toks:=tk1}) p1.2 (m9 hav p1.1) hl _ _ λv h2 tk2 μ2 S2 p2=>q v h2 tk2 μ2 (S1.trans S2) p2)))
theorem ED(g:Bool)(kk:KD):Sd W P Φ k (.dct g kk):=by
 refine Sd.val (R:=λ_ st=>O (if g then(.ref st.G.length,{st with G:=st.G++[.con (.dict kk [])]}) else(.loc st.S.length,{st with S:=st.S++[.dict kk []]}))) (λm ρ st=>rfl) (λe kd nm m env whole=>xI e m λ_=>rfl) (λkd nm es=>rfl) ?_;intro ρ st r e A env kd nm s μ ex room hk F V m;refine xI ex m λpos=>aV r e λQ E q=> ?_
 rw[eval_Dict_empty];refine Jc (Ko ?_);induction g with
 |true=>exact nT (W:=W) (A:=A) (X:=X0) V kk _ _ q
 |false=>exact rF (W:=W) (A:=A) (X:=X0) V kk _ _ q
theorem Fx{a b:X}(o:D8)(ha:Sd W P Φ k a)(hb:Sd W P Φ k b):Sd W P Φ k (.bin o a b):=by
 refine Sd.val (R:=λρ st=>o1 (ev P W.tb Φ a .V ρ st) λx st1=>o1 (ev P W.tb Φ b .V ρ st1) λy st2=>(bd o st2 x y).map λv=>(v,st2)) (λm ρ st=>rfl) (λe kd nm m env whole=>yY e m λ_ _ _ _ _=>rfl) (λkd nm es=>rfl) ?_;intro ρ st r e A env kd nm s μ ex room hk F V m;exact yY ex m λl r' ps m1 m2=>aS e λx st1 e1 e=>aS e λy st2 e2 e=>dI r e λr hr Q E q=>
  wpAny_BinOp (BU ha hb e1 e2 room hk F V m1 m2 _ _ λv u h1 tk1 μ1 S1 r1 r2 V1=>
   Cm (W:=W) (A:=A) (X:=X0) (s:={s with heap:=h1,toks:=tk1}) hr V1 r1 r2 _ _ λv h2 tk2 μ2 S2 p2=>q v h2 tk2 μ2 (S1.trans S2) p2)
theorem Fd{a:X}(ha:Sd W P Φ k a):Sd W P Φ k (.neg a):=by
 refine Sd.val (R:=λρ st=>o1 (ev P W.tb Φ a .V ρ st) λx st1=>(zg x).map λi=>(.val (.int (-i)),st1)) (λm ρ st=>rfl) (λe kd nm m env whole=>yc e m λ_ _ _=>rfl) (λkd nm es=>rfl) ?_;intro ρ st r e A env kd nm s μ ex room hk F V m;refine yc ex m λx' ps m1=>aS e λx st1 e1 e=>dI r e λi hi Q E q=> ?_
 have hx:x= .val (.int i):=by unfold zg at hi;split at hi<;>first|(cases hi;rfl)|cases hi
 subst hx;exact Px (ha.V _ _ _ _ e1 A env kd nm s μ _ room hk F V m1 _ _ λv h1 tk1 μ1 S1 p1=>
  (td (W:=W) (A:=A) (X:=X0) (s:={s with heap:=h1,toks:=tk1}) p1.2 p1.1).made _ _ λv h2 tk2 μ2 S2 p2=>q v h2 tk2 μ2 (S1.trans S2) p2)
end
@[elab_as_elim] theorem nS{c:Bool}{st:St}(r:LV)(st':St){M:LV→St→Prop}(e:sj .V c st=O ([r],st'))(K:M (.val (.bool c)) st):M r st':=by cases e;exact K
@[elab_as_elim] theorem pb{c:Bool}{st:St}(b:Bool)(st':St){M:Bool→St→Prop}(e:sj .T c st=O ([.val (.bool b)],st'))(K:M c st):M b st':=by cases e;exact K
section
variable{W:Wd}{P:Pg}{Φ:ek}{k:Nat}
theorem Sd.one{x:X}(hV:∀ρ st r st',ev P W.tb Φ x .V ρ st=O ([r],st')→∀A env kd nm s μ e,cp A k→(∀y,env.kindOf y=kd y)→am W env nm ρ s.heap μ→au W s.heap μ st→mE P x kd nm e=Z→
   Tr W A (eval e env) X0 s μ (eh W r st'))
  (hT:∀ρ st b st',ev P W.tb Φ x .T ρ st=O ([.val (.bool b)],st')→∀A env kd nm s μ e,cp A k→(∀y,env.kindOf y=kd y)→am W env nm ρ s.heap μ→au W s.heap μ st→mE P x kd nm e=Z→
   Tr W A (isTrue e env (eval e env)) X0 s μ (wa W b st'))
  (hn:∀kd nm es,mL P x kd nm es=N):Sd W P Φ k x:=
 ⟨hV,hT,λρ st r st' e A env kd nm s μ es pos _ _ _ _ m=>absurd ((hn _ _ _).symm.trans m) Jd,λc ρ st r st' e A env kd nm s μ es pos _ _ _ _ m=>absurd ((hn _ _ _).symm.trans m) Jd,λc ρ st r st' e A env kd nm s μ es _ _ _ _ m=>absurd ((hn _ _ _).symm.trans m) Jd⟩
theorem HH{a:X}(ha:Sd W P Φ k a):Sd W P Φ k (.nt a):=by
 refine Sd.one (λρ st r st' e A env kd nm s μ ex room hk F V m=> ?_) (λρ st b st' e A env kd nm s μ ex room hk F V m=> ?_) (λkd nm es=>rfl)
 ·refine DT ex m λx' ps m=>aS (q:=ev P W.tb Φ a .V ρ st) e λx st1 e1 e=> ?_
  refine ak (Jr.mp e) λb hb e=> ?_
  cases e;exactλQ E q=>Px (ha.V _ _ _ _ e1 A env kd nm s μ _ room hk F V m _ _ λv h1 tk1 μ1 S1 p1=>not_value
   (k7 (W:=W) (A:=A) (X:=X0) (s:={s with heap:=h1,toks:=tk1}) p1.2 hb p1.1 _ _ λt h2 tk2 μ2 S2 p2=>by
    obtain⟨rfl,rfl,rfl⟩:=p2;exact q _ _ tk2 _ S1 ⟨rfl,p1.2⟩))
 ·refine DT ex m λx' ps m=>lJ (q:=ev P W.tb Φ a .T ρ st) e λt st1 e1 e=> ?_
  refine aw λMz kz585=> ?_
  cases e;refine kz585 ?_;exactλQ E q=>wpAny_isTrue_Not (ha.T _ _ _ _ e1 A env kd nm s μ _ room hk F V m _ _ λt h1 tk1 μ1 S1 p1=>q _ h1 tk1 μ1 S1 ⟨congrArg (!·) p1.1,p1.2⟩)
theorem Da{a b:X}{o:zD}(ha:Sd W P Φ k a)(hb:Sd W P Φ k b){ρ:Ρ}{st st1 st2:St}{x y:LV}{d:Bool}(e1:ev P W.tb Φ a .V ρ st=O ([x],st1))(e2:ev P W.tb Φ b .V ρ st1=O ([y],st2))(hc:af W.tb o st2 x y=O d)
  {A:Around} {env:Env} {kd:Str→Option Js} {nm:List Str} {s:Shared} {μ:Mp} {l r:Expr} (room:cp A k) (hk:∀y,env.kindOf y=kd y) (F:am W env nm ρ s.heap μ) (V:au W s.heap μ st) (m1:mE P a kd nm l=Z) (m2:mE P b kd nm r=Z)
  (Q:Value→Value→Bool→Shared→Prop) (E:Value→Shared→Prop) (q:∀u h' tk' μ',aH X0 s.heap μ h' μ'→ai h' μ' y u→au W h' μ' st2→Q u (.bool d) d {s with heap:=h',toks:=tk'}):
  wpAny (model W.prog W.w) A (eval l env) (λv s1=>wpAny (model W.prog W.w) A (eval r env) (λu s2=>wpAny (model W.prog W.w) A (Kg (dY o) v u) (λw s3=>wpAny (model W.prog W.w) A (truthy w) (λt s4=>Q u w t s4) E s3) E s2) E s1) E s:=
 BU ha hb e1 e2 room hk F V m1 m2 _ _ λv u h1 tk1 μ1 S1 r1 r2 V1=>
  nZ (W:=W) (A:=A) (X:=X0) (s:={s with heap:=h1,toks:=tk1}) room.cl hc V1 r1 r2 _ _ λw h2 tk2 μ2 S2 p2=>by
   obtain⟨rfl,V2⟩:=p2;exact KN (q _ h2 tk2 μ2 (S1.trans S2) (r2.step S2) V2)
theorem Eu{a b:X}(o:zD)(ha:Sd W P Φ k a)(hb:Sd W P Φ k b):Sd W P Φ k (.cmp o a b):=by
 refine Sd.one (λρ st r st' e A env kd nm s μ ex room hk F V m=> ?_) (λρ st b st' e A env kd nm s μ ex room hk F V m=> ?_) (λkd nm es=>rfl)
 ·exact wg ex m λl r' ps m1 m2 m3=>aS (q:=ev P W.tb Φ a .V ρ st) e λx st1 e1 e=>aS e λy st2 e2 e=>aI e λc hc e=>nS r st' e λQ E q=>
   Pq (BU ha hb e1 e2 room hk F V m1 m2 _ _ λv u h1 tk1 μ1 S1 r1 r2 V1=>
    (nZ (W:=W) (A:=A) (X:=X0) (s:={s with heap:=h1,toks:=tk1}) room.cl hc V1 r1 r2).postB _ _ λv h2 tk2 μ2 S2 p2=>q v h2 tk2 μ2 (S1.trans S2) p2) m3
 ·exact wg ex m λl r' ps m1 m2 m3=>aS (q:=ev P W.tb Φ a .V ρ st) e λx st1 e1 e=>aS e λy st2 e2 e=>aI e λc hc e=>pb b st' e λQ E q=>
   Nk (Da ha hb e1 e2 hc room hk F V m1 m2 (λ_ _ t s=>Q t s) E λu h tk μ S r V=>q _ h tk μ S ⟨rfl,V⟩) m3
theorem jP{n:Bool}{a:LV}{c:Bool}{W:Wd}{A:Around}{s:Shared}{μ:Mp}{st:St}{v:Value}(V:au W s.heap μ st)(r:ai s.heap μ a v)
  (h:FA n a=O c):
  Tr W A (Kg (if n then ON else P8) v .none) X0 s μ (mV W c st):=by
 induction a with
 |val x=>
  refine aV c h ?_;induction n with
  |true=>exact(lH r).2.sameB V
  |false=>exact(lH r).1.sameB V
 |ref i=>
  refine aV c h ?_;refine ak r λp _ oz786=> ?_
  subst oz786;induction n with
  |true=>exact Tr.sameB V (Tr.same (a:= .bool (!(QN p.1==Mx))) (λQ E q=>isNot_none (q s.toks)) rfl)
  |false=>exact Tr.sameB V (Tr.same (a:= .bool (QN p.1==Mx)) (λQ E q=>is_none (q s.toks)) rfl)
 |loc i=>exact ns h
 |tab i=>exact ns h
theorem Fv{a:X}(n:Bool)(ha:Sd W P Φ k a):Sd W P Φ k (.isN n a):=by
 refine Sd.one (λρ st r st' e A env kd nm s μ ex room hk F V m=> ?_) (λρ st b st' e A env kd nm s μ ex room hk F V m=> ?_) (λkd nm es=>rfl)
 ·exact wR ex m λl kk p1 ps m1=>aS (q:=ev P W.tb Φ a .V ρ st) e λx st1 e1 e=>aI e λc hc e=>nS r st' e λQ E q=>
   Pq (ha.V _ _ _ _ e1 A env kd nm s μ _ room hk F V m1 _ _ λv h1 tk1 μ1 S1 p1=>Mj
    ((jP (A:=A) (s:={s with heap:=h1,toks:=tk1}) p1.2 p1.1 hc).postB _ _ λv h2 tk2 μ2 S2 p2=>q v h2 tk2 μ2 (S1.trans S2) p2)) (by cases n<;>rfl)
 ·exact wR ex m λl kk p1 ps m1=>aS (q:=ev P W.tb Φ a .V ρ st) e λx st1 e1 e=>aI e λc hc e=>pb b st' e λQ E q=>
   Nk (ha.V _ _ _ _ e1 A env kd nm s μ _ room hk F V m1 _ _ λv h1 tk1 μ1 S1 p1=>Mj
    (jP (A:=A) (s:={s with heap:=h1,toks:=tk1}) p1.2 p1.1 hc _ _ λv h2 tk2 μ2 S2 p2=>by
     obtain⟨rfl,V2⟩:=p2;exact KN (q _ h2 tk2 μ2 (S1.trans S2) ⟨rfl,V2⟩))) (by cases n<;>rfl)
theorem ER{a b c:X}(p1 p2:zD)(ha:Sd W P Φ k a)(hb:Sd W P Φ k b)(hc:Sd W P Φ k c):Sd W P Φ k (.chn p1 p2 a b c):=by
 refine Sd.one (λρ st r st' e A env kd nm s μ ex room hk F V m=> ?_) (λρ st b' st' e A env kd nm s μ ex room hk F V m=> ?_) (λkd nm es=>rfl)
 ·refine xR ex m λl r1 r2 ps m1 m2 m3 m4=>aS (q:=ev P W.tb Φ a .V ρ st) e λx st1 e1 e=>aS e λy st2 e2 e=>aI e λd h1 e Q E q=>Compare_chain (Ks
   (Da ha hb e1 e2 h1 room hk F V m1 m2 (λu w t s4=>if t then wpAny (model W.prog W.w) A (compareChain ps u [dY p2] [eval r2 env]) Q E s4 else Q w s4) E λu h tk μ1 S1 ru V1=> ?_) (λ_ _ h=>chain_link h) λ_ _ x=>x) m4
  cases d with
  |false=>exact nS (M:=λr st'=>(∀a h' tk' μ',aH X0 s.heap μ h' μ'→eh W r st' a h' μ'→Q a {s with heap:=h',toks:=tk'})→Q (.bool N) {s with heap:=h,toks:=tk}) r st' e (λq=>q _ h tk μ1 S1 ⟨rfl,V1⟩) q
  |true=>exact aS (q:=ev P W.tb Φ c .V ρ st2) e λz st3 e3 e=>aI e λg hg e=>
    chain_last (hc.V _ _ _ _ e3 A env kd nm {s with heap:=h,toks:=tk} μ1 _ room hk (F.step S1) V1 m3 _ _ λu' h4 tk4 μ4 S4 p4=>
     nS (M:=λr st'=>(∀a h' tk' μ',aH X0 s.heap μ h' μ'→eh W r st' a h' μ'→Q a {s with heap:=h',toks:=tk'})→wpAny (model W.prog W.w) A (Kg (dY p2) u u') Q E {s with heap:=h4,toks:=tk4}) r st' e
      (λq=>(nZ (W:=W) (A:=A) (X:=X0) (s:={s with heap:=h4,toks:=tk4}) room.cl hg p4.2 (ru.step S4) p4.1).postB _ _ λw h5 tk5 μ5 S5 p5=>q w h5 tk5 μ5 ((S1.trans S4).trans S5) p5) q)
 ·refine xR ex m λl r1 r2 ps m1 m2 m3 m4=>aS (q:=ev P W.tb Φ a .V ρ st) e λx st1 e1 e=>aS e λy st2 e2 e=>aI e λd h1 e Q E q=>isTrue_chain (Ks
   (Da ha hb e1 e2 h1 room hk F V m1 m2 (λu w t s4=>if t then wpAny (model W.prog W.w) A (testChain ps u [dY p2] [eval r2 env]) Q E s4 else Q N s4) E λu h tk μ1 S1 ru V1=> ?_) (λ_ _ h=>test_link h) λ_ _ x=>x) m4
  cases d with
  |false=>exact pb (M:=λr st'=>(∀a h' tk' μ',aH X0 s.heap μ h' μ'→wa W r st' a h' μ'→Q a {s with heap:=h',toks:=tk'})→Q N {s with heap:=h,toks:=tk}) b' st' e (λq=>q _ h tk μ1 S1 ⟨rfl,V1⟩) q
  |true=>exact aS (q:=ev P W.tb Φ c .V ρ st2) e λz st3 e3 e=>aI e λg hg e=>
    test_last (hc.V _ _ _ _ e3 A env kd nm {s with heap:=h,toks:=tk} μ1 _ room hk (F.step S1) V1 m3 _ _ λu' h4 tk4 μ4 S4 p4=>
     pb (M:=λr st'=>(∀a h' tk' μ',aH X0 s.heap μ h' μ'→wa W r st' a h' μ'→Q a {s with heap:=h',toks:=tk'})→wpAny (model W.prog W.w) A (Kg (dY p2) u u') (λc s=>wpAny (model W.prog W.w) A (truthy c) Q E s) E {s with heap:=h4,toks:=tk4}) b' st' e
      (λq=>nZ (W:=W) (A:=A) (X:=X0) (s:={s with heap:=h4,toks:=tk4}) room.cl hg p4.2 (ru.step S4) p4.1 _ _ λw h5 tk5 μ5 S5 p5=>by
       obtain⟨rfl,V5⟩:=p5;exact KN (q _ h5 tk5 μ5 ((S1.trans S4).trans S5) ⟨rfl,V5⟩)) q)
theorem Ei{l:X}(b:Bool)(h:Sd W P Φ k l):Sd W P Φ k (.bop b l):=
 Sd.one (λρ st r st' e A env kd nm s μ ex room hk F V m=>xp ex m λes pos m1 m2=>h.B b ρ st r st' e A env kd nm s μ es pos room hk F V m1 m2)
  (λρ st r st' e A env kd nm s μ ex room hk F V m=>xp ex m λes pos m1 m2 Q E q=>wpAny_isTrue_BoolOp (h.C b ρ st r st' e A env kd nm s μ es room hk F V m1 Q E q)) (λkd nm es=>rfl)
theorem FG{c a b:X}(hc:Sd W P Φ k c)(ha:Sd W P Φ k a)(hb:Sd W P Φ k b):Sd W P Φ k (.ite c a b):=by
 refine Sd.one (λρ st r st' e A env kd nm s μ ex room hk F V m=> ?_) (λρ st r st' e A env kd nm s μ ex room hk F V m=> ?_) (λkd nm es=>rfl)
 ·refine wF ex m λt x y ps m1 m2 m3=>lJ (q:=ev P W.tb Φ c .T ρ st) e λt st1 e1 e Q E q=>wpAny_IfExp (hc.T _ _ _ _ e1 A env kd nm s μ _ room hk F V m1 _ _ λu h1 tk1 μ1 S1 p1=> ?_)
  obtain⟨rfl,V1⟩:=p1;cases u with
  |true=>exact ha.V _ _ _ _ e A env kd nm {s with heap:=h1,toks:=tk1} μ1 _ room hk (F.step S1) V1 m2 _ _ λv h2 tk2 μ2 S2 p2=>q v h2 tk2 μ2 (S1.trans S2) p2
  |false=>exact hb.V _ _ _ _ e A env kd nm {s with heap:=h1,toks:=tk1} μ1 _ room hk (F.step S1) V1 m3 _ _ λv h2 tk2 μ2 S2 p2=>q v h2 tk2 μ2 (S1.trans S2) p2
 ·refine wF ex m λt x y ps m1 m2 m3=>lJ (q:=ev P W.tb Φ c .T ρ st) e λt st1 e1 e Q E q=> ?_
  refine Jc (hc.T _ _ _ _ e1 A env kd nm s μ _ room hk F V m1 _ _ λu h1 tk1 μ1 S1 p1=> ?_);obtain⟨rfl,V1⟩:=p1;cases u with
  |true=>exact ha.T _ _ _ _ e A env kd nm {s with heap:=h1,toks:=tk1} μ1 _ room hk (F.step S1) V1 m2 _ _ λv h2 tk2 μ2 S2 p2=>q v h2 tk2 μ2 (S1.trans S2) p2
  |false=>exact hb.T _ _ _ _ e A env kd nm {s with heap:=h1,toks:=tk1} μ1 _ room hk (F.step S1) V1 m3 _ _ λv h2 tk2 μ2 S2 p2=>q v h2 tk2 μ2 (S1.trans S2) p2
end
section
set_option tactic.hygienic true
section
variable{W:Wd}{P:Pg}{Φ:ek}{k:Nat}
theorem Fh:Sd W P Φ k .nil:=
 ⟨λρ st r st' e=>ns e,λρ st r st' e=>ns e,
  λρ st r st' e A env kd nm s μ es pos room hk F V m=>bX (M:=λes=>Tr W A (spliced (Mg pos (Ku es env))) X0 s μ (HL W r st')) m (by
   cases e;exactλQ E q=>KB (q [] s.heap s.toks μ (aH.refl _ _ _) ⟨rfl,V⟩)),
  λc ρ st r st' e=>ns e,
  λc ρ st b st' e A env kd nm s μ es room hk F V m=>bX (M:=λes=>Tr W A (PT (if c then .And else .Or) es env) X0 s μ (wa W b st')) m (by
   cases e;intro Q E q;refine Jg (q _ s.heap s.toks μ (aH.refl _ _ _) ⟨?_,V⟩);cases c<;>rfl)⟩
theorem C7:Sd W P Φ k .hole:=
 ⟨λρ st r st' e=>ns e,λρ st r st' e=>ns e,λρ st r st' e=>ns e,λc ρ st r st' e=>ns e,λc ρ st r st' e=>ns e⟩
theorem sX{a b:X}{kd:Str→Option Js}{nm:List Str}(es:List Expr){M:List Expr→Prop}(m:mL P (.cons a b) kd nm es=Z)(K:∀e es,mE P a kd nm e=Z→mL P b kd nm es=Z→M (e::es)):M es:=by
 cases es with
 |nil=>exact(Jd m).elim
 |cons e es=>exact ae m (K e es)
theorem vy{b:X}(h:k8 b=Z):b= .nil:=by
 cases b<;>first|rfl|exact(Jd h).elim
theorem CF{b:X}{kd:Str→Option Js}{nm:List Str}(hb:k8 b=N)(es:List Expr){M:List Expr→Prop}(m:mL P b kd nm es=Z)(K:∀e es,mL P b kd nm (e::es)=Z→M (e::es)):M es:=by
 cases es with
 |nil=>cases b<;>first|exact(Jd hb.symm).elim|exact(Jd m).elim
 |cons e es=>exact K e es m
@[elab_as_elim] theorem Dg{a:LV}{st:St}(r:LV)(st':St){M:LV→St→Prop}(e:O ([a],st)=O ([r],st'))(K:M a st):M r st':=by cases e;exact K
@[elab_as_elim] theorem Aa{a:Bool}{st:St}(r:Bool)(st':St){M:Bool→St→Prop}(e:O ([LV.val (.bool a)],st)=O ([LV.val (.bool r)],st'))(K:M a st):M r st':=by cases e;exact K
theorem Db{a b:Bool}(h:(a==b)=N):a= !b:=by cases a<;>cases b<;>first|rfl|cases h
theorem xA{β:Type}{c:Bool}{x y:Option β}{r:β}{M:Prop}(h:(if c=Z then x else y)=O r)(K1:c=Z→x=O r→M)(K2:c=N→y=O r→M):M:=by
 cases c with
 |true=>exact K1 rfl h
 |false=>exact K2 rfl h
theorem DD{a b:X}(ha:Sd W P Φ k a)(hb:Sd W P Φ k b):Sd W P Φ k (.cons a b):=by
 refine⟨λρ st r st' e=>ns e,λρ st r st' e=>ns e,λρ st r st' e A env kd nm s μ es pos room hk F V m=> ?_,λc ρ st r st' e A env kd nm s μ es pos room hk F V m hne=> ?_,λc ρ st r st' e A env kd nm s μ es room hk F V m=> ?_⟩
 ·exact sX (M:=λes=>Tr W A (spliced (Mg pos (Ku es env))) X0 s μ (HL W r st')) es m λex es m1 m2=>aS (q:=ev P W.tb Φ a .V ρ st) e λv st1 e1 e=>kH e λvs st2 e2 e Q E q=>
   Kl (ha.V _ _ _ _ e1 A env kd nm s μ _ room hk F V m1 _ _ λu h1 tk1 μ1 S1 p1=>
    hb.L _ _ _ _ e2 A env kd nm {s with heap:=h1,toks:=tk1} μ1 es pos room hk (F.step S1) p1.2 m2 _ _ λus h2 tk2 μ2 S2 p2=>by
     cases e;exact q (u::us) h2 tk2 μ2 (S1.trans S2) ⟨⟨_,_,rfl,p1.1.step S2,p2.1⟩,p2.2⟩) (bE m1 _ _)
 ·refine sX (M:=λes=>Tr W A (Qq pos (if c then .And else .Or) (Pp es env)) X0 s μ (eh W r st')) es m λex es m1 m2=>xA (c:=k8 b) e (λhn e=> ?_) λhn e=> ?_
  ·refine bX (M:=λes=>Tr W A (Qq pos (if c then .And else .Or) (Pp (ex::es) env)) X0 s μ (eh W r st')) ?_ (ha.V _ _ _ _ e A env kd nm s μ _ room hk F V m1);rw[vy hn] at m2;exact m2
  ·refine CF (M:=λes=>Tr W A (Qq pos (if c then .And else .Or) (Pp (ex::es) env)) X0 s μ (eh W r st')) hn es m2 λe2 es' m2=>aS (q:=ev P W.tb Φ a .V ρ st) e λv st1 e1 e=>aI e λt ht e Q E q=> ?_
   refine Jc (ha.V _ _ _ _ e1 A env kd nm s μ _ room hk F V m1 _ _ λu h1 tk1 μ1 S1 p1=>Jc (Ko (Jc (KP ?_))));refine k7 (W:=W) (A:=A) (X:=X0) (s:={s with heap:=h1,toks:=tk1}) p1.2 ht p1.1 _ _ λd h2 tk2 μ2 S2 p2=> ?_
   obtain⟨rfl,rfl,rfl⟩:=p2;have S12:=S1.trans S2;refine xA (c:=d==c) e (λhd e'=> ?_) λhd e'=> ?_
   ·cases beq_iff_eq.mp hd;have rest:=hb.B c _ _ _ _ e' A env kd nm {s with heap:=h2,toks:=tk2} μ2 (e2::es') pos room hk (F.step S12) p1.2 m2 (OH _ _) Q E λw h3 tk3 μ3 S3 p3=>q w h3 tk3 μ3 (S12.trans S3) p3
    cases c<;>exact rest
   ·cases Db hd;have bv:Q u {s with heap:=h2,toks:=tk2}:=Dg (M:=λr st'=>(∀a h' tk' μ',aH X0 s.heap μ h' μ'→eh W r st' a h' μ'→Q a {s with heap:=h',toks:=tk'})→Q u {s with heap:=h2,toks:=tk2}) r st' e' (λq=>q u h2 tk2 μ2 S12 p1) q;cases c<;>exact Jg bv
 ·refine sX (M:=λes=>Tr W A (PT (if c then .And else .Or) es env) X0 s μ (wa W r st')) es m λex es m1 m2=>lJ (q:=ev P W.tb Φ a .T ρ st) e λt st1 e1 e Q E q=> ?_
  have BU:∀u h1 tk1 μ1,aH X0 s.heap μ h1 μ1→wa W t st1 u h1 μ1→((u==c)=Z→wpAny (model W.prog W.w) A (PT (if c then .And else .Or) es env) Q E {s with heap:=h1,toks:=tk1})∧((u==c)=N→Q u {s with heap:=h1,toks:=tk1}):=λu h1 tk1 μ1 S1 p1=>by
   refine aO p1 λoz33 V1=> ?_
   subst oz33;refine xA (c:=u==c) e (λhd e=>⟨λ_=> ?_,λz=>absurd (z.symm.trans hd) Jd⟩) λhd e=>⟨λz=>absurd (hd.symm.trans z) Jd,λ_=> ?_⟩
   ·exact hb.C c _ _ _ _ e A env kd nm {s with heap:=h1,toks:=tk1} μ1 es room hk (F.step S1) V1 m2 _ _ λw h3 tk3 μ3 S3 p3=>q w h3 tk3 μ3 (S1.trans S3) p3
   ·exact Aa (M:=λr st'=>(∀a h' tk' μ',aH X0 s.heap μ h' μ'→wa W r st' a h' μ'→Q a {s with heap:=h',toks:=tk'})→Q u {s with heap:=h1,toks:=tk1}) r st' e (λq=>q u h1 tk1 μ1 S1 ⟨rfl,V1⟩) q
  cases c with
  |true=>
   refine wpAny_allTrue_And_cons (ha.T _ _ _ _ e1 A env kd nm s μ _ room hk F V m1 _ _ λu h1 tk1 μ1 S1 p1=> ?_);have z:=BU u h1 tk1 μ1 S1 p1;cases u with
   |true=>exact z.1 rfl
   |false=>exact z.2 rfl
  |false=>
   refine wpAny_allTrue_Or_cons (ha.T _ _ _ _ e1 A env kd nm s μ _ room hk F V m1 _ _ λu h1 tk1 μ1 S1 p1=> ?_);have z:=BU u h1 tk1 μ1 S1 p1;cases u with
   |true=>exact z.2 rfl
   |false=>exact z.1 rfl
theorem F6(ok:Ok W P){o:X}(i:Nat)(ho:Sd W P Φ k o):Sd W P Φ k (.atr i o):=by
 refine Sd.val (R:=λρ st=>oR (ev P W.tb Φ o .V ρ st) λn st1=>oO st1.G[n]? λg=>jG g λc fs=>if di P.at_ c i then(kB fs i).map λg=>(sO g,st1) else U) (λm ρ st=>rfl) (λe kd nm m env whole=>wS e m λ_ _ _ _ _ _=>rfl) (λkd nm es=>rfl) ?_;intro ρ st r e A env kd nm s μ ex room hk F V m;refine wS ex m λv' x' ps m1 m2 m3=>zc e λn st1 e1 e=>aI e λg hG e=>ln e λc fs hg e=>bH e λhp e=>dI r e λg' hg' Q E q=> ?_
 subst hg;refine vl m2 (ho.V _ _ _ _ e1 A env kd nm s μ _ room hk F V m3 _ _ λv h1 tk1 μ1 S1 p1=> ?_);exact(ok.an _ _ m1)▸(Tr.samePost p1.2 (AE (W:=W) (A:=A) (X:=X0) (s:={s with heap:=h1,toks:=tk1}) ok.inj p1.2 hG p1.1 (ok.at_ _ _ hp) hg' Z) _ _ λv h2 tk2 μ2 S2 p2=>q v h2 tk2 μ2 (S1.trans S2) p2)
theorem xd{W:Wd}{s:Shared}{μ:Mp}{st:St}{a b r:LV}{v:Value}(e:aL W.tb st a b=O r)(I:au W s.heap μ st)(ra:ai s.heap μ a v):
  ∃T id,typeLookup (.type T) "__getitem__"=pure (O (.builtin id))∧s.TypeIs v T:=by
 delta aL at e;refine aw λMz kz619=> ?_
 split at e
 ·split at e
  ·rename_i c l h;refine dJ (bJ I h ra) λx o vs n oz856 ho hc hd hr=> ?_
   subst oz856;refine kz619 ?_;cases c with
   |true=>exact⟨"list",_,slot_list_getitem.lookup,⟨o,ho,hc⟩⟩
   |false=>exact⟨"tuple",_,Lj.lookup,⟨o,ho,hc⟩⟩
  ·split at e
   ·rename_i kk es h;refine cG (d9 I h ra) λx oz857 hr _=> ?_
    subst oz857;refine kz619 ?_;refine⟨"dict",_,slot_dict_getitem.lookup,?_⟩;cases kk with
    |int=>obtain⟨kvs,ep,hd,_⟩:=hr;exact hd.dictOf.typeIs
    |str=>obtain⟨kvs,ep,hd,_⟩:=hr;exact hd.dictOf.typeIs
    |tup=>obtain⟨xs,hd,_⟩:=hr;exact hd.typeIs
   ·split at e
    ·split at e
     ·rename_i h;refine ak ra λp hp oz858=> ?_
      subst oz858;obtain⟨_,vs,m,ho,_⟩:=I.og _ _ _ h hp;refine kz619 ?_;exact⟨"list",_,slot_list_getitem.lookup,⟨_,ho,rfl⟩⟩
     ·contradiction
    ·contradiction
 ·contradiction
theorem EH{o i:X}(ho:Sd W P Φ k o)(hi:Sd W P Φ k i):Sd W P Φ k (.sub o i):=by
 refine Sd.val (R:=λρ st=>o1 (ev P W.tb Φ o .V ρ st) λx st1=>o1 (ev P W.tb Φ i .V ρ st1) λy st2=>(aL W.tb st2 x y).map λv=>(v,st2)) (λm ρ st=>rfl) (λe kd nm m env whole=>ym e m λ_ _ _ _ _ _=>rfl) (λkd nm es=>rfl) ?_;intro ρ st r e A env kd nm s μ ex room hk F V m;exact ym ex m λv' s' ps m0 m1 m2=>aS e λx st1 e1 e=>aS e λy st2 e2 e=>dI r e λr hr Q E q=>zu m0 (BU ho hi e1 e2 room hk F V m1 m2 _ _ λv u h1 tk1 μ1 S1 r1 r2 V1=>by
  refine b9 (xd (s:={s with heap:=h1,toks:=tk1}) hr V1 r1) λT id hl hT=> ?_
  exact⟨T,id,hl,hT,CJ (W:=W) (A:=A) (X:=X0) (s:={s with heap:=h1,toks:=tk1}) room.cl hr V1 r1 r2 _ _ λv h2 tk2 μ2 S2 p2=>q v h2 tk2 μ2 (S1.trans S2) p2⟩)
theorem mY{W:Wd}{s:Shared}{μ:Mp}{st:St}{l u c:Value}(V:au W s.heap μ st):aH X0 s.heap μ (s.heap.push {cls:= .type "slice",data:= .fields #[l,u,c]}) μ∧au W (s.heap.push {cls:= .type "slice",data:= .fields #[l,u,c]}) μ st∧
  (s.heap.push {cls:= .type "slice",data:= .fields #[l,u,c]}).IsSliceOf s.heap.objs.size l u c:=by
 have kp:∀b ob,s.heap.get? b=O ob→(s.heap.push ({cls:= .type "slice",data:= .fields #[l,u,c]}:Obj)).get? b=O ob:=λb ob e=>Jn _ e
 exact⟨aH.more kp,V.more kp,⟨_,JG _ rfl,rfl,rfl⟩⟩
theorem yr{st:St}{x:LV}{l:List AV}(h:ao st x=O (N,l)):x= .val (.tup l):=by
 cases x with
 |val a=>cases a<;>simp only[ao] at h<;>cases h;rfl
 |loc n=>simp only[ao] at h;split at h<;>cases h
 |ref n=>simp only[ao] at h;split at h<;>cases h
 |tab n=>simp only[ao] at h;cases h
theorem Em{o i:X}(ho:Sd W P Φ k o)(hi:Sd W P Φ k i):Sd W P Φ k (.slT o i):=by
 refine Sd.val (R:=λρ st=>o1 (ev P W.tb Φ o .V ρ st) λx st1=>oI (ev P W.tb Φ i .V ρ st1) λk st2=>oO (ao st2 x) λp=>
   if p.1 then(if p.2.length<aA∧0≤k then O (.val (.lst (p.2.take (min k.toNat p.2.length))),st2) else U) else(if p.2.length<aA then O (.val (.tup (p.2.take (bT k p.2.length))),st2) else U)) (λm ρ st=>rfl) (λe kd nm m env whole=>wm e m λ_ _ _ _ _ _=>rfl) (λkd nm es=>rfl) ?_
 intro ρ st r e A env kd nm s μ ex room hk F V m;refine wm ex m λv' s' p1 ps m1 m2=>aS e λx st1 e1 e=>xG e λkk st2 e2 e=>aI e λp hl e Q E q=>lV ?_
 refine ho.V _ _ _ _ e1 A env kd nm s μ _ room hk F V m1 _ _ λv h1 tk1 μ1 S1 p1=>Qd (Jg ?_)
 refine hi.V _ _ _ _ e2 A env kd nm {s with heap:=h1,toks:=tk1} μ1 _ room hk (F.step S1) p1.2 m2 _ _ λu h2 tk2 μ2 S2 p2=>Jg ?_
 refine aO p2 λoz829 V2=> ?_
 refine aG oz829 λt oz837=> ?_
 subst oz837;refine cI (mY (s:={s with heap:=h2,toks:=tk2}) (l:= .none) (u:= .int kk t) (c:= .none) V2) λS3 V3 hsl=> ?_
 have r3:=(p1.1.step S2).step S3;obtain⟨b,l⟩:=p;refine dJ (bJ (s:={s with heap:=_,toks:=tk2}) V3 hl r3) λxa ob vs n oz830 hob hc hd hr=> ?_
 subst oz830;have S:=(S1.trans S2).trans S3;cases b with
 |true=>
  refine bH (c:=l.length<aA∧0≤kk) e λhb e=> ?_
  refine aG (MZ hb.2) λkn oz831=> ?_
  subst oz831;have z:=(iZ (W:=W) (A:=A) (X:=X0) (s:={s with heap:=_,toks:=tk2}) V3 hl r3 hsl hb.1).made;cases e;exact⟨"list",_,slot_list_getitem.lookup,⟨ob,hob,hc⟩,z _ _ λv h4 tk4 μ4 S4 p4=>q v h4 tk4 μ4 (S.trans S4) p4⟩
 |false=>
  refine bH (c:=l.length<aA) e λhb e'=> ?_
  cases yr hl;have z:=(kh (W:=W) (A:=A) (X:=X0) (s:={s with heap:=_,toks:=tk2}) V3 r3 hsl hb).made;cases e';exact⟨"tuple",_,Lj.lookup,⟨ob,hob,hc⟩,z _ _ λv h4 tk4 μ4 S4 p4=>q v h4 tk4 μ4 (S.trans S4) p4⟩
theorem E7{o i:X}(ho:Sd W P Φ k o)(hi:Sd W P Φ k i):Sd W P Φ k (.slF o i):=by
 refine Sd.val (R:=λρ st=>o1 (ev P W.tb Φ o .V ρ st) λx st1=>oI (ev P W.tb Φ i .V ρ st1) λk st2=>oO (ao st2 x) λp=>
  if p.1=N∧p.2.length<aA∧1≤k∧k.toNat≤p.2.length then O (.val (.tup (p.2.drop k.toNat)),st2) else U) (λm ρ st=>rfl) (λe kd nm m env whole=>wp e m λ_ _ _ _ _ _=>rfl) (λkd nm es=>rfl) ?_
 intro ρ st r e A env kd nm s μ ex room hk F V m;refine wp ex m λv' s' p1 ps m1 m2=>aS e λx st1 e1 e=>xG e λkk st2 e2 e=>aI e λp hl e=>bH e λhb e=>aV r e λQ E q=>lV ?_
 refine ho.V _ _ _ _ e1 A env kd nm s μ _ room hk F V m1 _ _ λv h1 tk1 μ1 S1 p1=>Qd ?_
 refine hi.V _ _ _ _ e2 A env kd nm {s with heap:=h1,toks:=tk1} μ1 _ room hk (F.step S1) p1.2 m2 _ _ λu h2 tk2 μ2 S2 p2=>Jg (Jg ?_)
 refine aw λMz kz622=> ?_
 refine aO p2 λoz862 V2=> ?_
 refine aG oz862 λt oz868=> ?_
 subst oz868;refine cI (mY (s:={s with heap:=h2,toks:=tk2}) (l:= .int kk t) (u:= .none) (c:= .none) V2) λS3 V3 hsl=> ?_
 have r3:=(p1.1.step S2).step S3;obtain⟨b,l⟩:=p;refine DX hb λoz863 hlim h1k hkl=> ?_
 subst oz863;obtain⟨kn,rfl⟩:=MZ (PP (by decide) h1k);refine dJ (bJ (s:={s with heap:=_,toks:=tk2}) V3 hl r3) λxa ob vs n oz864 hob hc hd hr=> ?_
 subst oz864;cases yr hl;refine kz622 ?_;exact⟨"tuple",_,Lj.lookup,⟨ob,hob,hc⟩,(iB (W:=W) (A:=A) (X:=X0) (s:={s with heap:=_,toks:=tk2}) V3 r3 hsl (Ol.mp h1k) hkl hlim).made _ _ λv h4 tk4 μ4 S4 p4=>q v h4 tk4 μ4 (((S1.trans S2).trans S3).trans S4) p4⟩
end
end
section
set_option tactic.hygienic true
section
variable{W:Wd}{P:Pg}{Φ:ek}{k:Nat}
theorem lT{W:Wd}{P:Pg}(ok:Ok W P){A:Around}{env:Env}{kd:Str→Option Js}{nm:List Str}{ρ:Ρ}{s:Shared}{μ:Mp}{st:St}{x:Str}{v:Value}{pos:Pos}(hk:∀y,env.kindOf y=kd y)(F:am W env nm ρ s.heap μ)(V:au W s.heap μ st)
  (hx:(x,v)∈cY) (g:nA kd x=Z) (Q:Value→Shared→Prop) (E:Value→Shared→Prop) (q:∀tk,Q v {s with toks:=tk}):wpAny (model W.prog W.w) A (eval (.Name x pos) env) Q E s:=by
 refine aO (oC hk g) λh1 h2=> ?_
 refine aO (ok.bl _ hx) λb1 b2=> ?_
 have hn:x≠"__name__":=by
  intro e;subst e
  revert hx
  simp only[cY,Jh,Prod.mk.injEq,JO,or_false];intro hx;rcases hx with⟨h,_⟩|⟨h,_⟩|⟨h,_⟩|⟨h,_⟩|⟨h,_⟩|⟨h,_⟩|⟨h,_⟩|⟨h,_⟩|⟨h,_⟩|⟨h,_⟩<;>exact absurd h (by decide+kernel)
 refine tf (W:=W) (A:=A) (X:=X0) (s:=s) (μ:=μ) V F.kind F.glo F.bui h1 b1 b2 hn h2 _ _ λu h' tk' μ' S p=> ?_
 obtain⟨rfl,rfl,rfl⟩:=p;exact q tk'
theorem CP(f:rL):(nN f,pI f)∈cY:=Jf (i:=f.ctorIdx) (by cases f<;>rfl)
theorem ui(f:rL)(h:Heap)(W:Wd):∃k,(k=Oj∨k=Nt∨k=MI)∧Looks (model W.prog W.w) h (Qb (pI f)) k:=du (by cases f<;>rfl) h
noncomputable def Av:rL→Bool
 | .isStr=>Z
 |_=>N
theorem Cw{f:rL}(h:Av f=N)(v:Value):yO f v=[v]:=by cases f<;>first|rfl|exact(Jd h.symm).elim
theorem Cn{a:X}{kd:Str→Option Js}{nm:List Str}{f:rL}(hf:Av f=Z)(es:List Expr){M:rL→List Expr→Prop}(m:CY P a kd nm f es=Z)(K:∀e np,mE P a kd nm e=Z→nA kd "str"=Z→M .isStr [e,.Name "str" np]):M f es:=by
 cases f<;>first|exact(Jd hf).elim|skip
 exact aj m λq h m=>jf (M:=λz=>M .isStr z) h (aj m λy h1 m=>bN (M:=λz=>M .isStr [q.1,z]) h1 (ae m λm1 m=>ae m λm2 m3=>cz (M:=λz=>nA kd z=Z→M .isStr [q.1,.Name z y.2]) m2 (λm3=>K _ _ m1 m3) m3))
theorem Dv{a:X}{kd:Str→Option Js}{nm:List Str}{f:rL}(hf:Av f=N)(es:List Expr){M:List Expr→Prop}(m:CY P a kd nm f es=Z)(K:∀e,mE P a kd nm e=Z→M [e]):M es:=by
 have m:on (o9 es) (λq=>mE P a kd nm q)=Z:=by cases f<;>first|exact m|exact(Jd hf.symm).elim
 exact aj m λq h m=>ef (M:=M) h (K _ m)
theorem FF(ok:Ok W P){a:X}(f:rL)(ha:Sd W P Φ k a):Sd W P Φ k (.fn1 f a):=by
 refine Sd.val (R:=λρ st=>o1 (ev P W.tb Φ a .V ρ st) λx st1=>(aF W.tb f st1 x).map λv=>(v,st1)) (λm ρ st=>rfl) (λe kd nm m env whole=>yu e m λ_ _ _ _ _=>rfl) (λkd nm es=>rfl) ?_;intro ρ st r e A env kd nm s μ ex room hk F V m;refine yu ex m λnp es ps hg m=>aS e λx st1 e1 e=>dI r e λv hr Q E q=>LY (lT ok hk F V (CP f) hg _ _ λtk=> ?_)
 cases hf:Av f with
 |true=>
  refine Cn (M:=λf es=>aF W.tb f st1 x=O v→wpAny (model W.prog W.w) A (Pl ps (pI f) [] (Mg ps (Ku es env)) []) Q E {s with toks:=tk}) hf es m (λe1' np2 m1 hg2 hr=> ?_) hr;exact bP (by rw[bE m1];rfl) (λ_=>True) (λh _=>ui .isStr h W) (Kl (ha.V _ _ _ _ e1 A env kd nm {s with toks:=tk} μ _ room hk F V m1 _ _ λv h1 tk1 μ1 S1 p1=>
   Kl (lT (v:= .type "str") ok hk (s:={s with heap:=h1,toks:=tk1}) (F.step S1) p1.2 (Jf (i:=8) rfl) hg2 _ _ λtk2=>KB ⟨trivial,
    xJ (W:=W) (A:=A) (X:=X0) (f:= .isStr) (s:={s with heap:=h1,toks:=tk2}) room.1 hr p1.2 p1.1 _ _ λv h2 tk3 μ2 S2 p2=>q v h2 tk3 μ2 (S1.trans S2) p2⟩)) (bE m1 _ _))
 |false=>
  refine Dv hf es (M:=λes=>wpAny (model W.prog W.w) A (Pl ps (pI f) [] (Mg ps (Ku es env)) []) Q E {s with toks:=tk}) m λe1' m1=> ?_
  refine bP (by rw[bE m1];rfl) (λ_=>True) (λh _=>ui f h W) (Kl (ha.V _ _ _ _ e1 A env kd nm {s with toks:=tk} μ _ room hk F V m1 _ _ λv h1 tk1 μ1 S1 p1=>KB ⟨trivial,?_⟩) (bE m1 _ _));have:=xJ (W:=W) (A:=A) (X:=X0) (f:=f) (s:={s with heap:=h1,toks:=tk1}) room.1 hr p1.2 p1.1;rw[Cw hf] at this;exact this _ _ λv h2 tk3 μ2 S2 p2=>q v h2 tk3 μ2 (S1.trans S2) p2
theorem eO{W:Wd}{A:Around}{s:Shared}{ov:Value}{T id:String}{name:Str}{pl:Sem Bool}(pa:PlainAttrs T)(slot:Slot T name id)(hty:typeOf (.builtin id)=pure (.type "method_descriptor"))
  (hT:s.TypeIs ov T) (hd:∀a,ov= .ref a→∃o,s.heap.get? a=O o∧o.dict=U) (Q:Value×List Value→Shared→Prop) (E:Value→Shared→Prop) (q:Q (.builtin id,[ov]) s):wpAny (model W.prog W.w) A (PE ov name pl) Q E s:=
 getMethod_builtin hT pa slot hty hd q
theorem tO{W:Wd}{s:Shared}{μ:Mp}{st:St}{lv:LV}{v:Value}{l:List AV}(I:au W s.heap μ st)(e:cC st lv=O (.list l))(r:ai s.heap μ lv v):
  s.TypeIs v "list"∧∀a,v= .ref a→∃o,s.heap.get? a=O o∧o.dict=U:=by
 refine pE (jd (X:=X0) I e r) λa oz879 oz880 _ _=> ?_
 subst oz879;refine b9 oz880 λvs n ho hr=> ?_
 exact⟨⟨_,ho,rfl⟩,λb q=>by cases q;exact⟨_,ho,rfl⟩⟩
theorem wA{W:Wd}{s:Shared}{μ:Mp}{st:St}{a:LV}{v:Value}(I:au W s.heap μ st)(e:lA st a=Z)(r:ai s.heap μ a v):
  s.TypeIs v "list"∧∀a,v= .ref a→∃o,s.heap.get? a=O o∧o.dict=U:=by
 delta lA at e;refine aw λMz kz638=> ?_
 split at e
 ·rename_i l h;refine kz638 ?_;exact tO I h r
 ·contradiction
 ·split at e
  ·split at e
   ·rename_i l h;refine ak r λp hp oz895=> ?_
    subst oz895;obtain⟨_,vs,m,ho,_⟩:=I.og _ _ _ h hp;refine kz638 ?_;exact⟨⟨_,ho,rfl⟩,λb q=>by cases q;exact⟨_,ho,rfl⟩⟩
   ·exact(Jd e).elim
  ·contradiction
theorem Aw{W:Wd}{s:Shared}{μ:Mp}{st:St}{lv:LV}{v:Value}{kk:KD}{es:List (AV×AV)}(I:au W s.heap μ st)(e:dictOf? W.tb st lv=O (kk,es))(r:ai s.heap μ lv v):
  s.TypeIs v "dict"∧∀a,v= .ref a→∃o,s.heap.get? a=O o∧o.dict=U:=by
 refine cG (d9 I e r) λa oz882 hr _=> ?_
 subst oz882;cases kk with
 |int=>obtain⟨kvs,ep,hd,_⟩:=hr;exact⟨hd.dictOf.typeIs,λb q=>by cases q;exact hd.dictOf.mapOf.noDict _ rfl⟩
 |str=>obtain⟨kvs,ep,hd,_⟩:=hr;exact⟨hd.dictOf.typeIs,λb q=>by cases q;exact hd.dictOf.mapOf.noDict _ rfl⟩
 |tup=>obtain⟨xs,hd,_⟩:=hr;exact⟨hd.typeIs,λb q=>by cases q;exact let⟨o,_,_,ho,hc,_⟩:=hd;⟨o,ho,hc.2.1⟩⟩
theorem Eg{o x:X}(ho:Sd W P Φ k o)(hx:Sd W P Φ k x):Sd W P Φ k (.app o x):=by
 refine Sd.val (R:=λρ st=>o1 (ev P W.tb Φ o .V ρ st) λy st1=>if lA st1 y then(o1 (ev P W.tb Φ x .V ρ st1) λz st2=>(iu st2 y z).map λs=>(.val .none,s)) else U) (λm ρ st=>rfl) (λe kd nm m env whole=>yZ e m λ_ _ _ _ _ _ _ _=>rfl) (λkd nm es=>rfl) ?_;intro ρ st r e A env kd nm s μ ex room hk F V m;refine yZ ex m λv' ap e1' ps m1 m2 m3 m4=>aS e λy st1 e1 e=>bH e λhl e=>aS e λz st2 e2 e=>dI r e λst3 hr Q E q=> ?_
 have ns:(Ku [e1'] env).any (·.1)=N:=by rw[bE m4];rfl
 refine cW m1 (beq_iff_eq.mpr m2) ns (show 1<30 by decide) (ho.V _ _ _ _ e1 A env kd nm s μ _ room hk F V m3 _ _ λv h1 tk1 μ1 S1 p1 pl=> ?_);refine aO (wA (s:={s with heap:=h1,toks:=tk1}) p1.2 hl p1.1) λhT hd=> ?_
 exact eO LH PySem.F.slot_list_append PySem.F.type_list_append hT hd _ _ (bP ns (λ_=>True) (λh _=>du rfl h)
  (Kl (hx.V _ _ _ _ e2 A env kd nm {s with heap:=h1,toks:=tk1} μ1 _ room hk (F.step S1) p1.2 m4 _ _ λu h2 tk2 μ2 S2 p2=>KB ⟨trivial,
   DP (W:=W) (A:=A) (X:=X0) (s:={s with heap:=h2,toks:=tk2}) hr p2.2 (p1.1.step S2) p2.1 _ _ λw h3 tk3 μ3 S3 p3=>q w h3 tk3 μ3 ((S1.trans S2).trans S3) p3⟩) (bE m4 _ _)))
theorem F8{o x:X}(ho:Sd W P Φ k o)(hx:Sd W P Φ k x):Sd W P Φ k (.ext o x):=by
 refine Sd.val (R:=λρ st=>o1 (ev P W.tb Φ o .V ρ st) λy st1=>if lA st1 y then(o1 (ev P W.tb Φ x .V ρ st1) λz st2=>(tL st2 y z).map λs=>(.val .none,s)) else U) (λm ρ st=>rfl) (λe kd nm m env whole=>yf e m λ_ _ _ _ _ _ _ _=>rfl) (λkd nm es=>rfl) ?_;intro ρ st r e A env kd nm s μ ex room hk F V m;refine yf ex m λv' ap e1' ps m1 m2 m3 m4=>aS e λy st1 e1 e=>bH e λhl e=>aS e λz st2 e2 e=>dI r e λst3 hr Q E q=> ?_
 have ns:(Ku [e1'] env).any (·.1)=N:=by rw[bE m4];rfl
 refine cW m1 (beq_iff_eq.mpr m2) ns (show 1<30 by decide) (ho.V _ _ _ _ e1 A env kd nm s μ _ room hk F V m3 _ _ λv h1 tk1 μ1 S1 p1 pl=> ?_);refine aO (wA (s:={s with heap:=h1,toks:=tk1}) p1.2 hl p1.1) λhT hd=> ?_
 exact eO LH MQ PySem.F.type_list_extend hT hd _ _ (bP ns (λ_=>True) (λh _=>du rfl h)
  (Kl (hx.V _ _ _ _ e2 A env kd nm {s with heap:=h1,toks:=tk1} μ1 _ room hk (F.step S1) p1.2 m4 _ _ λu h2 tk2 μ2 S2 p2=>KB ⟨trivial,
   Dq (W:=W) (A:=A) (X:=X0) (s:={s with heap:=h2,toks:=tk2}) hr p2.2 (p1.1.step S2) p2.1 _ _ λw h3 tk3 μ3 S3 p3=>q w h3 tk3 μ3 ((S1.trans S2).trans S3) p3⟩) (bE m4 _ _)))
theorem Bq{st1:St}{y:LV}{r:AV×St}(h:mO st1 y=O r):∃l,cC st1 y=O (.list l):=by
 delta mO at h;refine aw λMz kz631=> ?_
 split at h
 ·rename_i q;refine kz631 ?_;exact⟨_,q⟩
 ·contradiction
theorem EA{o:X}(ho:Sd W P Φ k o):Sd W P Φ k (.pop o):=by
 refine Sd.val (R:=λρ st=>o1 (ev P W.tb Φ o .V ρ st) λx st1=>(mO st1 x).map λp=>(.val p.1,p.2)) (λm ρ st=>rfl) (λe kd nm m env whole=>xX e m λ_ _ _ _ _ _=>rfl) (λkd nm es=>rfl) ?_;intro ρ st r e A env kd nm s μ ex room hk F V m;refine xX ex m λv' ap ps m1 m2 m3=>aS e λy st1 e1 e=>dI r e λp hr Q E q=>cW m1 (beq_iff_eq.mpr m2) rfl (by decide) (ho.V _ _ _ _ e1 A env kd nm s μ _ room hk F V m3 _ _ λv h1 tk1 μ1 S1 p1 pl=> ?_)
 refine aG (Bq hr) λl hl=> ?_
 refine aO (tO (s:={s with heap:=h1,toks:=tk1}) p1.2 hl p1.1) λhT hd=> ?_
 exact eO LH Nj PySem.F.type_list_pop hT hd _ _ (bP rfl (λ_=>True) (λh _=>du rfl h) (KB ⟨trivial,
  DQ (W:=W) (A:=A) (X:=X0) (s:={s with heap:=h1,toks:=tk1}) hr p1.2 p1.1 _ _ λw h3 tk3 μ3 S3 p3=>q w h3 tk3 μ3 (S1.trans S3) p3⟩))
theorem DV{o x d:X}(ho:Sd W P Φ k o)(hx:Sd W P Φ k x)(hd:Sd W P Φ k d):Sd W P Φ k (.getD o x d):=by
 refine Sd.val (R:=λρ st=>o1 (ev P W.tb Φ o .V ρ st) λa st1=>oO (dictOf? W.tb st1 a) λ_=>oV (ev P W.tb Φ x .V ρ st1) λy st2=>oV (ev P W.tb Φ d .V ρ st2) λz st3=>oO (dictOf? W.tb st3 a) λp=>if aU p.1 y then O (.val ((aE p.2 y).getD z),st3) else U)
  (λm ρ st=>rfl) (λe kd nm m env whole=>rQ e m λ_ _ _ _ _ _ _ _ _ _=>rfl) (λkd nm es=>rfl) ?_
 intro ρ st r e A env kd nm s μ ex room hk F V m;refine rQ ex m λv' ap e1' e2' ps m1 m2 m3 m4 m5=>aS e λa st1 e1 e=>aI e λp0 hl e=>iR e λy st2 e2 e=>iR e λz st3 e3 e=>aI e λp hdd e=>bH e λhkey e=>aV r e λQ E q=> ?_
 have ns:(Ku [e1',e2'] env).any (·.1)=N:=by rw[bE m4,bE m5];rfl
 refine cW m1 (beq_iff_eq.mpr m2) ns (show 2<30 by decide) (ho.V _ _ _ _ e1 A env kd nm s μ _ room hk F V m3 _ _ λv h1 tk1 μ1 S1 p1 pl=> ?_);obtain⟨kk,es⟩:=p0;refine aO (Aw (s:={s with heap:=h1,toks:=tk1}) p1.2 hl p1.1) λhT hdn=> ?_
 exact eO PySem.F.plainAttrs_dict La PySem.F.type_dict_get hT hdn _ _ (bP ns (λ_=>True) (λh _=>du rfl h)
  (Kl (hx.V _ _ _ _ e2 A env kd nm {s with heap:=h1,toks:=tk1} μ1 _ room hk (F.step S1) p1.2 m4 _ _ λu h2 tk2 μ2 S2 p2=>
   Kl (hd.V _ _ _ _ e3 A env kd nm {s with heap:=h2,toks:=tk2} μ2 _ room hk ((F.step S1).step S2) p2.2 m5 _ _ λw h3 tk3 μ3 S3 p3=>KB ⟨trivial,
    (qW (W:=W) (A:=A) (X:=X0) (s:={s with heap:=h3,toks:=tk3}) p3.2 hdd ((p1.1.step S2).step S3) hkey (ay.step S3 p2.1) p3.1 (JA (J8 (by decide) _) room.cl)).made _ _ λw h4 tk4 μ4 S4 p4=>q w h4 tk4 μ4 (((S1.trans S2).trans S3).trans S4) p4⟩) (bE m5 _ _)) (bE m4 _ _)))
end
end
theorem ce{h:Heap}{a:Addr}{o:Obj}(e:h.get? a=U)(q:h.get? a=O o):False:=nomatch e.symm.trans q
theorem t8{h:Heap}{a:Addr}(k:∀o,h.get? a≠O o):h.get? a=U:=by
 cases w:h.get? a with
 |none=>rfl
 |some o=>exact absurd w (k o)
section
variable{W:Wd}
theorem rX{h hh:Heap}{μ:Mp}{st:St}{I:Addr}(V:au W h μ st)(hI:h.get? I=U)(ob:∃o,hh.get? I=O o∧∀vs n,o.data≠.seq vs n):mf W I hh μ:=
 ⟨ob,λmm=>(V.fresh _ mm).2.elim λ_ e=>ce hI e,t8 λ_ w=>ce hI (V.base _ _ w)⟩
theorem wz{X:Addr→Prop}{h h':Heap}{μ μ':Mp}{a:Addr}(S:aH X h μ h' μ')(e:h'.get? a=U):h.get? a=U:=t8 λ_ w=>(S.alive _ _ w).elim λ_ w'=>ce e w'
end
section
variable{W:Wd}{P:Pg}{Φ:ek}{k:Nat}
theorem Er(ok:Ok W P)(good:yL W P k Φ){as:X}(f:Nat)(ha:Sd W P Φ k as):Sd W P Φ k (.cal f as):=by
 refine Sd.val (R:=λρ st=>oL (ev P W.tb Φ as .L ρ st) λvs st1=>Φ f vs st1) (λm ρ st=>rfl) (λe kd nm m env whole=>wf e m λ_ _ _ _ _ _ _ _=>rfl) (λkd nm es=>rfl) ?_;intro ρ st r e A env kd nm s μ ex room hk F V m;refine wf ex m λfd np es ps hfd mg m2 m3=>kH e λvs st1 e1 e Q E q=> ?_
 refine aO (oC hk m2) λg1 g2=> ?_
 refine LY (jh (W:=W) (A:=A) (X:=X0) (s:=s) V F.kind F.glo g1 (ok.fg _ _ hfd mg) g2 _ _ λu h0 tk0 μ0 S0 p0=> ?_);obtain⟨rfl,rfl,rfl⟩:=p0;exact bP (pS m3) (λh=>W.K.In h) (λh X=>QD (ok.kp _ _ hfd) h X) (ha.L _ _ _ _ e1 A env kd nm {s with toks:=tk0} μ0 es _ room hk F V m3 _ _ λus h1 tk1 μ1 S1 p1=>⟨W.XB.keeps p1.2.base,
  (good f fd _ _ _ _ hfd e A {s with heap:=h1,toks:=tk1} μ1 us room.room p1.2 p1.1).tr (X:=X0) _ _ λv h2 tk2 μ2 S2 p2=>q v h2 tk2 μ2 (S1.trans S2) p2⟩)
theorem Ef(ok:Ok W P)(good:yL W P k Φ){o as:X}(i:Nat)(ho:Sd W P Φ k o)(ha:Sd W P Φ k as):Sd W P Φ k (.mth i o as):=by
 refine Sd.val (R:=λρ st=>oR (ev P W.tb Φ o .V ρ st) λn st1=>oO st1.G[n]? λg=>jG g λc fs=>oO (kE P.mt c i) λf=>if kB fs i=U then oL (ev P W.tb Φ as .L ρ st1) λvs st2=>Φ f (.ref n::vs) st2 else U)
  (λm ρ st=>rfl) (λe kd nm m env whole=>yp e m λ_ _ _ _ _ _ _ _ _ _ _=>rfl) (λkd nm es=>rfl) ?_
 intro ρ st r e A env kd nm s μ ex room hk F V m;refine yp ex m λv' x' ap es ps m1 m2 m3 m4 m5 m6=>zc e λn st1 e1 e=>aI e λg hG e=>ln e λc fs hg e=>aI e λf hf e=>bH e λhn e=>kH e λvs st2 e2 e Q E q=> ?_
 rw[hg] at hG;refine ak (ok.mt _ _ _ hf) λfd hfd mo=> ?_
 refine cW m2 (beq_iff_eq.mpr m3) (pS m6) m4 (ho.V _ _ _ _ e1 A env kd nm s μ _ room hk F V m5 _ _ λv h1 tk1 μ1 S1 p1 pl=> ?_);rw[←ok.an _ _ m1];exact uP (W:=W) (A:=A) (s:={s with heap:=h1,toks:=tk1}) ok.inj p1.2 hG p1.1 mo hn pl _ _ (bP (pS m6) (λh=>W.K.In h) (λh X=>QD (ok.kp _ _ hfd) h X)
  (ha.L _ _ _ _ e2 A env kd nm {s with heap:=h1,toks:=tk1} μ1 _ _ room hk (F.step S1) p1.2 m6 _ _ λus h2 tk2 μ2 S2 p2=>⟨W.XB.keeps p2.2.base,
   (good f fd _ _ _ _ hfd e A {s with heap:=h2,toks:=tk2} μ2 (v::us) room.room p2.2 ⟨_,_,rfl,p1.1.step S2,p2.1⟩).tr (X:=X0) _ _ λw h3 tk3 μ3 S3 p3=>q w h3 tk3 μ3 ((S1.trans S2).trans S3) p3⟩))
theorem Fl(ok:Ok W P)(good:yL W P k Φ){as:X}(c:Nat)(ha:Sd W P Φ k as):Sd W P Φ k (.new c as):=by
 refine Sd.val (R:=λρ st=>oL (ev P W.tb Φ as .L ρ st) λvs st1=>oO (gm P.nw c) λf=>oO (Φ f (.ref st1.G.length::vs) {st1 with G:=st1.G++[.inst c []]}) λr=>xQ r.1 (O (.ref st1.G.length,r.2)))
  (λm ρ st=>rfl) (λe kd nm m env whole=>wO e m λ_ _ _ _ _ _ _=>rfl) (λkd nm es=>rfl) ?_
 intro ρ st r e A env kd nm s μ ex room hk F V m;refine wO ex m λx' np es ps m1 m2 m3=>kH e λvs st1 e1 e=>aI e λf hf e=>aI e λp e2 e=>ze e λhp e=>aV r e λQ E q=> ?_
 obtain⟨p1,st2⟩:=p;subst hp;obtain⟨cn,ck⟩:=ok.cn _ _ m1;refine ak (ok.nw _ _ hf) λfd hfd no=> ?_
 refine aO (oC hk m2) λg1 g2=> ?_
 refine LY (jh (W:=W) (A:=A) (X:=X0) (s:=s) V F.kind F.glo g1 cn g2 _ _ λu h0 tk0 μ0 S0 p0=> ?_);obtain⟨rfl,rfl,rfl⟩:=p0;exact bP (pS m3) (λh=>W.K.In h) (λh X=>QD ck h X) (ha.L _ _ _ _ e1 A env kd nm {s with toks:=tk0} μ0 es _ room hk F V m3 _ _ λus h1 tk1 μ1 S1 p1=>⟨W.XB.keeps p1.2.base,
  (Cl (W:=W) (A:=A) (s:={s with heap:=h1,toks:=tk1}) (μ:=μ1) no p1.2 p1.1 λs1 μ2 vs1 V2 r2=>good f fd _ _ _ _ hfd e2 _ s1 μ2 vs1 (room.making _ _) V2 r2).tr (X:=X0) _ _ λv h2 tk2 μ2 S2 p2=>q v h2 tk2 μ2 (S1.trans S2) p2⟩)
theorem u0{kd:Str→Option Js}{nm:List Str}{i:Nat}{x:Str}(h:bg kd nm i x=Z):nm[i]? =O x∧(kd x=O .local∨kd x=O .cell):=
 ae h λh1 h2=>⟨beq_iff_eq.mp h1,(JL _ _▸h2).imp beq_iff_eq.mp beq_iff_eq.mp⟩
theorem uY{A:Around}{env:Env}{s:Shared}{μ:Mp}{st:St}(V:au W s.heap μ st):Tr W A (hU [] env) X0 s μ (wa W Z st):=
 λQ E q=>wpAny_tests_nil (q Z s.heap s.toks μ (aH.refl _ _ _) ⟨rfl,V⟩)
theorem Ax{A:Around}{cenv:Env}{nm:List Str}{tg:Nat}{y:Str}{px:Pos}(hn:nm[tg]? =O y)(hl:cenv.kindOf y=O .local):∀x ρ ρ1,bn tg x ρ=O ρ1→∀(s:Shared) (μ:Mp) (st:St) (u:Value),au W s.heap μ st→am W cenv nm ρ s.heap μ→ay s.heap μ x u→
  Tr W A (assign (.Name y px) cenv u) (λa=>a=cenv.locals) s μ (λ_ h' μ'=>μ'=μ∧au W h' μ st∧am W cenv nm ρ1 h' μ):=by
 intro x ρ ρ1 e s μ st u V F r;exact bH e λhlt e=>aV ρ1 e λQ E q=>
  Le (qr (W:=W) (A:=A) (X:=λa=>a=cenv.locals) (s:=s) V F hn hlt (.inl hl) (lv:= .val x) r rfl (λc hc=>by rw[hl] at hc;cases hc) Q E q)
noncomputable def B5(P:Pg)(tb:Nat→Option (KD×List (AV×AV)))(Φ:ek)(loc:Bool)(tg:Nat)(bs:List Bool)(e it cond:X)(ρ:Ρ)(st:St):Option (LV×St):=
 o1 (ev P tb Φ it .V ρ st) λx st1=>oO (ao st1 x) λp=>oO (ch (bn tg) (λρ s=>oB (ev P tb Φ cond .T ρ s) λt s1=>O (t,s1)) (λρ s=>oV (ev P tb Φ e .V ρ s) λa s1=>O (a,s1))
   (aP x p.1 p.2) st1.S.length p.2 (bD bs ρ) {st1 with S:=st1.S++[.list []]}) λst2=>
  if loc then O (.loc st1.S.length,cR (st1.S.length+1) st2) else oO st2.S[st1.S.length]? λc=>sJ c λr=>O (.val (.lst r),cR st1.S.length st2)
theorem y9{cond:X}(hc:Sd W P Φ k cond){A:Around}{cenv:Env}{kd:Str→Option Js}{nm:List Str}{ρ:Ρ}{sta stb:St}{c:Bool}{s:Shared}{μ:Mp}(ifs:List Expr)(ht:(oB (ev P W.tb Φ cond .T ρ sta) λt s1=>O (t,s1))=O (c,stb))
  (room:cp A k) (hk:∀y,cenv.kindOf y=kd y) (F:am W cenv nm ρ s.heap μ) (V:au W s.heap μ sta) (m:zv P cond kd nm ifs=Z):Tr W A (hU ifs cenv) X0 s μ (wa W c stb):=by
 refine lJ ht λt s1 het ht=> ?_
 cases ht;induction ifs with
 |nil=>
  cases AF m;cases het;exact uY V
 |cons t r=>
  exact ae m λm1 m2=>bX (M:=λr=>Tr W A (hU (t::r) cenv) X0 s μ (wa W c stb)) m1 λQ E q=>wpAny_tests_one (hc.T _ _ _ _ het A cenv kd nm s μ _ room hk F V m2 Q E q)
theorem vr{xv:LV}{b:Bool}{l:List AV}{st1:St}(hl:ao st1 xv=O (b,l))(hlv:∀i,xv= .loc i→i<st1.S.length):aP xv b l {st1 with S:=st1.S++[.list []]}=Z:=by
 refine lW ?_;induction xv with
 |val a=>cases a<;>exact hl
 |ref n=>exact hl
 |tab n=>cases hl
 |loc n=>
  have:=hlv n rfl;simp only[ao] at hl ⊢;rw[Jz this];exact hl
theorem pM{loc:Bool}{tg:Nat}{bs:List Bool}{x it cond:X}(hx:Sd W P Φ k x)(hit:Sd W P Φ k it)(hc:Sd W P Φ k cond){ρ:Ρ}{st:St}{r:LV×St}(e:B5 P W.tb Φ loc tg bs x it cond ρ st=O r)
  {A:Around} {env:Env} {kd:Str→Option Js} {nm:List Str} {s:Shared} {μ:Mp} {el iter:Expr} {y:Str} {py pos ps:Pos} {ifs:List Expr} {sc:Scope} (room:cp A k) (hk:∀y,env.kindOf y=kd y) (F:am W env nm ρ s.heap μ) (V:au W s.heap μ st)
  (m1:nm[tg]? =O y) (m2:sc.names.lookup y=O .local) (m3:lr kd sc=Z) (m4:iJ kd sc.names bs nm=Z) (m5:mE P it kd nm iter=Z) (m6:mE P x (cr kd sc.names) nm el=Z)
  (m7:zv P cond (cr kd sc.names) nm ifs=Z)
  (use:Option (Value→Sem Unit)) (Q:Value→Shared→Prop) (E:Value→Shared→Prop)
  (q:∀D C h' tk' μ',aH X0 s.heap μ h' μ'→s.heap.get? C=U→au W h' μ' r.2→(∃m,h'.Ns C m)→mf W C h' μ'→ai h' μ' r.1 (.ref D)→compPost (model W.prog W.w) A E use Q (.ref D) C (.ok .next) {s with heap:=h',toks:=tk'}):
  wpAny (model W.prog W.w) A (comprehension (.ListComp el [⟨.Name y py,iter,ifs,0⟩] sc pos) sc env ps (Oa []) N (eval iter env) use) Q E s:=by
 have SC:=vn m3;have hns:=vC (pT m5);refine aS e λxv st1 e1 e=>aI e λp hl e=>aI e λst2 hcl e9=> ?_
 obtain⟨b,l⟩:=p;refine wpAny_comprehension_free rfl (λv=>by cases iter<;>first|rfl|exact(Jd hns).elim) (l4 λz hz=>F.cok z ((hk z).trans (SC.free z hz))) SC.kind SC.names ?_;refine hit.V _ _ _ _ e1 A env kd nm s μ _ room hk F V m5 _ _ λv h1 tk1 μ1 S1 p1=>qw (W:=W) (s:={s with heap:=h1,toks:=tk1}) p1.2 hl p1.1 _ _ λa o hv hof hit0=> ?_
 subst hv;have kp:∀c ob,h1.get? c=O ob→(h1.push o).get? c=O ob:=λc ob e=>Jn _ e
 have SK:aH X0 h1 μ1 (h1.push o) μ1:=aH.more kp;have F1:=F.step S1;have wk:=wN (W:=W) (A:=A) room.1 hl (a:=a) h1.objs.size;have hIc:∀z,env.cells.lookup z≠O h1.objs.size:=λz w=>by
  obtain⟨_,_,u,o',ho',_⟩:=F1.cel z _ w;exact ce (bj _) ho'
 have hlv:∀i,xv= .loc i→i<st1.S.length:=λi w=>by
  subst w;refine ak p1.1 λc hc' _=> ?_
  have h1:=(Ji.mp hc').1;have h2:=p1.2.ls
  lia
 refine uT (W:=W) (A:=A) (s:={s with heap:=h1.push o,toks:=tk1}) (μ:=μ1) (st:=st1) (lv:=xv) (v:= .ref a) (l:=l) (env:=env) (nm:=nm) (kd:=kd) (I:=h1.objs.size) (It:=qg b h1.objs.size a) (ok:=aP xv b l)
  (h0:=h1) (bs:=bs) (E:=E) (ρ:=ρ) (stf:=st2) hk SC m4 wk hlv SK (bj _) (rX p1.2 (bj _) (wk.fld _ _ hit0)) hIc
  (λcenv hkc=>Ax m1 (by rw[hkc];delta cr;rw[m2]))
  (λcenv hkc ρ' sta c stb ht s' μ' V' F'=>y9 hc ifs ht room hkc F' V' m7)
  (λcenv hkc ρ' sta aa stb ht s' μ' V' F'=>iR ht λa' s1 het ht=>by
   cases ht;exact hx.V _ _ _ _ het A cenv (cr kd sc.names) nm s' μ' _ room hkc F' V' m6) (p1.2.more kp) (F1.step SK) (p1.1.step SK) hit0 (vr hl hlv) hcl (λ_=>rfl) (λacc C=>compPost (model W.prog W.w) A E use Q acc C) ?_
 intro D C h' tk' μ' S' hC V' hn hOC hD;have S3:aH X0 s.heap μ h' μ':=S1.trans S';have hC0:s.heap.get? C=U:=wz S1 hC;have hle:μ.s.length≤μ.off+st1.S.length:=by
  refine aG S1.s λz hz=> ?_
  have h2:=p1.2.ls;rw[hz,Jk,S1.off] at h2
  lia
 have O':∀{n},mf W C h' ⟨μ'.g,μ'.s.take (μ'.off+n),μ'.off⟩:=λ{n}=>⟨hOC.obj,λmm=>hOC.mem (Mp.cut_mem mm),hOC.base⟩
 refine xA e9 (λ_ e=> ?_) λ_ e=>aI e λc hr e=>Ar e λrr hrr e=> ?_
 ·cases e;refine q D C h' tk' _ (S3.cut (MJ hle)) hC0 (V'.cut _) hn O' ⟨D,?_,rfl⟩;rw[KQ (KC (KZ _) _)];exact hD
 ·cases e;subst hrr;refine b9 (V'.os _ _ _ hr hD) λvs n ho hrr=> ?_
  exact q D C h' tk' _ (S3.cut hle) hC0 (V'.cut _) hn O'
   ⟨D,_,vs,n,rfl,qx V'.nd hD (JC _),ho,rfl,rfl,hrr.to λ_ _ _ _ e _ m=>⟨e,λq=>m (Mp.cut_mem q)⟩⟩
end
section
variable{W:Wd}{P:Pg}{Φ:ek}{k:Nat}
theorem DR{loc:Bool}{tg:Nat}{bs:List Bool}{x it cond:X}(hx:Sd W P Φ k x)(hit:Sd W P Φ k it)(hc:Sd W P Φ k cond):Sd W P Φ k (.comp loc tg bs x it cond):=by
 refine Sd.val (R:=B5 P W.tb Φ loc tg bs x it cond) (λm ρ st=>rfl) (λe kd nm m env whole=>k5 e m λ_ _ _ _ _ _ _ _ _ _ _ _ _ _=>rfl) (λkd nm es=>rfl) ?_;intro ρ st r e A env kd nm s μ ex room hk F V m;refine k5 ex m λel y py iter ifs sc ps m1 m2 m3 m4 m5 m6 m7 Q E q=> ?_
 exact pM hx hit hc e room hk F V m1 m2 m3 m4 m5 m6 m7 U Q E λD C h' tk' μ' S hC V' hn hO r=>⟨_,hn.choose_spec,λh'' hs=>q _ h'' tk' μ' (S.ext hC hs.extBut) ⟨r.ext hO hs.extBut,V'.ext hO hs.extBut⟩⟩
theorem BG(ok:Ok W P)(good:yL W P k Φ)(x:X):Sd W P Φ k x:=by
 induction x with
 |nil=>exact Fh
 |cons a b ha hb=>exact DD ha hb
 |cst a=>exact Fu a
 |var i=>exact F0 i
 |glb i=>exact Ev ok i
 |tup l h=>exact Gh h
 |lst d l h=>exact FV d h
 |rls l h=>exact Ft h
 |dct g kk=>exact ED g kk
 |bin o a b ha hb=>exact Fx o ha hb
 |neg a ha=>exact Fd ha
 |nt a ha=>exact HH ha
 |cmp o a b ha hb=>exact Eu o ha hb
 |isN n a ha=>exact Fv n ha
 |chn o1 o2 a b c ha hb hc=>exact ER o1 o2 ha hb hc
 |bop b l h=>exact Ei b h
 |ite c a b hc ha hb=>exact FG hc ha hb
 |atr i o h=>exact F6 ok i h
 |sub o i ho hi=>exact EH ho hi
 |slT o i ho hi=>exact Em ho hi
 |slF o i ho hi=>exact E7 ho hi
 |fn1 f a ha=>exact FF ok f ha
 |getD o x d ho hx hd=>exact DV ho hx hd
 |app o x ho hx=>exact Eg ho hx
 |ext o x ho hx=>exact F8 ho hx
 |pop o ho=>exact EA ho
 |cal f as h=>exact Er ok good f h
 |mth i o as ho h=>exact Ef ok good i ho h
 |new c as h=>exact Fl ok good c h
 |comp loc tg bs x it cond hx hit hc=>exact DR hx hit hc
 |hole=>exact C7
section
variable{kd:Str→Option Js}{nm:List Str}(t:Stmt){M:Stmt→Prop}
theorem nC{t:Stmt}{p:List Expr×Expr}{z:Expr}(h:pj t=O p)(h1:o9 p.1=O z)(K:∀ps,M (.Assign [z] p.2 ps)):M t:=By h λps=>ef (M:=λl=>M (.Assign l p.2 ps)) h1 (K ps)
theorem tF{t:Expr}{M:Expr→Prop}{ts:List Expr×Nat×Pos}{r:Expr×Expr}{y z:Str×Pos}(h:qn t=O ts)(h1:as2 ts.1=O r)(h2:bZ r.1=O y)(h3:bZ r.2=O z)(K:M (.Tuple [.Name y.1 y.2,.Name z.1 z.2] ts.2.1 ts.2.2)):M t:=
 nK h (jf (M:=λl=>M (.Tuple l ts.2.1 ts.2.2)) h1 (bN (M:=λq=>M (.Tuple [q,r.2] ts.2.1 ts.2.2)) h2 (bN (M:=λq=>M (.Tuple [.Name y.1 y.2,q] ts.2.1 ts.2.2)) h3 K)))
theorem Cc{b:Bool}(h:(!b)=Z):b=N:=JU _▸h
@[elab_as_elim] theorem FS{i:Nat}{x:X}(m:mS P (.asg i x) kd nm t=Z)(K:∀y py e ps,bg kd nm i y=Z→mE P x kd nm e=Z→qR kd e y py=N→dZ e=Z→M (.Assign [.Name y py] e ps)):M t:=
 aj m λp h m=>aj m λt h1 m=>aj m λy h2 m=>nC h h1 λps=>bN (M:=λz=>M (.Assign [z] p.2 ps)) h2 (ae m λm1 m=>ae m λm2 m=>ae m λm3 m4=>K _ _ _ ps m1 m2 (Cc m3) m4)
@[elab_as_elim] theorem FB{i:Nat}{x:X}(m:mS P (.asc i x) kd nm t=Z)(K:∀y py e ps,bg kd nm i y=Z→mE P x kd nm e=Z→qR kd e y py=Z→yV x=Z→M (.Assign [.Name y py] e ps)):M t:=
 aj m λp h m=>aj m λt h1 m=>aj m λy h2 m=>nC h h1 λps=>bN (M:=λz=>M (.Assign [z] p.2 ps)) h2 (ae m λm1 m=>ae m λm2 m=>ae m λm3 m4=>K _ _ _ ps m1 m2 m3 m4)
@[elab_as_elim] theorem Gd{i j:Nat}{x:X}(m:mS P (.as2 i j x) kd nm t=Z)(K:∀y py z pz x1 pt e ps,bg kd nm i y=Z→bg kd nm j z=Z→mE P x kd nm e=Z→tA e=Z→M (.Assign [.Tuple [.Name y py,.Name z pz] x1 pt] e ps)):M t:=
 aj m λp h m=>aj m λt h1 m=>aj m λts h2 m=>aj m λr h3 m=>aj m λy h4 m=>aj m λz h5 m=>nC h h1 λps=>tF (M:=λz=>M (.Assign [z] p.2 ps)) h2 h3 h4 h5
  (ae m λm1 m=>ae m λm2 m=>ae m λm3 m=>ae m λm4 m5=>K _ _ _ _ _ _ _ ps m1 m2 m4 m5)
@[elab_as_elim] theorem FT{i j:Nat}{x:X}(m:mS P (.asT i j x) kd nm t=Z)(K:∀y py z pz x1 pt e1 e2 x2 pe ps,bg kd nm i y=Z→bg kd nm j z=Z→mE P x kd nm (.Tuple [e1,e2] x2 pe)=Z→yC kd y z py pz e1 e2=Z→M (.Assign [.Tuple [.Name y py,.Name z pz] x1 pt] (.Tuple [e1,e2] x2 pe) ps)):M t:=
 aj m λp h m=>aj m λt h1 m=>aj m λts h2 m=>aj m λr h3 m=>aj m λy h4 m=>aj m λz h5 m=>aj m λvs h6 m=>aj m λe h7 m=>nC h h1 λps=>tF (M:=λz=>M (.Assign [z] p.2 ps)) h2 h3 h4 h5
  (ae m λm1 m=>ae m λm2 m=>ae m λm3 m=>ae m λm4 m5=>
   nK (M:=λq=>mE P x kd nm q=Z→M (.Assign [.Tuple [.Name y.1 y.2,.Name z.1 z.2] ts.2.1 ts.2.2] q ps)) h6 (jf (M:=λl=>mE P x kd nm (.Tuple l vs.2.1 vs.2.2)=Z→M (.Assign [.Tuple [.Name y.1 y.2,.Name z.1 z.2] ts.2.1 ts.2.2] (.Tuple l vs.2.1 vs.2.2) ps)) h7 λm4=>K _ _ _ _ _ _ _ _ _ _ ps m1 m2 m4 m5) m4)
@[elab_as_elim] theorem F4{o i x:X}(m:mS P (.sti o i x) kd nm t=Z)(K:∀v s pv e ps,mE P o kd nm v=Z→mE P i kd nm s=Z→mE P x kd nm e=Z→fR s=Z→M (.Assign [.Subscript v s pv] e ps)):M t:=
 aj m λp h m=>aj m λt h1 m=>aj m λq h2 m=>nC h h1 λps=>kx (M:=λz=>M (.Assign [z] p.2 ps)) h2 λpv=>ae m λm1 m=>ae m λm2 m=>ae m λm3 m4=>K _ _ pv _ ps m1 m2 m3 m4
@[elab_as_elim] theorem E9{o x:X}{f:Nat}(m:mS P (.sta o f x) kd nm t=Z)(K:∀v a pv e ps,P.an[f]? =O a→mE P o kd nm v=Z→mE P x kd nm e=Z→M (.Assign [.Attribute v a pv] e ps)):M t:=
 aj m λp h m=>aj m λt h1 m=>aj m λq h2 m=>nC h h1 λps=>nD (M:=λz=>M (.Assign [z] p.2 ps)) h2 (ae m λm1 m=>ae m λm2 m3=>K _ _ _ _ ps (beq_iff_eq.mp m1) m2 m3)
@[elab_as_elim] theorem FO{x:X}(m:mS P (.exp x) kd nm t=Z)(K:∀e ps,mE P x kd nm e=Z→sI e=N→M (.Expr e ps)):M t:=
 aj m λp h m=>Ak h λps=>ae m λm1 m2=>K _ ps m1 (Cc m2)
@[elab_as_elim] theorem Ge{x:X}(m:mS P (.ret x) kd nm t=Z)(K:∀e ps,mE P x kd nm e=Z→M (.Return (O e) ps)):M t:=
 aj m λp h m=>AN h λps=>aj m λe h1 m=>xY (M:=λq=>M (.Return q ps)) h1 (K _ ps m)
@[elab_as_elim] theorem EG{c:X}{a b:Sx}(m:mS P (.ife c a b) kd nm t=Z)(K:∀e x y ps,mE P c kd nm e=Z→mB P a kd nm x=Z→mB P b kd nm y=Z→M (.If e x y ps)):M t:=
 aj m λp h m=>BA h λps=>ae m λm1 m=>ae m λm2 m3=>K _ _ _ ps m1 m2 m3
@[elab_as_elim] theorem Gc{tg:Nat}{it:X}{b:Sx}(m:mS P (.frN tg it b) kd nm t=Z)(K:∀y py e bs ps,bg kd nm tg y=Z→mE P it kd nm e=Z→mB P b kd nm bs=Z→je e=Z→M (.For (.Name y py) e bs [] ps)):M t:=
 aj m λp h m=>aj m λy h1 m=>nW h λps=>bN (M:=λz=>M (.For z p.2.1 p.2.2.1 p.2.2.2 ps)) h1 (ae m λm0 m=>bX (M:=λl=>M (.For (.Name y.1 y.2) p.2.1 p.2.2.1 l ps)) m0 (ae m λm1 m=>ae m λm2 m=>ae m λm3 m4=>K _ _ _ _ ps m1 m2 m3 m4))
@[elab_as_elim] theorem E6{t1 t2:Nat}{it:X}{b:Sx}(m:mS P (.fr2 t1 t2 it b) kd nm t=Z)(K:∀y py z pz x1 pt e bs ps,bg kd nm t1 y=Z→bg kd nm t2 z=Z→mE P it kd nm e=Z→mB P b kd nm bs=Z→je e=Z→M (.For (.Tuple [.Name y py,.Name z pz] x1 pt) e bs [] ps)):M t:=
 aj m λp h m=>aj m λts h1 m=>aj m λr h2 m=>aj m λy h3 m=>aj m λz h4 m=>nW h λps=>tF (M:=λz=>M (.For z p.2.1 p.2.2.1 p.2.2.2 ps)) h1 h2 h3 h4
  (ae m λm0 m=>bX (M:=λl=>M (.For (.Tuple [.Name y.1 y.2,.Name z.1 z.2] ts.2.1 ts.2.2) p.2.1 p.2.2.1 l ps)) m0 (ae m λm1 m=>ae m λm2 m=>ae m λ_ m=>ae m λm3 m=>ae m λm4 m5=>K _ _ _ _ _ _ _ _ ps m1 m2 m3 m4 m5))
@[elab_as_elim] theorem Fj{tg:Nat}{n:X}{b:Sx}(m:mS P (.frR tg n b) kd nm t=Z)(K:∀y py pr e pc bs ps,bg kd nm tg y=Z→nA kd "range"=Z→mE P n kd nm e=Z→mB P b kd nm bs=Z→M (.For (.Name y py) (.Call (.Name "range" pr) [e] [] pc) bs [] ps)):M t:=
 aj m λp h m=>aj m λy h1 m=>aj m λc h2 m=>aj m λr h3 m=>aj m λe h4 m=>nW h λps=>bN (M:=λz=>M (.For z p.2.1 p.2.2.1 p.2.2.2 ps)) h1 (ae m λm0 m=>bX (M:=λl=>M (.For (.Name y.1 y.2) p.2.1 p.2.2.1 l ps)) m0
  (ae m λm1 m=>n9 (M:=λz=>M (.For (.Name y.1 y.2) z p.2.2.1 [] ps)) h2 h3 m1 (ef (M:=λl=>M (.For (.Name y.1 y.2) (.Call (.Name r.1 r.2) l [] c.2.2.2) p.2.2.1 [] ps)) h4
   (ae m λm2 m=>ae m λm3 m=>ae m λm4 m=>ae m λm5 m6=>cz (M:=λz=>nA kd z=Z→M (.For (.Name y.1 y.2) (.Call (.Name z r.2) [e] [] c.2.2.2) p.2.2.1 [] ps)) m3 (λm4=>K _ _ _ _ _ _ ps m2 m4 m5 m6) m4))))
@[elab_as_elim] theorem Ff{n:Nat}{c:X}{b:Sx}(m:mS P (.whl n c b) kd nm t=Z)(K:∀e bs ps,mE P c kd nm e=Z→mB P b kd nm bs=Z→M (.While e bs [] ps)):M t:=
 aj m λp h m=>zQ h λps=>ae m λm0 m=>bX (M:=λl=>M (.While p.1 p.2.1 l ps)) m0 (ae m λm1 m2=>K _ _ ps m1 m2)
end
noncomputable def Ii(W:Wd)(P:Pg)(Φ:ek)(k:Nat)(x:Sx):Prop:=∀ρ st r,ex P W.tb Φ x ρ st=O r→∀A env kd nm s μ t,cp A k→(∀y,env.kindOf y=kd y)→am W env nm ρ s.heap μ→au W s.heap μ st→mS P x kd nm t=Z→
 Tr W A (exec t env) (XF env) s μ (dF W env nm r.1 r.2.1 r.2.2)
noncomputable def IV(W:Wd)(P:Pg)(Φ:ek)(k:Nat)(x:Sx):Prop:=∀ρ st r,ex P W.tb Φ x ρ st=O r→∀A env kd nm s μ ts,cp A k→(∀y,env.kindOf y=kd y)→am W env nm ρ s.heap μ→au W s.heap μ st→mB P x kd nm ts=Z→
 Tr W A (execs ts env) (XF env) s μ (dF W env nm r.1 r.2.1 r.2.2)
noncomputable def cM(W:Wd)(P:Pg)(Φ:ek)(k:Nat)(x:Sx):Prop:=Ii W P Φ k x∧IV W P Φ k x
theorem cM.st{x:Sx}(hn:∀kd nm ts,mB P x kd nm ts=N)(h:Ii W P Φ k x):cM W P Φ k x:=⟨h,λ_ _ _ _ _ _ _ _ _ _ _ _ _ _ _ m=>absurd ((hn _ _ _).symm.trans m) Jd⟩
theorem cA{A:Around}{env:Env}{kd:Str→Option Js}{nm:List Str}{i:Nat}{y:Str}{ρ:Ρ}{s:Shared}{μ:Mp}{st:St}{lv:LV}{v:Value}(hk:∀y,env.kindOf y=kd y)(hn:bg kd nm i y=Z)(hlt:i<ρ.length)
  (F:am W env nm ρ s.heap μ) (V:au W s.heap μ st) (r:ai s.heap μ lv v):Tr W A (storeName env y v) (XF env) s μ (λ_ h' μ'=>μ'=μ∧au W h' μ st∧am W env nm (ρ.set i (O lv)) h' μ):=
 have⟨h1,h2⟩:=u0 hn
 qr V F h1 hlt (h2.imp (λh=>(hk y).trans h) λh=>⟨(hk y).trans h,F.cok y ((hk y).trans h)⟩) r (.inl rfl) λc _ hc=> .inr ⟨y,hc⟩
theorem qJ{A:Around}{env:Env}{kd:Str→Option Js}{nm:List Str}{i:Nat}{y:Str}{py:Pos}(hk:∀y,env.kindOf y=kd y)(hn:bg kd nm i y=Z):∀x ρ ρ1,bn i x ρ=O ρ1→∀(s:Shared) (μ:Mp) (st:St) (u:Value),au W s.heap μ st→am W env nm ρ s.heap μ→ay s.heap μ x u→
  Tr W A (assign (.Name y py) env u) (XF env) s μ (λ_ h' μ'=>μ'=μ∧au W h' μ st∧am W env nm ρ1 h' μ):=by
 intro x ρ ρ1 e s μ st u V F r;exact bH e λhlt e=>aV ρ1 e λQ E q=>Le (cA (lv:= .val x) hk hn hlt F V r Q E q)
@[elab_as_elim] theorem ur{i j:Nat}{x:AV}{ρ:Ρ}(ρ1:Ρ){M:Ρ→Prop}(e:l9 i j x ρ=O ρ1)(K:∀a b,x= .tup [a,b]→i<ρ.length→j<ρ.length→M ((ρ.set i (O (.val a))).set j (O (.val b)))):M ρ1:=by
 unfold l9 at e;split at e
 ·exact bH e λhlt e=>aV ρ1 e (K _ _ rfl hlt.1 hlt.2)
 ·cases e
theorem uO{h:Heap}{μ:Mp}{a b:AV}{u:Value}(r:ay h μ (.tup [a,b]) u):∃t vs,u= .ref t∧h.IsTuple t vs∧vs.size=2∧∃v1 v2,vs.toList=[v1,v2]∧ay h μ a v1∧ay h μ b v2:=by
 refine aw λMz kz673=> ?_
 obtain⟨t,o,vs,n,rfl,nmm,ho,hc,hd,v1,r1,hvs,ra,v2,r2,er,rb,er2⟩:=r;subst er2 er;refine kz673 ?_;exact⟨t,vs,rfl,⟨o,ho,hc,n,hd⟩,by rw[←JR,hvs];rfl,v1,v2,hvs,ra,rb⟩
theorem pZ{A:Around}{env:Env}{kd:Str→Option Js}{nm:List Str}{i j:Nat}{y z:Str}{py pz pos:Pos}{x1:Nat}(hA:A.handled=U)(hk:∀y,env.kindOf y=kd y)(hn:bg kd nm i y=Z)(hn2:bg kd nm j z=Z):∀x ρ ρ1,l9 i j x ρ=O ρ1→∀(s:Shared) (μ:Mp) (st:St) (u:Value),au W s.heap μ st→am W env nm ρ s.heap μ→ay s.heap μ x u→
  Tr W A (assign (.Tuple [.Name y py,.Name z pz] x1 pos) env u) (XF env) s μ (λ_ h' μ'=>μ'=μ∧au W h' μ st∧am W env nm ρ1 h' μ):=by
 intro x ρ ρ1 e s μ st u V F r;refine ur ρ1 e λa b hx h1 h2 Q E q=> ?_
 refine aw λMz kz674=> ?_
 subst hx;obtain⟨t,vs,rfl,ht,hz,v1,v2,hvs,ra,rb⟩:=uO r;refine kz674 ?_;refine wpAny_assign_Tuple hA ht (by rw[hz];rfl) rfl λh0 e0=> ?_
 rw[hvs];have S0:∀{X},aH X s.heap μ h0 μ:=λ{X}=>aH.more λb ob e=>e0 b ob (Lo (Kr e)) e
 refine KS (Le (cA (W:=W) (A:=A) (s:={s with heap:=h0}) (lv:= .val a) hk hn h1 (F.step S0) (V.more λb ob e=>e0 b ob (Lo (Kr e)) e) (ra.step (S0 (X:=X0))) _ _ λ_ h1 tk1 μ1 S1 p1=> ?_));refine aw λMz kz675=> ?_
 obtain⟨rfl,V1,F1⟩:=p1;refine kz675 ?_;refine KS (Le (cA (W:=W) (A:=A) (s:={s with heap:=h1,toks:=tk1}) (lv:= .val b) hk hn2 (by rw[Mh];exact h2) F1 V1 (ay.step S1 (rb.step (S0 (X:=X0)))) _ _ λ_ h2 tk2 μ2 S2 p2=> ?_));refine aw λMz kz676=> ?_
 obtain⟨rfl,V2,F2⟩:=p2;refine kz676 ?_;exact MT (q () h2 tk2 _ ((S0.trans S1).trans S2) ⟨rfl,V2,F2⟩)
end
section
set_option tactic.hygienic true
section
variable{W:Wd}{P:Pg}{Φ:ek}{k:Nat}
theorem qX{env:Env}(h:env.scope.kind= .function):(env.blockKind==N2)=Z:=by
 unfold Env.blockKind;rw[h];rfl
theorem pH{env:Env}{kd:Str→Option Js}{e:Expr}{y:Str}{py:Pos}{l:Nat}(hf:env.scope.kind= .function)(hk:∀y,env.kindOf y=kd y)(h2:dZ e=Z):M0 e (O (.Name y py)) l env=pure (qR kd e y py):=by
 cases e<;>first|rfl|cases h2|skip
 show(pure _:Sem Bool)=pure _
 congr 1
 rw[qX hf,hk];rfl
theorem vL{env:Env}{e a b:Expr}{p:Pos}{l:Nat}:M0 e (O (.Subscript a b p)) l env=pure N:=by cases e<;>rfl
theorem vw{env:Env}{e a:Expr}{b:Str}{p:Pos}{l:Nat}:M0 e (O (.Attribute a b p)) l env=pure N:=by cases e<;>rfl
theorem jY{env:Env}{e:Expr}{ts:List Expr}{x1:Nat}{pt:Pos}{l:Nat}:swapsWithSole [.Tuple ts x1 pt] e l env=pure N:=by cases e<;>rfl
theorem tI{env:Env}{e:Expr}{l:Nat}(h:sI e=N):M0 e U l env=pure N:=by
 cases e<;>first|rfl|cases h
theorem j7{env:Env}(h:env.scope.kind= .function):interactive env=N:=by
 unfold interactive;rw[h];rfl
theorem Fb(hx:∀x,Sd W P Φ k x)(i:Nat)(e:X):cM W P Φ k (.asg i e):= .st (λ_ _ _=>rfl) λρ st r he A env kd nm s μ t room hk F V m=>
 FS t m λy py e' ps m1 m2 m3 m4=>aS (q:=ev P W.tb Φ e .V ρ st) he λv st1 e1 he=>bH he λhlt he=>aV r he λQ E q=>
  wpAny_Assign_Name ((hx e).V _ _ _ _ e1 A env kd nm s μ _ room hk F V m2 _ _ λu h1 tk1 μ1 S1 p1=>
   cA (W:=W) (A:=A) (s:={s with heap:=h1,toks:=tk1}) hk m1 hlt (F.step S1) p1.2 p1.1 _ _ λ_ h2 tk2 μ2 S2 p2=>by
    refine cI p2 λoz945 V2 F2=> ?_
    subst oz945;exact q _ h2 tk2 _ (S1.at0.trans S2) ⟨V2,rfl,F2⟩) ((pH F.kind hk m4).trans (congrArg pure m3))
theorem li{env:Env}{nm:List Str}{ρ:Ρ}{h:Heap}{μ:Mp}(F:am W env nm ρ h μ){a:Addr}(x:XF env a):∃o,h.get? a=O o:=by
 refine aw λMz kz692=> ?_
 rcases x with rfl|⟨y,hy⟩
 ·refine ak F.ns λm oz967 _=> ?_
  refine EQ oz967 λo _ _ ho _=> ?_
  refine kz692 ?_;exact⟨o,ho⟩
 ·obtain⟨_,_,v,o,ho,_⟩:=F.cel y a hy;refine kz692 ?_;exact⟨o,ho⟩
theorem ww(x:X){M:X→Prop}(h:yV x=Z)(K:∀loc tg bs e it cond,M (.comp loc tg bs e it cond)):M x:=X.comp.elim x (beq_iff_eq.mp h) K
theorem Fa(hx:∀x,Sd W P Φ k x)(i:Nat)(e:X):cM W P Φ k (.asc i e):= .st (λ_ _ _=>rfl) λρ st r he A env kd nm s μ t room hk F V m=>by
 refine FB t m λy py e' ps m1 m2 m3 m4=>aS (q:=ev P W.tb Φ e .V ρ st) he λv st1 e1 he=>bH he λhlt he=>aV r he ?_
 refine ww e (M:=λe=>mE P e kd nm e'=Z→ev P W.tb Φ e .V ρ st=O ([v],st1)→Tr W A (exec (.Assign [.Name y py] e' ps) env) (XF env) s μ (dF W env nm U (ρ.set i (O v)) st1)) m4 (λloc tg bs x it cond m2 e1=> ?_) m2 e1;have sw:M0 e' (O (.Name y py)) ps.line env=pure Z:= ?_
 ·refine k5 e' (M:=λe'=>M0 e' (O (.Name y py)) ps.line env=pure Z→Tr W A (exec (.Assign [.Name y py] e' ps) env) (XF env) s μ (dF W env nm U (ρ.set i (O v)) st1)) m2 (λel y2 py2 iter ifs sc pos n1 n2 n3 n4 n5 n6 n7 sw Q E q=> ?_) sw;rw[exec_Assign_Name_used _ _ _ _ sw];refine Jc (Ko (Jc ?_));refine Jc (Ks (pM (hx x) (hx it) (hx cond) (BS e1) room hk F V n1 n2 n3 n4 n5 n6 n7 (O (assign (.Name y py) env)) (λ_ s'=>Q .next s') E λD C h' tk' μ' S hC V' hn hO r=> ?_) (λ_ s' hq=>Jg (Jg hq)) λ_ _ e=>e);have nX:¬XF env C:=λz=>(li F z).elim λ_ ho=>ce hC ho
  refine Le (cA (W:=W) (A:=A) (s:={s with heap:=h',toks:=tk'}) hk m1 hlt (F.step S) V' r _ _ λ_ h2 tk2 μ2 S2 p2=> ?_);refine aw λMz kz683=> ?_
  obtain⟨rfl,V2,F2⟩:=p2;refine aG hn λmc hn=> ?_
  refine kz683 ?_;refine⟨mc,oN hn λob e=>S2.keep C ob e hO.mem nX,λh3 hs3=> ?_⟩;have O2:=hO.step S2 nX;exact q _ h3 tk2 _ ((S.at0.trans S2).ext hC hs3.extBut) ⟨V2.ext O2 hs3.extBut,rfl,F2.ext O2 hs3.extBut (λz=>nX (.inl z)) (λz w=>nX (.inr ⟨z,w⟩))⟩
 ·exact(pH F.kind hk (k5 e' (M:=λe'=>dZ e'=Z) m2 λ_ _ _ _ _ _ _ _ _ _ _ _ _ _=>rfl)).trans (congrArg pure m3)
theorem wj{α:Type}{c:Prop}[Decidable c]{y r:α}(e:y=r):(if c then r else y)=r:=by
 by_cases q:c
 ·exact if_pos q
 ·exact(if_neg q).trans e
theorem Bc{env:Env}{ts:List Expr}{x1:Nat}{pt:Pos}{e:Expr}(h:tA e=Z):NF [.Tuple ts x1 pt] e env=pure U:=by
 cases e<;>first|rfl|skip
 rename_i es kk pe;refine ae (a:=es.all (MS 8)) h λh1 _=> ?_
 exact wj (wj (wj (if_pos h1)))
theorem Fs(hx:∀x,Sd W P Φ k x)(i j:Nat)(e:X):cM W P Φ k (.as2 i j e):= .st (λ_ _ _=>rfl) λρ st r he A env kd nm s μ t room hk F V m=>
 Gd t m λy py z pz x1 pt e' ps m1 m2 m4 m5=>iR (q:=ev P W.tb Φ e .V ρ st) he λv st1 e1 he=>dI r he λρ1 ha Q E q=>
  wpAny_Assign_stores ((hx e).V _ _ _ _ e1 A env kd nm s μ _ room hk F V m4 _ _ λu h1 tk1 μ1 S1 p1=>
   pZ (W:=W) (A:=A) (x1:=x1) room.1 hk m1 m2 _ _ _ ha {s with heap:=h1,toks:=tk1} μ1 _ u p1.2 (F.step S1) p1.1 _ _ λ_ h2 tk2 μ2 S2 p2=>by
    obtain⟨rfl,V2,F2⟩:=p2;exact q _ h2 tk2 _ (S1.at0.trans S2) ⟨V2,rfl,F2⟩) jY (Bc m5)
theorem qy{α:Type}{b:Bool}{x y r:α}(h:b=N)(e:y=r):(if b=Z then x else y)=r:=(if_neg λq=>Kx (h.symm.trans q)).trans e
theorem BV{a b:Bool}(h:a=Z)(k:b=Z):(a&&b)=Z:=by rw[h];exact k
theorem El{a b:Bool}(h:a=N)(k:b=N):(a||b)=N:=by rw[h];exact k
theorem Ec{a:Bool}(h:(!a)=Z):a=N:=by
 cases a with
 |true=>cases h
 |false=>rfl
theorem HU(e:Expr):(match e with| .Starred .. =>Z|_=>N)= !oh e:=by cases e<;>rfl
theorem Id{e:Expr}(h:oh e=Z):(match(generalizing:=false) e with| .Starred .. =>Z|_=>N)=N:=(HU e).trans (by rw[h];rfl)
theorem Ij{α β:Type}{f:α→Option β}{a b:α}{x y:β}(h:f a=O x)(k:f b=O y):[a,b].filterMap f=[x,y]:=by
 rw[MU h,MU k];rfl
theorem ed{y z:Str}(h:(z==y)=N){n:Nat}(hn:n=2:=by rfl):([y,z].length !=n||([y,z]:List Str).eraseDups.length !=[y,z].length)=N:=by
 subst hn;have e:([y,z]:List Str).eraseDups=[y,z]:=by rw[List.eraseDups_cons,M1,h];rfl
 rw[e];rfl
theorem wH{env:Env}{kd:Str→Option Js}{y z:Str}{py pz pt pe:Pos}{x1 x2:Nat}{e1 e2:Expr}(hf:env.scope.kind= .function)(hk:∀y,env.kindOf y=kd y)(h:yC kd y z py pz e1 e2=Z):
  NF [.Tuple [.Name y py,.Name z pz] x1 pt] (.Tuple [e1,e2] x2 pe) env=pure (O [y,z]):=
 ae h λh h8=>ae h λh h7=>ae h λh h6=>ae h λh h5=>ae h λh h4=>ae h λh h3=>ae h λh1 h2=>by
 have hyz:(z==y)=N:=beq_eq_false_iff_ne.mpr λq=>by rw[q,beq_self_eq_true] at h4;cases h4
 have bk:(env.blockKind !=N2)=N:=by rw[bne,qX hf];rfl
 delta NF;dsimp only;refine qy (b:=_||_) bk (qy (El (Id h7) (El (Id h8) rfl)) ?_);generalize hn:List.filterMap _ _=names;have e:=hn.symm.trans (Ij (x:=y) (y:=z) (if_pos (BV (J0 (motive:=λt=>(t==O NameKind.local)=Z) (hk y).symm h1) (beq_self_eq_true _))) (if_pos (BV (J0 (motive:=λt=>(t==O NameKind.local)=Z) (hk z).symm h2) h3)));subst e;exact qy (ed hyz) (qy (by rw[L3,L3,PU,MN];exact Ec h5) (qy (by rw[L3,L3,PU,MN];exact Ec h6) rfl))
theorem Ej(hx:∀x,Sd W P Φ k x)(i j:Nat)(e:X):cM W P Φ k (.asT i j e):= .st (λ_ _ _=>rfl) λρ st r he A env kd nm s μ t room hk F V m=>by
 refine FT t m λy py z pz x1 pt ee1 ee2 x2 pe ps m1 m2 m4 m5=>iR (q:=ev P W.tb Φ e .V ρ st) he λp st1 e1 he=>yA he λa b hp he=>dI r he λρ1 ha Q E q=> ?_
 refine Jc (Ko ?_);refine Jc (Jg ?_);refine Jc ((hx e).V _ _ _ _ e1 A env kd nm s μ _ room hk F V m4 _ _ λu h1 tk1 μ1 S1 p1=> ?_);rw[wH F.kind hk m5];refine Jc (Jg ?_);have r1:ay h1 μ1 (.tup [a,b]) u:=hp▸p1.1;refine aw λMz kz687=> ?_
 obtain⟨tt,vs,rfl,ht,hz,v1,v2,hvs,ra,rb⟩:=uO r1;refine kz687 ?_;refine ur (M:=λρ1=>(∀a h' tk' μ',aH (XF env) s.heap μ h' μ'→dF W env nm U ρ1 st1 a h' μ'→Q a {s with heap:=h',toks:=tk'})→_) ρ1 ha (λa' b' hq l1 l2 q=> ?_) q;refine aw λMz kz688=> ?_
 cases hq;refine kz688 ?_;show wpAny _ _ (do rule _;let items←unpackItems (.ref tt) 2 U;assignInOrder _ items.reverse;pure PF) _ _ _;rw[←hz];refine Jc (M8 (Jc (wpAny_unpackItems_tuple room.1 ht λh0 e0=> ?_)));rw[hvs];have kp:∀b ob,h1.get? b=O ob→h0.get? b=O ob:=λb ob e=>e0 b ob (Lo (Kr e)) e
 have S0:∀{X},aH X h1 μ1 h0 μ1:=aH.more kp
 refine Jc (KS (Pr (cA (W:=W) (A:=A) (s:={s with heap:=h0,toks:=tk1}) (lv:= .val b) hk m2 l1 ((F.step S1).step S0) (p1.2.more kp) (rb.step (S0 (X:=X0))) _ _ λ_ h2 tk2 μ2 S2 p2=> ?_)));obtain⟨rfl,V2,F2⟩:=p2;refine KS (Pr (cA (W:=W) (A:=A) (s:={s with heap:=h2,toks:=tk2}) (lv:= .val a) hk m1 (by rw[Mh];exact l2) F2 V2 (ay.step S2 (ra.step (S0 (X:=X0)))) _ _ λ_ h3 tk3 μ3 S3 p3=> ?_));refine aw λMz kz690=> ?_
 obtain⟨rfl,V3,F3⟩:=p3;refine kz690 ?_;exact MT (Jg (q _ h3 tk3 _ (((S1.at0.trans S0).trans S2).trans S3) ⟨V3,rfl,F3⟩))
end
end
section
variable{W:Wd}{P:Pg}{Φ:ek}{k:Nat}
theorem FZ(hx:∀x,Sd W P Φ k x)(o i e:X):cM W P Φ k (.sti o i e):= .st (λ_ _ _=>rfl) λρ st r he A env kd nm s μ t room hk F V m=>by
 refine F4 t m λv' s' pv e' ps m1 m2 m3 m4=>iR (q:=ev P W.tb Φ e .V ρ st) he λz st1 e1 he=>aS he λx st2 e2 he=>iR he λy st3 e3 he=>dI r he λs4 hs Q E q=>
  wpAny_Assign_Subscript ((hx e).V _ _ _ _ e1 A env kd nm s μ _ room hk F V m3 _ _ λu h1 tk1 μ1 S1 p1=> ?_) vL
 refine BU (hx o) (hx i) e2 e3 (s:={s with heap:=h1,toks:=tk1}) room hk (F.step S1) p1.2 m1 m2 (λov iv s3=>wpAny (model W.prog W.w) A (Qz ov iv u) (λ_=>Q .next) E s3) _ λov iv h2 tk2 μ2 S2 r1 r2 V2=> ?_
 have ru:=ay.step S2 p1.1;refine aI hs λc hcon hs=> ?_
 induction c with
 |dict kk es=>
  refine bH (c:=aU kk y=Z∧es.length<aA) hs λhb hs=>rE (W:=W) (A:=A) (X:=X0) (s:={s with heap:=h2,toks:=tk2}) V2 hcon r1 hb.1 r2 ru hb.2 (JA (J8 (by decide) _) room.cl) _ _ λ_ h3 tk3 μ3 S3 p3=> ?_
  refine cI p3 λ_ oz48 V3=> ?_
  cases oz48;cases hs;have S:=(S1.trans S2).trans S3;exact q _ h3 tk3 _ S.at0 ⟨V3,rfl,F.step S⟩
 |list l=>
  refine uB hs λn hy hs=>bH hs λhb hs9=> ?_
  subst hy;obtain⟨t,rfl⟩:=r2;refine pL (W:=W) (A:=A) (X:=X0) (s:={s with heap:=h2,toks:=tk2}) V2 hcon r1 hb.1 hb.2.1 ru hb.2.2 _ _ λ_ h3 tk3 μ3 S3 p3=> ?_
  refine cI p3 λ_ oz8 V3=> ?_
  cases oz8;cases hs9;have S:=(S1.trans S2).trans S3;exact q _ h3 tk3 _ S.at0 ⟨V3,rfl,F.step S⟩
theorem Ee(ok:Ok W P)(hx:∀x,Sd W P Φ k x)(o:X)(f:Nat)(e:X):cM W P Φ k (.sta o f e):= .st (λ_ _ _=>rfl) λρ st r he A env kd nm s μ t room hk F V m=>by
 refine E9 t m λv' a' pv e' ps m1 m2 m3=>aS (q:=ev P W.tb Φ e .V ρ st) he λz st1 e1 he=>zc he λn st2 e2 he=>aI he λg hG he=>ln he λc fs hg he=>aI he λgv hgv he=>bH he λhb he=>aV r he λQ E q=>
  plainObj_wpAny_Assign_Attribute ((hx e).V _ _ _ _ e1 A env kd nm s μ _ room hk F V m3 _ _ λu h1 tk1 μ1 S1 p1=>
   (hx o).V _ _ _ _ e2 A env kd nm {s with heap:=h1,toks:=tk1} μ1 _ room hk (F.step S1) p1.2 m2 _ _ λov h2 tk2 μ2 S2 p2=> ?_) vw
 rw[hg] at hG;rw[←ok.an _ _ m1];refine s8 (W:=W) (A:=A) (X:=X0) (s:={s with heap:=h2,toks:=tk2}) ok.inj p2.2 hG p2.1 (ok.sa _ _ hb.1) (k9 hgv (p1.1.step S2)) hb.2 _ _ λ_ h3 tk3 μ3 S3 p3=> ?_
 refine aw λMz kz1=> ?_
 obtain⟨rfl,V3⟩:=p3;have S:=(S1.trans S2).trans S3;refine kz1 ?_;exact q _ h3 tk3 _ S.at0 ⟨V3,rfl,F.step S⟩
theorem FU(hx:∀x,Sd W P Φ k x)(e:X):cM W P Φ k (.exp e):= .st (λ_ _ _=>rfl) λρ st r he A env kd nm s μ t room hk F V m=>
 FO t m λe' ps m1 m2=>aS (q:=ev P W.tb Φ e .V ρ st) he λv st1 e1 he=>aV r he λQ E q=>
  wpAny_Expr_any ((hx e).V _ _ _ _ e1 A env kd nm s μ _ room hk F V m1 _ _ λu h1 tk1 μ1 S1 p1=>q _ h1 tk1 _ S1.at0 ⟨p1.2,rfl,F.step S1⟩) (j7 F.kind) (tI m2)
theorem EI(hx:∀x,Sd W P Φ k x)(e:X):cM W P Φ k (.ret e):= .st (λ_ _ _=>rfl) λρ st r he A env kd nm s μ t room hk F V m=>
 Ge t m λe' ps m1=>aS (q:=ev P W.tb Φ e .V ρ st) he λv st1 e1 he=>aV r he λQ E q=>
  wpAny_Return_some ((hx e).V _ _ _ _ e1 A env kd nm s μ _ room hk F V m1 _ _ λu h1 tk1 μ1 S1 p1=>q _ h1 tk1 _ S1.at0 ⟨p1.2,u,rfl,p1.1⟩)
theorem Fi(hx:∀x,Sd W P Φ k x)(c:X){a b:Sx}(ha:cM W P Φ k a)(hb:cM W P Φ k b):cM W P Φ k (.ife c a b):= .st (λ_ _ _=>rfl) λρ st r he A env kd nm s μ t room hk F V m=>by
 refine EG t m λe' x y ps m1 m2 m3=>lJ (q:=ev P W.tb Φ c .T ρ st) he λtt st1 e1 he Q E q=>wpAny_If ((hx c).T _ _ _ _ e1 A env kd nm s μ _ room hk F V m1 _ _ λu h1 tk1 μ1 S1 p1=> ?_)
 obtain⟨rfl,V1⟩:=p1;induction u with
 |true=>exact ha.2 _ _ _ he A env kd nm {s with heap:=h1,toks:=tk1} μ1 _ room hk (F.step S1) V1 m2 _ _ λf h2 tk2 μ2 S2 p2=>q f h2 tk2 μ2 (S1.at0.trans S2) p2
 |false=>exact hb.2 _ _ _ he A env kd nm {s with heap:=h1,toks:=tk1} μ1 _ room hk (F.step S1) V1 m3 _ _ λf h2 tk2 μ2 S2 p2=>q f h2 tk2 μ2 (S1.at0.trans S2) p2
theorem EN:cM W P Φ k .nil:=⟨λ_ _ _ _ _ _ _ _ _ _ _ _ _ _ _ m=>(Jd m).elim,λρ st r he A env kd nm s μ ts room hk F V m=>
 bX (M:=λts=>Tr W A (execs ts env) (XF env) s μ (dF W env nm r.1 r.2.1 r.2.2)) m (aV r he λQ E q=>Ng (q _ s.heap s.toks μ (aH.refl _ _ _) ⟨V,rfl,F⟩))⟩
theorem C8:cM W P Φ k .hole:=⟨λρ st r he=>ns he,λρ st r he=>ns he⟩
theorem Cx{a b:Sx}(ha:cM W P Φ k a)(hb:cM W P Φ k b):cM W P Φ k (.cons a b):=by
 refine⟨λ_ _ _ _ _ _ _ _ _ _ _ _ _ _ _ m=>(Jd m).elim,λρ st r he A env kd nm s μ ts room hk F V m=> ?_⟩;cases ts with
 |nil=>exact(Jd m).elim
 |cons t ts=>
  refine ae (a:=mS P a kd nm t) m λm1 m2=>aI (q:=ex P W.tb Φ a ρ st) he λp e1 he Q E q=>wpAny_execs_cons (ha.1 _ _ _ e1 A env kd nm s μ _ room hk F V m1 _ _ λf h1 tk1 μ1 S1 p1=> ?_)
  obtain⟨o,ρ1,st1⟩:=p;induction o with
  |none=>
   refine cI p1 λV1 oz15 F1=> ?_
   subst oz15;exact hb.2 _ _ _ he A env kd nm {s with heap:=h1,toks:=tk1} μ1 _ room hk F1 V1 m2 _ _ λf h2 tk2 μ2 S2 p2=>q f h2 tk2 μ2 (S1.trans S2) p2
  |some lv=>
   refine aw λMz kz10=> ?_
   obtain⟨V1,u,rfl,r1⟩:=p1;cases he;refine kz10 ?_;exact q _ h1 tk1 μ1 S1 ⟨V1,u,rfl,r1⟩
theorem tS{A:Around}{env:Env}{kd:Str→Option Js}{nm:List Str}{s:Shared}{μ:Mp}{it:X}{iter target:Expr}{bs:List Stmt}{pos:Pos}{asg:AV→Ρ→Option Ρ}{b:Sx}(hit:Sd W P Φ k it)(hb:cM W P Φ k b)
  {ρ:Ρ} {st st1:St} {x:LV} {c:Bool} {l:List AV} {r:Option LV×Ρ×St} (room:cp A k) (hk:∀y,env.kindOf y=kd y) (F:am W env nm ρ s.heap μ) (V:au W s.heap μ st)
  (e1:ev P W.tb Φ it .V ρ st=O ([x],st1)) (hl:ao st1 x=O (c,l)) (he:bB asg (ex P W.tb Φ b) (aP x c l) l ρ st1=O r)
  (m1:mE P it kd nm iter=Z) (m2:mB P b kd nm bs=Z) (hns:je iter=Z)
  (hasg:∀x ρ ρ1,asg x ρ=O ρ1→∀(s:Shared) (μ:Mp) (st:St) (u:Value),au W s.heap μ st→am W env nm ρ s.heap μ→ay s.heap μ x u→Tr W A (assign target env u) (XF env) s μ (λ_ h' μ'=>μ'=μ∧au W h' μ st∧am W env nm ρ1 h' μ)):
  Tr W A (exec (.For target iter bs [] pos) env) (XF env) s μ (dF W env nm r.1 r.2.1 r.2.2):=by
 intro Q E q;refine wpAny_For (hit.V _ _ _ _ e1 A env kd nm s μ _ room hk F V m1 _ _ λv h1 tk1 μ1 S1 p1=> ?_) (λv=>by cases iter<;>first|rfl|exact(Jd hns).elim);refine qw (W:=W) (s:={s with heap:=h1,toks:=tk1}) p1.2 hl p1.1 _ _ λa o hv hof hit0=> ?_
 refine aw λMz kz5=> ?_
 subst hv;have kp:∀c ob,h1.get? c=O ob→(h1.push o).get? c=O ob:=λc ob e=>Jn _ e
 have F1:=F.step S1;have wk:=wN (W:=W) (A:=A) room.1 hl (a:=a) h1.objs.size;have none1:h1.get? h1.objs.size=U:=bj _;have nX:¬XF env h1.objs.size:=λz=>(li F1 z).elim λ_ ho=>ce none1 ho
 obtain⟨oo,ρ',st'⟩:=r;refine kz5 ?_;exact q6 (W:=W) (A:=A) (X:=XF env) (s:={s with heap:=h1.push o,toks:=tk1}) (μ:=μ1) (st:=st1) (lv:=x) (v:= .ref a) (l:=l) (env:=env) (nm:=nm) (I:=h1.objs.size) (It:=qg c h1.objs.size a) (ok:=aP x c l)
  (asg:=asg) (body:=ex P W.tb Φ b) (target:=target) (bs:=bs) (ρ:=ρ) (ρf:=ρ') (o:=oo) (stf:=st') (h0:=h1) wk kp none1 nX (λz=>nX (.inl z)) (λz w=>nX (.inr ⟨z,w⟩)) (rX p1.2 none1 (wk.fld _ _ hit0)) hasg
  (λρ2 st2 o2 ρ3 st3 hb2 s2 μ2 V2 F2=>hb.2 _ _ _ hb2 A env kd nm s2 μ2 _ room hk F2 V2 m2) (p1.2.more kp) (F1.step (aH.more kp)) (p1.1.step (aH.more (X:=X0) kp)) hit0 (lW hl) he (λi s v Q E hi q=>CL i s v Q E hi q) _
  λf h' tk μ' S p=>q f h' tk μ' (S1.at0.trans S) p
theorem Fz(hx:∀x,Sd W P Φ k x)(tg:Nat)(it:X){b:Sx}(hb:cM W P Φ k b):cM W P Φ k (.frN tg it b):= .st (λ_ _ _=>rfl) λρ st r he A env kd nm s μ t room hk F V m=>
 Gc t m λy py e bs ps m1 m2 m3 m4=>aS (q:=ev P W.tb Φ it .V ρ st) he λx st1 e1 he=>aI he λp hl he=>tS (hx it) hb room hk F V e1 hl he m2 m3 m4 (qJ hk m1)
theorem Ey(hx:∀x,Sd W P Φ k x)(t1 t2:Nat)(it:X){b:Sx}(hb:cM W P Φ k b):cM W P Φ k (.fr2 t1 t2 it b):= .st (λ_ _ _=>rfl) λρ st r he A env kd nm s μ t room hk F V m=>
 E6 t m λy py z pz x1 pt e bs ps m1 m2 m3 m4 m5=>aS (q:=ev P W.tb Φ it .V ρ st) he λx st1 e1 he=>aI he λp hl he=>tS (hx it) hb room hk F V e1 hl he m3 m4 m5 (pZ (x1:=x1) room.1 hk m1 m2)
end
section
variable{W:Wd}{P:Pg}{Φ:ek}{k:Nat}
noncomputable def Gw(n:Nat)(I:Addr)(i:Nat)(h:Heap):Prop:=IsRangeIter h I (i:Int) ((n:Int) - (i:Int)) 1
theorem zf{A:Around}(hA:A.handled=U)(n:Nat)(I:Addr):Wk W A (.val .none) .none I ((JE n).map λ(i:Nat)=>AV.int (i:Int)) (Gw n I) (λ_=>Z):=by
 refine⟨λi h h' e kk=>kk _ e,λi h e=>⟨_,e,λvs m q=>by cases q⟩,λi s μ st x Q E hit V r ok hx q=> ?_,λi s μ st Q E hit V r ok hx q=> ?_,λi s Q E hit q=>wpAny_pyIter_rangeiter hit q⟩
 ·have hi:i<n:=by
   have:=(Ji.mp hx).1;simpa using this
  have hx':x= .int (i:Int):=by
   rw[JK,List.getElem?_range hi] at hx;simpa using hx.symm
  subst hx';refine wpAny_pyNext_range_item hit (by lia) λh' hit' hs=>q _ h' _ ⟨_,rfl⟩ ?_ hs
  delta Gw;have e2:(n:Int) - ((i+1:Nat):Int)=(n:Int) - (i:Int) - 1:=by lia
  exact(e2)▸(hit')
 ·have hi:i=n:=by simpa using hx
  exact wpAny_pyNext_range_end hA hit (by lia) λh' hs=>q h' s.toks hs
theorem EU(ok:Ok W P)(hx:∀x,Sd W P Φ k x)(tg:Nat)(e:X){b:Sx}(hb:cM W P Φ k b):cM W P Φ k (.frR tg e b):= .st (λ_ _ _=>rfl) λρ st r he A env kd nm s μ t room hk F V m=>by
 refine Fj t m λy py pr e' pc bs ps m1 m3 m4 m5=>xG (q:=ev P W.tb Φ e .V ρ st) he λkk st1 e1 he=>bH he λhbnd he Q E q=>
  wpAny_For (LY (lT (v:= .type "range") ok hk F V (Jf (i:=9) rfl) m3 _ _ λtk=>bP (by rw[bE m4];rfl) (λ_=>True) (λh _=>du rfl h)
   (Kl ((hx e).V _ _ _ _ e1 A env kd nm {s with toks:=tk} μ _ room hk F V m4 _ _ λv h1 tk1 μ1 S1 p1=>KB ⟨trivial,?_⟩) (bE m4 _ _)))) (λv=>rfl)
 refine aO p1 λoz1013 V1=> ?_
 refine aG oz1013 λt oz1021=> ?_
 subst oz1021;refine call_range_1 (wpAny_pyIter_range (IsRange.new ..) (small_one (by decide) (by decide) (by omega) (by omega)) ?_);have hsz:PG 0 kk 1=(kk.toNat:Int):=by rw[rangeSize_one];split<;>omega
 rw[hsz];generalize hr:(({cls:= .type "range",data:= .fields #[.int 0 tk1,.int kk t,.int 1 (tk1+1)]}:Obj))=orng;generalize hi:(({cls:= .type "range_iterator",data:= .fields #[PO 0,PO (kk.toNat:Int),PO 1]}:Obj))=oit;have F1:=F.step S1;have kp:∀c ob,h1.get? c=O ob→((h1.push orng).push oit).get? c=O ob:=λc ob e=>Jn _ (Jn _ e)
 have hI:((h1.push orng).push oit).get? (h1.push orng).objs.size=O oit:=JG _ (by rw[←hi];rfl);have none1:h1.get? (h1.push orng).objs.size=U:=bm (by rw[MB];exact OL _);have hit0:Gw kk.toNat (h1.push orng).objs.size 0 ((h1.push orng).push oit):=by
  show _=O _;rw[hI,←hi];simp[PO]
 have nX:¬XF env (h1.push orng).objs.size:=λz=>(li F1 z).elim λ_ ho=>ce none1 ho
 refine aw λMz kz11=> ?_
 obtain⟨oo,ρ',st'⟩:=r;refine kz11 ?_;exact q6 (W:=W) (A:=A) (X:=XF env) (s:={s with heap:=(h1.push orng).push oit,toks:=tk1+1+1}) (μ:=μ1) (st:=st1) (lv:= .val .none) (v:= .none) (l:=(JE kk.toNat).map λ(i:Nat)=>AV.int (i:Int)) (env:=env) (nm:=nm) (I:=(h1.push orng).objs.size)
  (It:=Gw kk.toNat (h1.push orng).objs.size) (ok:=λ_=>Z) (asg:=bn tg) (body:=ex P W.tb Φ b) (ρ:=ρ) (ρf:=ρ') (o:=oo) (stf:=st') (h0:=h1) (zf room.1 _ _) kp none1 nX (λz=>nX (.inl z)) (λz w=>nX (.inr ⟨z,w⟩))
  (rX V1 none1 ⟨_,hI,λvs n q=>by rw[←hi] at q;cases q⟩) (qJ hk m1)
  (λρ2 st2 o2 ρ3 st3 hb2 s2 μ2 V2 F2=>hb.2 _ _ _ hb2 A env kd nm s2 μ2 _ room hk F2 V2 m5) (V1.more kp) (F1.step (aH.more kp)) rfl hit0 rfl he (λ_ _ _ _ _ _ q=>Jg q) _ λf h' tk' μ' S p=>q f h' tk' μ' (S1.at0.trans S) p
inductive WI(W:Wd)(X:Addr→Prop)(s:Shared)(μ:Mp)(env:Env)(nm:List Str)(G:Nat→Ρ→St→Prop):Nat→Shared→Prop
 |mk (n:Nat) (h:Heap) (tk:Nat) (μ1:Mp) (st:St) (ρ:Ρ):au W h μ1 st→am W env nm ρ h μ1→aH X s.heap μ h μ1→G n ρ st→WI W X s μ env nm G n {s with heap:=h,toks:=tk}
theorem EJ(hx:∀x,Sd W P Φ k x)(n:Nat)(c:X){b:Sx}(hb:cM W P Φ k b):cM W P Φ k (.whl n c b):= .st (λ_ _ _=>rfl) λρ st r he A env kd nm s μ t room hk F V m=>by
 refine Ff t m λe' bs ps m1 m2 Q E q=>wpAny_While (codeAny_whileLoop (WI W (XF env) s μ env nm λn ρ1 st1=>ex P W.tb Φ (.whl n c b) ρ1 st1=O r) ?_ n (.mk n s.heap s.toks μ st ρ V F (aH.refl _ _ _) he))
 intro n s' z;induction z with
 |mk h tk μ1 st1 ρ1 V1 F1 S1 e=>
 cases n with
 |zero=>exact ns e
 |succ n=>
  refine aI e λp e2 e3=>lJ (q:=ev P W.tb Φ c .T ρ1 st1) e2 λtt s1 e4 e5=>(hx c).T _ _ _ _ e4 A env kd nm {s with heap:=h,toks:=tk} μ1 _ room hk F1 V1 m1 _ _ λu h2 tk2 μ2 S2 p2=> ?_
  have e3:=J0 (motive:=λp:Bool×St=>(if p.1 then oO (ex P W.tb Φ b ρ1 p.2) λq=>q.1.elim (ex P W.tb Φ (.whl n c b) q.2.1 q.2.2) λ_=>O q else O (U,ρ1,p.2))=O r) (Jt e5).symm e3;have S12:=S1.trans S2.at0;have F2:=F1.step S2;refine qp (λhc=> ?_) λhc=> ?_
  ·refine aI ((if_pos (p2.1.symm.trans hc)).symm.trans e3) λq4 e6 e7=>hb.2 _ _ _ e6 A env kd nm {s with heap:=h2,toks:=tk2} μ2 _ room hk F2 p2.2 m2 _ _ λf h3 tk3 μ3 S3 p3=> ?_
   refine rG f p3 (λho F3=> ?_) λlv u ho hf=> ?_
   ·exact⟨n,KZ n,.mk n h3 tk3 μ3 q4.2.2 q4.2.1 p3.1 F3 (S12.trans S3) (J0 (motive:=λo:Option LV=>o.elim (ex P W.tb Φ (.whl n c b) q4.2.1 q4.2.2) (λ_=>O q4)=O r) ho e7)⟩
   ·have e8:O q4=O r:=J0 (motive:=λo:Option LV=>o.elim (ex P W.tb Φ (.whl n c b) q4.2.1 q4.2.2) (λ_=>O q4)=O r) ho e7;exact J0 (motive:=λg=>Q g {s with heap:=h3,toks:=tk3}) hf (q f h3 tk3 μ3 (S12.trans S3) (J0 (motive:=λp:Option LV×Ρ×St=>dF W env nm p.1 p.2.1 p.2.2 f h3 μ3) (Jt e8) p3))
  ·have e8:O (U,ρ1,s1)=O r:=(if_neg λq=>Kx (hc.symm.trans (p2.1.trans q))).symm.trans e3;exact Ng (q _ h2 tk2 μ2 S12 (J0 (motive:=λp:Option LV×Ρ×St=>dF W env nm p.1 p.2.1 p.2.2 .next h2 μ2) (Jt e8) ⟨p2.2,rfl,F2⟩))
theorem yK(ok:Ok W P)(hx:∀x,Sd W P Φ k x)(x:Sx):cM W P Φ k x:=by
 induction x with
 |nil=>exact EN
 |cons a b ha hb=>exact Cx ha hb
 |asg i e=>exact Fb hx i e
 |asc i e=>exact Fa hx i e
 |as2 i j e=>exact Fs hx i j e
 |asT i j e=>exact Ej hx i j e
 |sti o i e=>exact FZ hx o i e
 |sta o f e=>exact Ee ok hx o f e
 |exp e=>exact FU hx e
 |ret e=>exact EI hx e
 |ife c a b ha hb=>exact Fi hx c ha hb
 |frN tg it b hb=>exact Fz hx tg it hb
 |fr2 t1 t2 it b hb=>exact Ey hx t1 t2 it hb
 |frR tg n b hb=>exact EU ok hx tg n hb
 |whl n c b hb=>exact EJ hx n c hb
 |hole=>exact C8
end
theorem gf{h:Heap}{μ μ':Mp}(g:μ'.g=μ.g)(m:∀a,μ'.Mem a↔μ.Mem a):∀{as:List LV} {vs:List Value},dU as=Z→bx h μ as vs→bx h μ' as vs
 |[],_,_,r=>r
 |a::l,_,e,⟨v,r,er,q,t⟩=>by
  cases a with
  |loc i=>cases e
  |val a=>exact⟨v,r,er,ay.to (λb o vs n e _ mm=>⟨e,λz=>mm ((m b).mp z)⟩) q,gf g m e t⟩
  |ref n=>exact⟨v,r,er,by obtain⟨p,hp,e⟩:=q;exact⟨p,by rw[g];exact hp,e⟩,gf g m e t⟩
  |tab a=>exact⟨v,r,er,q,gf g m e t⟩
theorem Al{st st2:St}{lv r0:LV}(e:uh 0 st lv=O (r0,st2))(h:∀i,r0≠.loc i):st2.S=[]:=by
 cases lv with
 |loc i=>
  simp only[uh] at e;split at e
  ·split at e
   ·cases e;rfl
   ·contradiction
  ·cases e;exact absurd rfl (h i)
  ·contradiction
 |val a=>cases e;rfl
 |ref a=>cases e;rfl
 |tab a=>cases e;rfl
noncomputable def jK(μ:Mp):Mp:=⟨μ.g,μ.s,μ.s.length⟩
theorem xo{W:Wd}{h:Heap}{μ:Mp}{st:St}(V:au W h μ st):au W h (jK μ) {st with S:=[]}:=by
 have K:cD h h μ (jK μ):=⟨λb o _ _ e _ m=>⟨e,m⟩,⟨[],by simp[jK]⟩⟩;exact⟨V.lg,rfl,λn o p e1 e2=>(V.og n o p e1 e2).kept K (λ_ e=>e) (λ_ _ _ e=>e),λn o a e=>by simp at e,V.nd,V.base,V.fresh⟩
theorem wC{W:Wd}{h h':Heap}{μ μ':Mp}{st st2:St}(V:au W h μ st)(V2:au W h' μ' st2)(S:aH X0 h (jK μ) h' μ'):
  au W h' ⟨μ'.g,μ'.s,μ.off⟩ {st2 with S:=st.S++st2.S}∧aH X0 h μ h' ⟨μ'.g,μ'.s,μ.off⟩:=by
 have hls:=V.ls;have hoff:μ'.off=μ.s.length:=S.off;have SS:aH X0 h μ h' ⟨μ'.g,μ'.s,μ.off⟩:=⟨S.g,S.s,S.keep,S.imm,S.alive,S.new,rfl,λi b o hi e q=>S.hid i b o (by show i<μ.s.length;omega) e q⟩;have K1:cD h' h' μ' ⟨μ'.g,μ'.s,μ.off⟩:=⟨λb o _ _ e _ m=>⟨e,m⟩,⟨[],(Je _).symm⟩⟩;refine⟨⟨V2.lg,?_,λn o p e1 e2=>(V2.og n o p e1 e2).kept K1 (λ_ e=>e) (λ_ _ _ e=>e),λn o a e1 e2=> ?_,V2.nd,V2.base,V2.fresh⟩,SS⟩
 ·have:=V2.ls;simp only[Jk]
  lia
 ·simp only at e1 e2;by_cases hn:n<st.S.length
  ·rw[Jz hn] at e1;refine aG S.s λy hy=> ?_
   have hs:(jK μ).s=μ.s:=rfl;rw[hy,hs,Jz (by omega)] at e2;exact(V.os n o a e1 e2).kept (cD.of_stp SS) λob q=>S.hid (μ.off+n) a ob (by show μ.off+n<μ.s.length;omega) e2 q
  ·rw[Jx (KH (by assumption))] at e1;have e3:μ'.s[μ'.off+(n - st.S.length)]? =O a:=by
    rw[hoff,hls];have:μ.off+st.S.length+(n - st.S.length)=μ.off+n:=by omega
    rw[this];exact e2
   exact(V2.os _ o a e1 e3).kept K1 λ_ e=>e
theorem oD{W:Wd}{P:Pg}(ok:Ok W P):∀k,yL W P k (Fn P W.tb k)
 |0=>λf fd as st r st' _ e=>ns e
 |k+1=>by
  intro f fd as st r st' hfd e A s μ vs room V rv;have e':(match P.fd[f]? with
   |some fd=>if as.length+fd.dv.length=fd.np then
     (if dU as then
      oO (ex P W.tb (Fn P W.tb k) fd.body (aM fd.nm.length as fd.dv) {st with S:=[]}) λp=>(uh 0 p.2.2 (p.1.getD (.val .none))).map (ij st.S)
     else
      oO (ex P W.tb (Fn P W.tb k) fd.body (aM fd.nm.length as fd.dv) st) λp=>uh st.S.length p.2.2 (p.1.getD (.val .none)))
    else U
   |none=>U)=O (r,st'):=e
  rw[hfd] at e';refine b9 (ok.fd _ _ hfd) λbody sc hf hm=> ?_
  refine bH (c:=as.length+fd.dv.length=fd.np) e' λhn e'=>xA (c:=dU as) e' (λhno e'=>aI e' λp hex e'=> ?_) λ_ e'=>aI e' λp hex e'=> ?_
  ·refine ak (Jr.mp e') λoz1016 hfr hgb=> ?_
   obtain⟨r0,st2⟩:=oz1016;have V0:=xo V;have rv0:bx s.heap (jK μ) as vs:=gf (μ:=μ) (μ':=jK μ) rfl (λ_=>Iff.rfl) hno rv;have c0:=tK (A:=A) (o:=p.1) (ρ':=p.2.1) (st1:=p.2.2) (st2:=st2) (r:=r0) hf room.rl V0 rv0 hn (λenv s1 F1 V1 hsc=>
    (yK ok (BG ok (oD ok k)) fd.body).2 _ _ _ hex (A.deeper env) env (λx=>sc.names.lookup x) fd.nm s1 (jK μ) body (room.body env) (λy=>by show env.scope.names.lookup y=_;rw[hsc]) F1 V1 hm) hfr
   intro R q;refine c0 R λv h' tk' μ' S p=> ?_
   refine aO (wC V p.2 S) λV' SS=> ?_
   refine q v h' tk' _ SS ?_;have hoff:μ'.off=μ.s.length:=S.off;have hls:=V.ls;have emp:(∀i,r0≠.loc i)→st.S++st2.S=st.S:=λhnl=>by rw[Al hfr hnl,Je]
   cases r0 with
   |loc i=>
    cases hgb;refine aO p λoz1017 _=> ?_
    refine ak oz1017 λa ha oz1022=> ?_
    subst oz1022;refine⟨⟨a,?_,rfl⟩,V'⟩;rw[hoff,hls] at ha;rw[←L2];exact ha
   |val x=>
    cases hgb;rw[emp nofun] at V';exact⟨ay.to (h:=h') (μ:=μ') (h':=h') (μ':=⟨μ'.g,μ'.s,μ.off⟩) (λb o vs n e _ mm=>⟨e,mm⟩) (show ay h' μ' x v from p.1),V'⟩
   |ref x=>
    cases hgb;rw[emp nofun] at V';exact⟨p.1,V'⟩
   |tab x=>
    cases hgb;rw[emp nofun] at V';exact⟨p.1,V'⟩
  ·refine tK (o:=p.1) (ρ':=p.2.1) (st1:=p.2.2) hf room.rl V rv hn (λenv s1 F1 V1 hsc=> ?_) e';exact(yK ok (BG ok (oD ok k)) fd.body).2 _ _ _ hex (A.deeper env) env (λx=>sc.names.lookup x) fd.nm s1 μ body (room.body env) (λy=>by show env.scope.names.lookup y=_;rw[hsc]) F1 V1 hm
section
set_option tactic.hygienic true
noncomputable def qm:Program:=view Jl.prog [185]
noncomputable def ii:List Str:=["_wall","KeepError","TooDeep","HostFault","Y_KEY","Y_BOOL","Y_STR","Y_NUM","Y_ENUM","Y_UNION","Y_INTER","Y_OBJ","Y_REF","Y_PARAM","Y_ARRAY","Y_TUPLE","Y_SIG","Y_KEYOF","Y_INDEX","Y_COND","Y_MAPPED","Y_TPL","Y_ALIAS","ANY","UNKNOWN","NEVER","VOID","UNDEF","NULLT","STRING","NUMBER","FALSE_T","TRUE_T","OBJECTT","EMPTY","BOOLEAN","ERR","FRESH_F","FRESH_T","P_OPT","D_OBJALIAS","FAM_OTHER","FAM_STR","FAM_NUM","FAM_BOOL","FAM_NULL","FAM_UNDEF","FAM_VOID","FAM_OBJ","MAX_UNION","FIRST_ROWS","LITERAL_ROWS","MARKED_ROWS","OBJECT_ROWS","KEY_FAMILIES","TypeTable","Decl","kind_of","str_type","func_type","new_decl","parts_of","whole_of_row","regular_twin","join_bools","stays_beside","top_of","union","add_undef","is_literal","is_unit","is_fresh","regular_one","regular","common_family","meet_family","family","is_nullish_family","MAX_DRAWN","MEET_NEVER","MEET_LEFT","MEET_RIGHT","MEET_BOTH","PRIMITIVE_NAMES","all_units","value_literal","kinds_apart","units_clash","known_decl","body_props","flat_props","shapes_clash","meet_nullish","meet_values","meet_objects","meet_case","lay_on","members_of_meet","meet_parts","meet_two","inter","value_holds","units_fit","may_be_nullish","mapped_may_be_nullish","meet_may_be_nullish","not_nullish","remove_nullish","literal_truth","truthy_of","truthy_part","loose_props","lets_primitive","falsy_of","falsy_part","MOST_PLAIN","PLAIN_ROWS","plain_shape","MOST_ROUNDS","MOST_SHAPES","Thin","RefHost","find_prop","prop_row","calls_of","ctors_of","WHOLES","FAMILY_WORDS","COERCED","NULLISH","plain_value","plain_meets","is_nullish_kind","sharpen","narrow_plain_truthy","nullish_side","unknown_equal","plain_equal_yes","plain_equal_no","narrow_plain_equal","plain_typeof_part","FREE_ROWS","MOST_BOUNDS","PRIMITIVES","narrow_is_primitive","all_primitive","is_loose","part_meets","shape_allows","may_be_function","object_words","narrow_truthy","typeof_part","typeof_free","typeof_within","narrow_typeof","bound_parts","equal_part","unlike_nullish","rest_of_bound","may_hold_nullish","narrow_equal","_law_word","_law_like","_law_true","_law_words","_law_all","_law_draw","_law_kinds","_law_parts","_law_held","_law_passes","_law_blurred","_law_lax","_law_step","_law_test","_law_right"].map Jq
noncomputable abbrev rp:Program:=Jl.row.toRowW.prog
noncomputable def C6:List Stmt:=behindTheImports rp
noncomputable def sA(k:Nat):Stmt:=C6.getD k (.Pass ⟨0,0,0,0⟩)
noncomputable def sB(k j:Nat):Stmt:=match sA k with
 | .ClassDef _ _ _ b .. =>b.getD j (.Pass ⟨0,0,0,0⟩)
 |s=>s
noncomputable abbrev r(a:Nat):Value:= .ref a
noncomputable abbrev vN:Value:= .none
noncomputable def vs(x:String)(t:Nat):Value:= .str (Jq x) t
noncomputable def vi(i:Int)(t:Nat):Value:= .int i t
noncomputable def tu(l:List Value):Obj:={cls:= .type "tuple",data:= .seq ⟨l⟩}
noncomputable def fl(l:List Value):Obj:={cls:= .none,data:= .fields ⟨l⟩}
noncomputable def fo(c:String)(l:List Value):Obj:={cls:= .type c,data:= .fields ⟨l⟩}
noncomputable def cd(n q:String)(t:Nat)(l np fg:Int)(x:Nat)(b:Bool)(i:Int)(d e f g:Value)(v:Nat):Obj:=
 fo "code" [vs n t,vs q (t+1),vs "/claim/cut.py" (t+2),vi l 0,vi np 0,vi 0 0,vi 0 0,vi fg 0,r x,.bool b,vi i 0,r (x+1),d,e,f,g,vi (I9 (v - 1)) 0,vi l 0,vs "/claim/cut.py" v]
noncomputable def cf(n q:String)(t:Nat)(l np:Int)(x v:Nat):Obj:=cd n q t l np 3 x Z 181 vN (r (x+2)) (r (x+3)) (r (x+4)) v
noncomputable def Ig(s:Stmt)(q:String)(g:Nat)(df pm c:Value):Data:=match s with
 | .FunctionDef n a b _ _ _ sc _ _ _=> .func {name:=n,qualname:=Jq q,params:=a,body:= .stmts b,scope:=sc,globals:=g,closure:=[],defaults:=df,kwdefaults:= .none,pyModule:=pm,code:=c}
 |_=> .plain
noncomputable def fn(s:Stmt)(q:String)(g:Nat)(df pm c:Value):Obj:={cls:= .type "function",data:=Ig s q g df pm c}
noncomputable def fz(s:Stmt)(q:String):Obj:={cls:= .none,data:=Ig s q 0 .none .none .none}
noncomputable def de(P:Params)(x:String)(t:Nat)(v:Value):Lm:={hash:=KJ P (Jq x),key:=vs x t,val:=v}
noncomputable def dc(l:List Lm)(k:Nat):Obj:={cls:= .type "dict",data:= .dict ⟨l⟩ k}
noncomputable def dn(l:List Lm)(k:Nat):Obj:={cls:= .none,data:= .dict ⟨l⟩ k}
noncomputable def fr(l:List (Option Value)):Obj:={cls:= .type "frame",slots:=⟨l⟩}
noncomputable def mo(d:Nat):Obj:={cls:= .type "module",dict:=O d}
noncomputable def ct(c:ClassData)(l:List (Option Value)):Obj:={cls:= .type "type",data:= .cls c,slots:=⟨l⟩}
noncomputable def dQ:BT→Nat→List Obj→BT
 |t,_,[]=>t
 |t,n,o::l=>dQ (t.ins n o) (n+1) l
noncomputable def mH:BT→List (Nat×Obj)→BT
 |t,[]=>t
 |t,(a,o)::l=>mH (t.set a λ_=>o) l
noncomputable def TB(P:Params):BT:=dQ .nil 0 [PySem.W.boot_o_0 P,PySem.W.boot_o_1 P,PySem.W.boot_o_2 P,PySem.W.boot_o_3 P,PySem.W.boot_o_4 P,PySem.W.boot_o_5 P,PySem.W.boot_o_6 P,PySem.W.boot_o_7 P,PySem.W.boot_o_8 P,PySem.W.boot_o_9 P,PySem.W.boot_o_10 P]
noncomputable def yz:Env:={scope:=rp.main.scope,locals:=mainNs,globals:=mainNs,cells:=[],code:= .ref 13,frame:=O 14}
noncomputable abbrev A1:Code:= .body C6 yz
noncomputable abbrev q0:Pos:=⟨0,0,0,0⟩
noncomputable abbrev H5:=NG
noncomputable abbrev Gr:=NH
theorem D0: @segRunT= @H5:=NI
theorem xM:M2=Gr:=NJ
noncomputable def Pc(w:World)(T:Params→BT)(n toks:Nat)(pos:Pos)(a c N:Nat)(T':Params→BT)(n' toks':Nat)(pos':Pos):Prop:=
 (λos=>H5 Gr rp w 11 (some (.ref 6)) 1 N (SharedT.mk (T w.params) n {} #[] {} toks os) (piecesOf ((C6.drop a).take c) yz A1 pos [topFrame q0]))=λos=>some (Flow.next,SharedT.mk (T' w.params) n' {} #[] {} toks' os,A1,pos')
noncomputable def e3(P:Params)(nm:Value):List Lm:=[de P "__name__" 165 nm,de P "__doc__" 166 vN,de P "__package__" 167 vN,de P "__loader__" 168 (.builtin "__main__.__loader__#opaque"),de P "__spec__" 169 vN,de P "__annotations__" 170 (r 6),de P "__builtins__" 171 (r 4),de P "__file__" 173 (vs "/claim/cut.py" 172),de P "__cached__" 174 vN,de P "_wall" 193 (r 21),de P "KeepError" 226 (r 39),de P "TooDeep" 255 (r 60),de P "HostFault" 282 (r 80),de P "Y_KEY" 286 (vi 1 285),de P "Y_BOOL" 288 (vi 2 287),de P "Y_STR" 290 (vi 3 289),de P "Y_NUM" 292 (vi 4 291),de P "Y_ENUM" 294 (vi 5 293),de P "Y_UNION" 296 (vi 6 295),de P "Y_INTER" 298 (vi 7 297),de P "Y_OBJ" 300 (vi 8 299),de P "Y_REF" 302 (vi 9 301),de P "Y_PARAM" 304 (vi 10 303),de P "Y_ARRAY" 306 (vi 11 305),de P "Y_TUPLE" 308 (vi 12 307),de P "Y_SIG" 310 (vi 13 309),de P "Y_KEYOF" 312 (vi 14 311),de P "Y_INDEX" 314 (vi 15 313),de P "Y_COND" 316 (vi 16 315),de P "Y_MAPPED" 318 (vi 17 317),de P "Y_TPL" 320 (vi 18 319),de P "Y_ALIAS" 322 (vi 19 321),de P "ANY" 324 (vi 0 323),de P "UNKNOWN" 326 (vi 1 325),de P "NEVER" 328 (vi 2 327),de P "VOID" 330 (vi 3 329),de P "UNDEF" 332 (vi 4 331),de P "NULLT" 334 (vi 5 333),de P "STRING" 336 (vi 6 335),de P "NUMBER" 338 (vi 7 337),de P "FALSE_T" 340 (vi 8 339),de P "TRUE_T" 342 (vi 9 341),de P "OBJECTT" 344 (vi 10 343),de P "EMPTY" 346 (vi 11 345),de P "BOOLEAN" 348 (vi 12 347),de P "ERR" 350 (vi 13 349),de P "FRESH_F" 352 (vi 14 351),de P "FRESH_T" 354 (vi 15 353),de P "P_OPT" 356 (vi 1 355),de P "D_OBJALIAS" 358 (vi 3 357),de P "FAM_OTHER" 360 (vi 0 359),de P "FAM_STR" 362 (vi 1 361),de P "FAM_NUM" 364 (vi 2 363),de P "FAM_BOOL" 366 (vi 3 365),de P "FAM_NULL" 368 (vi 4 367),de P "FAM_UNDEF" 370 (vi 5 369),de P "FAM_VOID" 372 (vi 6 371),de P "FAM_OBJ" 374 (vi 7 373),de P "MAX_UNION" 376 (vi 400 375),de P "FIRST_ROWS" 398 (r 105),de P "LITERAL_ROWS" 399 (r 106),de P "MARKED_ROWS" 400 (r 107),de P "OBJECT_ROWS" 401 (r 108),de P "KEY_FAMILIES" 408 (r 109),de P "TypeTable" 463 (r 140),de P "Decl" 508 (r 161),de P "kind_of" 516 (r 172),de P "str_type" 526 (r 180),de P "func_type" 534 (r 187),de P "new_decl" 544 (r 194),de P "parts_of" 553 (r 201),de P "whole_of_row" 561 (r 208),de P "regular_twin" 570 (r 215),de P "join_bools" 577 (r 222),de P "stays_beside" 586 (r 229),de P "top_of" 594 (r 236),de P "union" 600 (r 241),de P "add_undef" 608 (r 248),de P "is_literal" 616 (r 255),de P "is_unit" 624 (r 262),de P "is_fresh" 633 (r 269),de P "regular_one" 641 (r 276),de P "regular" 647 (r 281),de P "common_family" 653 (r 286),de P "meet_family" 664 (r 293),de P "family" 675 (r 300),de P "is_nullish_family" 682 (r 307),de P "MAX_DRAWN" 686 (vi 200 685),de P "MEET_NEVER" 688 (vi 0 687),de P "MEET_LEFT" 690 (vi 1 689),de P "MEET_RIGHT" 692 (vi 2 691),de P "MEET_BOTH" 694 (vi 3 693),de P "PRIMITIVE_NAMES" 704 (r 308),de P "all_units" 710 (r 313),de P "value_literal" 719 (r 320),de P "kinds_apart" 728 (r 327),de P "units_clash" 734 (r 332),de P "known_decl" 742 (r 339),de P "body_props" 751 (r 346),de P "flat_props" 768 (r 353),de P "shapes_clash" 774 (r 358),de P "meet_nullish" 784 (r 365),de P "meet_values" 795 (r 372),de P "meet_objects" 806 (r 379),de P "meet_case" 817 (r 386),de P "lay_on" 830 (r 393),de P "members_of_meet" 840 (r 400),de P "meet_parts" 846 (r 405),de P "meet_two" 862 (r 412),de P "inter" 873 (r 419),de P "value_holds" 883 (r 426),de P "units_fit" 896 (r 433),de P "may_be_nullish" 909 (r 441),de P "mapped_may_be_nullish" 919 (r 448),de P "meet_may_be_nullish" 925 (r 453),de P "not_nullish" 933 (r 460),de P "remove_nullish" 939 (r 465),de P "literal_truth" 946 (r 472),de P "truthy_of" 954 (r 479),de P "truthy_part" 960 (r 484),de P "loose_props" 973 (r 491),de P "lets_primitive" 979 (r 496),de P "falsy_of" 988 (r 503),de P "falsy_part" 994 (r 508),de P "MOST_PLAIN" 998 (vi 40 997),de P "PLAIN_ROWS" 999 (r 509),de P "plain_shape" 1009 (r 516),de P "MOST_ROUNDS" 1013 (vi 200 1012),de P "MOST_SHAPES" 1015 (vi 40 1014),de P "Thin" 1201 (r 659),de P "RefHost" 1243 (r 694),de P "find_prop" 1252 (r 703),de P "prop_row" 1263 (r 710),de P "calls_of" 1271 (r 717),de P "ctors_of" 1279 (r 724),de P "WHOLES" 1290 (r 725),de P "FAMILY_WORDS" 1305 (r 726),de P "COERCED" 1306 (r 727),de P "NULLISH" 1307 (r 728),de P "plain_value" 1316 (r 735),de P "plain_meets" 1330 (r 742),de P "is_nullish_kind" 1336 (r 747),de P "sharpen" 1342 (r 752),de P "narrow_plain_truthy" 1351 (r 759),de P "nullish_side" 1357 (r 764),de P "unknown_equal" 1363 (r 769),de P "plain_equal_yes" 1369 (r 774),de P "plain_equal_no" 1382 (r 781),de P "narrow_plain_equal" 1393 (r 788),de P "plain_typeof_part" 1404 (r 795),de P "FREE_ROWS" 1407 (r 796),de P "MOST_BOUNDS" 1409 (vi 12 1408),de P "PRIMITIVES" 1410 (r 797),de P "narrow_is_primitive" 1418 (r 804),de P "all_primitive" 1424 (r 809),de P "is_loose" 1430 (r 814),de P "part_meets" 1443 (r 821),de P "shape_allows" 1453 (r 828),de P "may_be_function" 1459 (r 833),de P "object_words" 1471 (r 840),de P "narrow_truthy" 1480 (r 847),de P "typeof_part" 1493 (r 854),de P "typeof_free" 1506 (r 861),de P "typeof_within" 1512 (r 866),de P "narrow_typeof" 1522 (r 873),de P "bound_parts" 1531 (r 880),de P "equal_part" 1537 (r 885),de P "unlike_nullish" 1550 (r 892),de P "rest_of_bound" 1556 (r 897),de P "may_hold_nullish" 1566 (r 904),de P "narrow_equal" 1572 (r 909),de P "_law_word" 1591 (r 910),de P "_law_like" 1608 (r 911),de P "_law_true" 1619 (r 912),de P "_law_words" 1626 (r 913),de P "_law_all" 1643 (r 914),de P "_law_draw" 1651 (r 921),de P "_law_kinds" 1661 (r 928),de P "_law_parts" 1669 (r 935),de P "_law_held" 1680 (r 942),de P "_law_passes" 1686 (r 947),de P "_law_blurred" 1692 (r 952),de P "_law_lax" 1703 (r 959),de P "_law_step" 1713 (r 966),de P "_law_test" 1729 (r 973),de P "_law_right" 1735 (r 978),de P "law" 1741 (r 983)]
noncomputable def IU:List Value:=[(vi 1 0),(vi 0 0),(r 20),(vi 5 0),(vi 0 0),(r 27),(vi 10 0),(vi 0 0),(r 48),(vi 15 0),(vi 0 0),(r 68),(vi 72 0),(vi 0 0),(r 115),(vi 98 0),(vi 0 0),(r 150),(vi 116 0),(vi 0 0),(r 171),(vi 118 0),(vi 0 0),(r 179),(vi 120 0),(vi 0 0),(r 186),(vi 122 0),(vi 0 0),(r 193),(vi 126 0),(vi 0 0),(r 200),(vi 133 0),(vi 0 0),(r 207),(vi 142 0),(vi 0 0),(r 214),(vi 147 0),(vi 0 0),(r 221),(vi 151 0),(vi 0 0),(r 228),(vi 155 0),(vi 0 0),(r 235),(vi 160 0),(vi 0 0),(r 240),(vi 177 0),(vi 0 0),(r 247),(vi 179 0),(vi 0 0),(r 254),(vi 181 0),(vi 0 0),(r 261),(vi 183 0),(vi 0 0),(r 268),(vi 186 0),(vi 0 0),(r 275),(vi 190 0),(vi 0 0),(r 280),(vi 194 0),(vi 0 0),(r 285),(vi 198 0),(vi 0 0),(r 292),(vi 207 0),(vi 0 0),(r 299),(vi 224 0),(vi 0 0),(r 306),(vi 233 0),(vi 0 0),(r 312),(vi 236 0),(vi 0 0),(r 319),(vi 241 0),(vi 0 0),(r 326),(vi 245 0),(vi 0 0),(r 331),(vi 254 0),(vi 0 0),(r 338),(vi 256 0),(vi 0 0),(r 345),(vi 261 0),(vi 0 0),(r 352),(vi 280 0),(vi 0 0),(r 357),(vi 284 0),(vi 0 0),(r 364),(vi 290 0),(vi 0 0),(r 371),(vi 300 0),(vi 0 0),(r 378),(vi 308 0),(vi 0 0),(r 385),(vi 322 0),(vi 0 0),(r 392),(vi 336 0),(vi 0 0),(r 399),(vi 347 0),(vi 0 0),(r 404),(vi 356 0),(vi 0 0),(r 411),(vi 372 0),(vi 0 0),(r 418),(vi 381 0),(vi 0 0),(r 425),(vi 386 0),(vi 0 0),(r 432),(vi 396 0),(vi 0 0),(r 440),(vi 412 0),(vi 0 0),(r 447),(vi 415 0),(vi 0 0),(r 452),(vi 420 0),(vi 0 0),(r 459),(vi 428 0),(vi 0 0),(r 464),(vi 430 0),(vi 0 0),(r 471),(vi 434 0),(vi 0 0),(r 478),(vi 439 0),(vi 0 0),(r 483),(vi 441 0),(vi 0 0),(r 490),(vi 463 0),(vi 0 0),(r 495),(vi 471 0),(vi 0 0),(r 502),(vi 482 0),(vi 0 0),(r 507),(vi 487 0),(vi 0 0),(r 515),(vi 505 0),(vi 0 0),(r 522),(vi 567 0),(vi 0 0),(r 669),(vi 577 0),(vi 0 0),(r 702),(vi 582 0),(vi 0 0),(r 709),(vi 590 0),(vi 0 0),(r 716),(vi 592 0),(vi 0 0),(r 723),(vi 599 0),(vi 0 0),(r 734),(vi 610 0),(vi 0 0),(r 741),(vi 622 0),(vi 0 0),(r 746),(vi 625 0),(vi 0 0),(r 751),(vi 633 0),(vi 0 0),(r 758),(vi 637 0),(vi 0 0),(r 763),(vi 652 0),(vi 0 0),(r 768),(vi 664 0),(vi 0 0),(r 773),(vi 675 0),(vi 0 0),(r 780),(vi 687 0),(vi 0 0),(r 787),(vi 695 0),(vi 0 0),(r 794),(vi 712 0),(vi 0 0),(r 803),(vi 714 0),(vi 0 0),(r 808),(vi 716 0),(vi 0 0),(r 813),(vi 721 0),(vi 0 0),(r 820),(vi 732 0),(vi 0 0),(r 827),(vi 739 0),(vi 0 0),(r 832),(vi 744 0),(vi 0 0),(r 839),(vi 759 0),(vi 0 0),(r 846),(vi 761 0),(vi 0 0),(r 853),(vi 773 0),(vi 0 0),(r 860),(vi 783 0),(vi 0 0),(r 865),(vi 789 0),(vi 0 0),(r 872),(vi 791 0),(vi 0 0),(r 879),(vi 794 0),(vi 0 0),(r 884),(vi 802 0),(vi 0 0),(r 891),(vi 811 0),(vi 0 0),(r 896),(vi 817 0),(vi 0 0),(r 903),(vi 824 0),(vi 0 0),(r 908),(vi 842 0),(vi 0 0),(r 920),(vi 844 0),(vi 0 0),(r 927),(vi 850 0),(vi 0 0),(r 934),(vi 856 0),(vi 0 0),(r 941),(vi 861 0),(vi 0 0),(r 946),(vi 873 0),(vi 0 0),(r 951),(vi 887 0),(vi 0 0),(r 958),(vi 899 0),(vi 0 0),(r 965),(vi 905 0),(vi 0 0),(r 972),(vi 919 0),(vi 0 0),(r 977),(vi 935 0),(vi 0 0),(r 982)]
noncomputable def d3(P:Params)(n:Nat)(nm:Value)(k:Nat):Obj:=dc ((e3 P nm).take n) k
noncomputable def pJ(n:Nat):Obj:=fl (IU.take n)
noncomputable def c0(P:Params):List Obj:=[tu [],pJ 0,cd "<module>" "<module>" 182 1 0 0 11 N 181 vN vN vN vN 186,fr [O (r 13),O (r 3),O (r 3),U,O (vs "__main__" 164),U,O (r 0)]]
noncomputable def T0(P:Params):BT:=mH (dQ (TB P) 11 (c0 P)) []
noncomputable def c1(P:Params):List Obj:=[tu [],
 fl [],
 tu [(vs "k" 190)],
 tu [],
 fz (sA 0) "_wall",
 cf "_wall" "_wall" 187 1 1 15 192,
 fn (sA 0) "_wall" 3 vN (vs "__main__" 164) (r 20),
 tu [(.type "Exception")],
 fo "builtin_function_or_method" [(.builtin "type.__prepare__"),(.type "type")],
 dc [de P "__module__" 203 (vs "kindkeep.diags" 194),de P "__qualname__" 205 (vs "KeepError" 204),de P "__firstlineno__" 207 (vi 5 206),de P "__init__" 216 (r 36),de P "__static_attributes__" 219 (r 37)] 5,
 tu [],
 fl [(vi 7 0),(vi 4 0),(r 35)],
 cd "KeepError" "KeepError" 198 5 0 0 25 N 181 vN vN vN vN 202,
 fr [O (r 27),O (r 3),O (r 24),U,O (vs "kindkeep.diags" 194),U,O (r 0)],
 tu [(vs "" 208)],
 tu [],
 fl [],
 tu [(vs "self" 212),(vs "text" 213)],
 tu [],
 fz (sB 2 0) "KeepError.__init__",
 cf "__init__" "KeepError.__init__" 209 7 2 30 215,
 fn (sB 2 0) "KeepError.__init__" 3 (r 29) (vs "kindkeep.diags" 194) (r 35),
 tu [(vs "number" 217),(vs "text" 218)],
 dc [de P "__module__" 203 (vs "kindkeep.diags" 194),de P "__firstlineno__" 207 (vi 5 206),de P "__init__" 216 (r 36),de P "__static_attributes__" 219 (r 37),de P "__weakref__" 221 (r 40),de P "__doc__" 222 vN] 3,
 ct ⟨"KeepError",[(.type "Exception")],[(r 39),(.type "Exception"),(.type "BaseException"),(.type "object")],38,"KeepError",Z,[],[],N,U,N⟩ [O (r 22),U,O (vs "KeepError" 196),O (vs "KeepError" 204),O (.builtin "Exception.__new__"),O (.bool Z)],
 fo "getset_descriptor" [(vs "__weakref__" 220),(r 39),(.builtin "ExceptionGroup.__weakref__"),vN],
 fo "super" [(r 39),(r 39),(r 39)],
 fo "builtin_function_or_method" [(.builtin "object.__init_subclass__"),(r 39)]]
noncomputable def T1(P:Params):BT:=mH (dQ (T0 P) 15 (c1 P)) [(2,dn [de P "type.__subclasses__.Exception.0" 223 (vi 39 0),de P "type.__subclasses__.Exception.n" 224 (vi 1 0)] 2),(3,d3 P 11 (vs "kindkeep.diags" 194) 11),(12,pJ 6)]
theorem p1:∀w,Pc w T0 15 187 ⟨0,0,0,0⟩ 0 3 270 T1 43 227 ⟨5,0,9,24⟩:=λw=>by show _=_;kernel_rfl
noncomputable def c2(P:Params):List Obj:=[tu [(r 39)],
 fo "builtin_function_or_method" [(.builtin "type.__prepare__"),(.type "type")],
 dc [de P "__module__" 234 (vs "kindkeep.diags" 194),de P "__qualname__" 236 (vs "TooDeep" 235),de P "__firstlineno__" 238 (vi 10 237),de P "__init__" 249 (r 57),de P "__static_attributes__" 252 (r 58)] 5,
 tu [],
 fl [(vi 12 0),(vi 4 0),(r 56)],
 cd "TooDeep" "TooDeep" 229 10 0 0 46 N 181 vN vN vN vN 233,
 fr [O (r 48),O (r 3),O (r 45),U,O (vs "kindkeep.diags" 194),U,O (r 0)],
 tu [(vi 2589 239),(vs "" 240)],
 tu [],
 fl [],
 tu [(vs "self" 244),(vs "number" 245),(vs "text" 246)],
 tu [],
 fz (sB 3 0) "TooDeep.__init__",
 cf "__init__" "TooDeep.__init__" 241 12 3 51 248,
 fn (sB 3 0) "TooDeep.__init__" 3 (r 50) (vs "kindkeep.diags" 194) (r 56),
 tu [(vs "number" 250),(vs "text" 251)],
 dc [de P "__module__" 234 (vs "kindkeep.diags" 194),de P "__firstlineno__" 238 (vi 10 237),de P "__init__" 249 (r 57),de P "__static_attributes__" 252 (r 58),de P "__doc__" 253 vN] 2,
 ct ⟨"TooDeep",[(r 39)],[(r 60),(r 39),(.type "Exception"),(.type "BaseException"),(.type "object")],59,"TooDeep",Z,[],[],N,U,N⟩ [O (r 43),U,O (vs "TooDeep" 227),O (vs "TooDeep" 235),O (.builtin "Exception.__new__"),O (.bool Z)],
 fo "super" [(r 60),(r 60),(r 60)],
 fo "builtin_function_or_method" [(.builtin "object.__init_subclass__"),(r 60)]]
noncomputable def T2(P:Params):BT:=mH (dQ (T1 P) 43 (c2 P)) [(3,d3 P 12 (vs "kindkeep.diags" 194) 12),(12,pJ 9),(39,ct ⟨"KeepError",[(.type "Exception")],[(r 39),(.type "Exception"),(.type "BaseException"),(.type "object")],38,"KeepError",Z,[],[(r 60)],N,U,N⟩ [O (r 22),U,O (vs "KeepError" 196),O (vs "KeepError" 204),O (.builtin "Exception.__new__"),O (.bool Z)])]
theorem p2:∀w,Pc w T1 43 227 ⟨5,0,9,24⟩ 3 1 251 T2 63 256 ⟨10,0,14,24⟩:=λw=>by show _=_;kernel_rfl
noncomputable def c3(P:Params):List Obj:=[tu [(r 39)],
 fo "builtin_function_or_method" [(.builtin "type.__prepare__"),(.type "type")],
 dc [de P "__module__" 263 (vs "kindkeep.diags" 194),de P "__qualname__" 265 (vs "HostFault" 264),de P "__firstlineno__" 267 (vi 15 266),de P "__init__" 276 (r 77),de P "__static_attributes__" 279 (r 78)] 5,
 tu [],
 fl [(vi 17 0),(vi 4 0),(r 76)],
 cd "HostFault" "HostFault" 258 15 0 0 66 N 181 vN vN vN vN 262,
 fr [O (r 68),O (r 3),O (r 65),U,O (vs "kindkeep.diags" 194),U,O (r 0)],
 tu [(vs "" 268)],
 tu [],
 fl [],
 tu [(vs "self" 272),(vs "text" 273)],
 tu [],
 fz (sB 4 0) "HostFault.__init__",
 cf "__init__" "HostFault.__init__" 269 17 2 71 275,
 fn (sB 4 0) "HostFault.__init__" 3 (r 70) (vs "kindkeep.diags" 194) (r 76),
 tu [(vs "number" 277),(vs "text" 278)],
 dc [de P "__module__" 263 (vs "kindkeep.diags" 194),de P "__firstlineno__" 267 (vi 15 266),de P "__init__" 276 (r 77),de P "__static_attributes__" 279 (r 78),de P "__doc__" 280 vN] 2,
 ct ⟨"HostFault",[(r 39)],[(r 80),(r 39),(.type "Exception"),(.type "BaseException"),(.type "object")],79,"HostFault",Z,[],[],N,U,N⟩ [O (r 63),U,O (vs "HostFault" 256),O (vs "HostFault" 264),O (.builtin "Exception.__new__"),O (.bool Z)],
 fo "super" [(r 80),(r 80),(r 80)],
 fo "builtin_function_or_method" [(.builtin "object.__init_subclass__"),(r 80)]]
noncomputable def T3(P:Params):BT:=mH (dQ (T2 P) 63 (c3 P)) [(3,d3 P 31 (vs "kindkeep.types" 283) 31),(12,pJ 12),(39,ct ⟨"KeepError",[(.type "Exception")],[(r 39),(.type "Exception"),(.type "BaseException"),(.type "object")],38,"KeepError",Z,[],[(r 60),(r 80)],N,U,N⟩ [O (r 22),U,O (vs "KeepError" 196),O (vs "KeepError" 204),O (.builtin "Exception.__new__"),O (.bool Z)])]
theorem p3:∀w,Pc w T2 63 256 ⟨10,0,14,24⟩ 4 20 420 T3 83 321 ⟨38,0,38,5⟩:=λw=>by show _=_;kernel_rfl
noncomputable def c4(P:Params):List Obj:=[tu [(vi 1 285),(vs "any" 377)],
 tu [(vi 1 285),(vs "unknown" 378)],
 tu [(vi 1 285),(vs "never" 379)],
 tu [(vi 1 285),(vs "void" 380)],
 tu [(vi 1 285),(vs "undefined" 381)],
 tu [(vi 1 285),(vs "null" 382)],
 tu [(vi 1 285),(vs "string" 383)],
 tu [(vi 1 285),(vs "number" 384)],
 tu [(vi 2 287),(vi 0 385),(vi 0 386)],
 tu [(vi 2 287),(vi 1 387),(vi 0 388)],
 tu [(vi 1 285),(vs "object" 389)],
 tu [],
 tu [],
 tu [],
 tu [],
 tu [],
 tu [(vi 8 299),(r 94),(r 95),(r 96),(r 97),(r 98),(vi 0 390)],
 tu [(vi 8 391),(vi 9 392)],
 tu [(vi 6 295),(r 100)],
 tu [(vi 1 285),(vs "error" 393)],
 tu [(vi 2 287),(vi 0 394),(vi 1 395)],
 tu [(vi 2 287),(vi 1 396),(vi 1 397)],
 tu [(r 83),(r 84),(r 85),(r 86),(r 87),(r 88),(r 89),(r 90),(r 91),(r 92),(r 93),(r 99),(r 101),(r 102),(r 103),(r 104)],
 tu [(vi 2 287),(vi 3 289),(vi 4 291),(vi 5 293)],
 tu [(vi 2 287),(vi 3 289),(vi 4 291),(vi 5 293),(vi 8 299)],
 tu [(vi 8 299),(vi 9 301),(vi 11 305),(vi 12 307),(vi 13 309)]]
noncomputable def T4(P:Params):BT:=mH (dQ (T3 P) 83 (c4 P)) [(3,d3 P 63 (vs "kindkeep.types" 283) 63)]
theorem p4:∀w,Pc w T3 83 321 ⟨38,0,38,5⟩ 24 32 418 T4 109 402 ⟨70,0,70,11⟩:=λw=>by show _=_;kernel_rfl
noncomputable def c5(P:Params):List Obj:=[dc [⟨3,(vi 3 329),(vi 6 371)⟩,⟨4,(vi 4 331),(vi 5 369)⟩,⟨5,(vi 5 333),(vi 4 367)⟩,⟨6,(vi 6 335),(vi 1 361)⟩,⟨7,(vi 7 337),(vi 2 363)⟩,⟨10,(vi 10 343),(vi 7 373)⟩] 6]
noncomputable def T5(P:Params):BT:=mH (dQ (T4 P) 109 (c5 P)) [(3,d3 P 64 (vs "kindkeep.types" 283) 64)]
theorem p5:∀w,Pc w T4 109 402 ⟨70,0,70,11⟩ 56 1 101 T5 110 409 ⟨71,0,71,12⟩:=byRow2 "special-get-raises" (λw=>by show _=_;kernel_rfl) (λw=>by show _=_;kernel_rfl)
noncomputable def c6(P:Params):List Obj:=[tu [],
 fo "builtin_function_or_method" [(.builtin "type.__prepare__"),(.type "type")],
 dc [de P "__module__" 416 (vs "kindkeep.types" 283),de P "__qualname__" 418 (vs "TypeTable" 417),de P "__firstlineno__" 420 (vi 72 419),de P "__init__" 428 (r 123),de P "row" 436 (r 130),de P "put" 445 (r 137),de P "__static_attributes__" 456 (r 138)] 7,
 tu [],
 fl [(vi 74 0),(vi 4 0),(r 122),(vi 88 0),(vi 4 0),(r 129),(vi 91 0),(vi 4 0),(r 136)],
 cd "TypeTable" "TypeTable" 411 72 0 0 113 N 181 vN vN vN vN 415,
 fr [O (r 115),O (r 3),O (r 112),U,O (vs "kindkeep.types" 283),U,O (r 0)],
 tu [],
 fl [],
 tu [(vs "self" 424),(vs "row" 425)],
 tu [],
 fz (sB 57 0) "TypeTable.__init__",
 cf "__init__" "TypeTable.__init__" 421 74 1 117 427,
 fn (sB 57 0) "TypeTable.__init__" 3 vN (vs "kindkeep.types" 283) (r 122),
 tu [],
 fl [],
 tu [(vs "self" 432),(vs "t" 433)],
 tu [],
 fz (sB 57 1) "TypeTable.row",
 cf "row" "TypeTable.row" 429 88 2 124 435,
 fn (sB 57 1) "TypeTable.row" 3 vN (vs "kindkeep.types" 283) (r 129),
 tu [],
 fl [],
 tu [(vs "self" 440),(vs "row" 441),(vs "t" 442)],
 tu [],
 fz (sB 57 2) "TypeTable.put",
 cf "put" "TypeTable.put" 437 91 2 131 444,
 fn (sB 57 2) "TypeTable.put" 3 vN (vs "kindkeep.types" 283) (r 136),
 tu [(vs "bounds" 446),(vs "decls" 447),(vs "defaults" 448),(vs "index" 449),(vs "names" 450),(vs "origins" 451),(vs "putting" 452),(vs "renamed" 453),(vs "rows" 454),(vs "shaping" 455)],
 dc [de P "__module__" 416 (vs "kindkeep.types" 283),de P "__firstlineno__" 420 (vi 72 419),de P "__init__" 428 (r 123),de P "row" 436 (r 130),de P "put" 445 (r 137),de P "__static_attributes__" 456 (r 138),de P "__dict__" 458 (r 141),de P "__weakref__" 460 (r 142),de P "__doc__" 461 vN] 4,
 ct ⟨"TypeTable",[(.type "object")],[(r 140),(.type "object")],139,"TypeTable",Z,[],[],N,U,N⟩ [U,U,O (vs "TypeTable" 409),O (vs "TypeTable" 417),O (.builtin "object.__new__"),O (.bool Z)],
 fo "getset_descriptor" [(vs "__dict__" 457),(r 140),(.builtin "function.__dict__"),(.builtin "function.__dict__#set")],
 fo "getset_descriptor" [(vs "__weakref__" 459),(r 140),(.builtin "ExceptionGroup.__weakref__"),vN],
 fo "super" [(r 140),(r 140),(r 140)],
 fo "builtin_function_or_method" [(.builtin "object.__init_subclass__"),(r 140)]]
noncomputable def T6(P:Params):BT:=mH (dQ (T5 P) 110 (c6 P)) [(3,d3 P 65 (vs "kindkeep.types" 283) 65),(12,pJ 15)]
theorem p6:∀w,Pc w T5 110 409 ⟨71,0,71,12⟩ 57 1 297 T6 145 464 ⟨72,0,97,16⟩:=λw=>by show _=_;kernel_rfl
noncomputable def c7(P:Params):List Obj:=[tu [],
 fo "builtin_function_or_method" [(.builtin "type.__prepare__"),(.type "type")],
 dc [de P "__module__" 471 (vs "kindkeep.types" 283),de P "__qualname__" 473 (vs "Decl" 472),de P "__firstlineno__" 475 (vi 98 474),de P "__init__" 485 (r 158),de P "__static_attributes__" 501 (r 159)] 5,
 tu [],
 fl [(vi 100 0),(vi 4 0),(r 157)],
 cd "Decl" "Decl" 466 98 0 0 148 N 181 vN vN vN vN 470,
 fr [O (r 150),O (r 3),O (r 147),U,O (vs "kindkeep.types" 283),U,O (r 0)],
 tu [],
 fl [],
 tu [(vs "self" 479),(vs "did" 480),(vs "kind" 481),(vs "name" 482)],
 tu [],
 fz (sB 58 0) "Decl.__init__",
 cf "__init__" "Decl.__init__" 476 100 4 152 484,
 fn (sB 58 0) "Decl.__init__" 3 vN (vs "kindkeep.types" 283) (r 157),
 tu [(vs "abstract" 486),(vs "at" 487),(vs "bases" 488),(vs "body" 489),(vs "busy" 490),(vs "did" 491),(vs "extends_class" 492),(vs "file" 493),(vs "kind" 494),(vs "members" 495),(vs "name" 496),(vs "nid" 497),(vs "params" 498),(vs "static" 499),(vs "variances" 500)],
 dc [de P "__module__" 471 (vs "kindkeep.types" 283),de P "__firstlineno__" 475 (vi 98 474),de P "__init__" 485 (r 158),de P "__static_attributes__" 501 (r 159),de P "__dict__" 503 (r 162),de P "__weakref__" 505 (r 163),de P "__doc__" 506 vN] 4,
 ct ⟨"Decl",[(.type "object")],[(r 161),(.type "object")],160,"Decl",Z,[],[],N,U,N⟩ [U,U,O (vs "Decl" 464),O (vs "Decl" 472),O (.builtin "object.__new__"),O (.bool Z)],
 fo "getset_descriptor" [(vs "__dict__" 502),(r 161),(.builtin "function.__dict__"),(.builtin "function.__dict__#set")],
 fo "getset_descriptor" [(vs "__weakref__" 504),(r 161),(.builtin "ExceptionGroup.__weakref__"),vN],
 fo "super" [(r 161),(r 161),(r 161)],
 fo "builtin_function_or_method" [(.builtin "object.__init_subclass__"),(r 161)],
 tu [],
 fl [],
 tu [(vs "tab" 512),(vs "t" 513)],
 tu [],
 fz (sA 59) "kind_of",
 cf "kind_of" "kind_of" 509 116 2 166 515,
 fn (sA 59) "kind_of" 3 vN (vs "kindkeep.types" 283) (r 171),
 tu [(vi 0 517)],
 tu [],
 fl [],
 tu [(vs "tab" 521),(vs "text" 522),(vs "fresh" 523)],
 tu [],
 fz (sA 60) "str_type",
 cf "str_type" "str_type" 518 118 3 174 525,
 fn (sA 60) "str_type" 3 (r 173) (vs "kindkeep.types" 283) (r 179),
 tu [],
 fl [],
 tu [(vs "tab" 530),(vs "sig" 531)],
 tu [],
 fz (sA 61) "func_type",
 cf "func_type" "func_type" 527 120 2 181 533,
 fn (sA 61) "func_type" 3 vN (vs "kindkeep.types" 283) (r 186),
 tu [],
 fl [],
 tu [(vs "tab" 538),(vs "kind" 539),(vs "name" 540),(vs "decl" 541)],
 tu [],
 fz (sA 62) "new_decl",
 cf "new_decl" "new_decl" 535 122 3 188 543,
 fn (sA 62) "new_decl" 3 vN (vs "kindkeep.types" 283) (r 193),
 tu [],
 fl [],
 tu [(vs "tab" 548),(vs "t" 549),(vs "row" 550)],
 tu [],
 fz (sA 63) "parts_of",
 cf "parts_of" "parts_of" 545 126 2 195 552,
 fn (sA 63) "parts_of" 3 vN (vs "kindkeep.types" 283) (r 200)]
noncomputable def T7(P:Params):BT:=mH (dQ (T6 P) 145 (c7 P)) [(3,d3 P 71 (vs "kindkeep.types" 283) 71),(12,pJ 33)]
theorem p7:∀w,Pc w T6 145 464 ⟨72,0,97,16⟩ 58 6 395 T7 202 554 ⟨126,0,132,15⟩:=λw=>by show _=_;kernel_rfl
noncomputable def c8(P:Params):List Obj:=[tu [],
 fl [],
 tu [(vs "row" 557),(vs "kind" 558)],
 tu [],
 fz (sA 64) "whole_of_row",
 cf "whole_of_row" "whole_of_row" 554 133 1 202 560,
 fn (sA 64) "whole_of_row" 3 vN (vs "kindkeep.types" 283) (r 207),
 tu [],
 fl [],
 tu [(vs "tab" 565),(vs "t" 566),(vs "row" 567)],
 tu [],
 fz (sA 65) "regular_twin",
 cf "regular_twin" "regular_twin" 562 142 2 209 569,
 fn (sA 65) "regular_twin" 3 vN (vs "kindkeep.types" 283) (r 214),
 tu [],
 fl [],
 tu [(vs "got" 574)],
 tu [],
 fz (sA 66) "join_bools",
 cf "join_bools" "join_bools" 571 147 1 216 576,
 fn (sA 66) "join_bools" 3 vN (vs "kindkeep.types" 283) (r 221),
 tu [],
 fl [],
 tu [(vs "tab" 581),(vs "got" 582),(vs "t" 583)],
 tu [],
 fz (sA 67) "stays_beside",
 cf "stays_beside" "stays_beside" 578 151 3 223 585,
 fn (sA 67) "stays_beside" 3 vN (vs "kindkeep.types" 283) (r 228),
 tu [],
 fl [],
 tu [(vs "got" 590),(vs "t" 591)],
 tu [],
 fz (sA 68) "top_of",
 cf "top_of" "top_of" 587 155 1 230 593,
 fn (sA 68) "top_of" 3 vN (vs "kindkeep.types" 283) (r 235),
 tu [],
 fl [],
 fz (sA 69) "union",
 cd "union" "union" 595 160 2 3 237 Z 181 vN vN vN (r 239) 599,
 fn (sA 69) "union" 3 vN (vs "kindkeep.types" 283) (r 240),
 tu [],
 fl [],
 tu [(vs "tab" 604),(vs "t" 605)],
 tu [],
 fz (sA 70) "add_undef",
 cf "add_undef" "add_undef" 601 177 2 242 607,
 fn (sA 70) "add_undef" 3 vN (vs "kindkeep.types" 283) (r 247),
 tu [],
 fl [],
 tu [(vs "tab" 612),(vs "t" 613)],
 tu [],
 fz (sA 71) "is_literal",
 cf "is_literal" "is_literal" 609 179 2 249 615,
 fn (sA 71) "is_literal" 3 vN (vs "kindkeep.types" 283) (r 254),
 tu [],
 fl [],
 tu [(vs "tab" 620),(vs "t" 621)],
 tu [],
 fz (sA 72) "is_unit",
 cf "is_unit" "is_unit" 617 181 2 256 623,
 fn (sA 72) "is_unit" 3 vN (vs "kindkeep.types" 283) (r 261),
 tu [],
 fl [],
 tu [(vs "tab" 628),(vs "t" 629),(vs "row" 630)],
 tu [],
 fz (sA 73) "is_fresh",
 cf "is_fresh" "is_fresh" 625 183 2 263 632,
 fn (sA 73) "is_fresh" 3 vN (vs "kindkeep.types" 283) (r 268),
 tu [],
 fl [],
 tu [(vs "tab" 637),(vs "t" 638)],
 tu [],
 fz (sA 74) "regular_one",
 cf "regular_one" "regular_one" 634 186 2 270 640,
 fn (sA 74) "regular_one" 3 vN (vs "kindkeep.types" 283) (r 275),
 tu [],
 fl [],
 fz (sA 75) "regular",
 cd "regular" "regular" 642 190 2 3 277 Z 181 vN vN vN (r 279) 646,
 fn (sA 75) "regular" 3 vN (vs "kindkeep.types" 283) (r 280),
 tu [],
 fl [],
 fz (sA 76) "common_family",
 cd "common_family" "common_family" 648 194 2 3 282 Z 181 vN vN vN (r 284) 652,
 fn (sA 76) "common_family" 3 vN (vs "kindkeep.types" 283) (r 285),
 tu [],
 fl [],
 tu [(vs "tab" 657),(vs "parts" 658),(vs "found" 659),(vs "part" 660),(vs "fam" 661)],
 tu [],
 fz (sA 77) "meet_family",
 cf "meet_family" "meet_family" 654 198 2 287 663,
 fn (sA 77) "meet_family" 3 vN (vs "kindkeep.types" 283) (r 292)]
noncomputable def T8(P:Params):BT:=mH (dQ (T7 P) 202 (c8 P)) [(3,d3 P 85 (vs "kindkeep.types" 283) 85),(12,pJ 75)]
theorem p8:∀w,Pc w T7 202 554 ⟨126,0,132,15⟩ 64 14 414 T8 294 665 ⟨198,0,206,16⟩:=λw=>by show _=_;kernel_rfl
noncomputable def c9(P:Params):List Obj:=[tu [],
 fl [],
 tu [(vs "tab" 668),(vs "t" 669),(vs "row" 670),(vs "kind" 671),(vs "whole" 672)],
 tu [],
 fz (sA 78) "family",
 cf "family" "family" 665 207 2 294 674,
 fn (sA 78) "family" 3 vN (vs "kindkeep.types" 283) (r 299),
 tu [],
 fl [],
 tu [(vs "fam" 679)],
 tu [],
 fz (sA 79) "is_nullish_family",
 cf "is_nullish_family" "is_nullish_family" 676 224 1 301 681,
 fn (sA 79) "is_nullish_family" 3 vN (vs "kindkeep.types" 283) (r 306),
 tu [(vs "charAt" 695),(vs "concat" 696),(vs "includes" 697),(vs "indexOf" 698),(vs "length" 699),(vs "slice" 700),(vs "toLowerCase" 701),(vs "toString" 702),(vs "toUpperCase" 703)],
 tu [],
 fl [],
 fz (sA 87) "all_units",
 cd "all_units" "all_units" 705 233 2 3 309 Z 181 vN vN vN (r 311) 709,
 fn (sA 87) "all_units" 3 vN (vs "kindkeep.typeops" 683) (r 312),
 tu [],
 fl [],
 tu [(vs "tab" 714),(vs "t" 715),(vs "row" 716)],
 tu [],
 fz (sA 88) "value_literal",
 cf "value_literal" "value_literal" 711 236 2 314 718,
 fn (sA 88) "value_literal" 3 vN (vs "kindkeep.typeops" 683) (r 319),
 tu [],
 fl [],
 tu [(vs "tab" 723),(vs "s" 724),(vs "t" 725)],
 tu [],
 fz (sA 89) "kinds_apart",
 cf "kinds_apart" "kinds_apart" 720 241 3 321 727,
 fn (sA 89) "kinds_apart" 3 vN (vs "kindkeep.typeops" 683) (r 326),
 tu [],
 fl [],
 fz (sA 90) "units_clash",
 cd "units_clash" "units_clash" 729 245 3 3 328 Z 181 vN vN vN (r 330) 733,
 fn (sA 90) "units_clash" 3 vN (vs "kindkeep.typeops" 683) (r 331),
 tu [],
 fl [],
 tu [(vs "tab" 738),(vs "row" 739)],
 tu [],
 fz (sA 91) "known_decl",
 cf "known_decl" "known_decl" 735 254 2 333 741,
 fn (sA 91) "known_decl" 3 vN (vs "kindkeep.typeops" 683) (r 338),
 tu [],
 fl [],
 tu [(vs "tab" 746),(vs "row" 747),(vs "decl" 748)],
 tu [],
 fz (sA 92) "body_props",
 cf "body_props" "body_props" 743 256 2 340 750,
 fn (sA 92) "body_props" 3 vN (vs "kindkeep.typeops" 683) (r 345),
 tu [],
 fl [],
 tu [(vs "tab" 755),(vs "t" 756),(vs "out" 757),(vs "seen" 758),(vs "waiting" 759),(vs "at" 760),(vs "row" 761),(vs "props" 762),(vs "bases" 763),(vs "prop" 764),(vs "base" 765)],
 tu [],
 fz (sA 93) "flat_props",
 cf "flat_props" "flat_props" 752 261 2 347 767,
 fn (sA 93) "flat_props" 3 vN (vs "kindkeep.typeops" 683) (r 352),
 tu [],
 fl [],
 fz (sA 94) "shapes_clash",
 cd "shapes_clash" "shapes_clash" 769 280 3 3 354 Z 181 vN vN vN (r 356) 773,
 fn (sA 94) "shapes_clash" 3 vN (vs "kindkeep.typeops" 683) (r 357),
 tu [],
 fl [],
 tu [(vs "s" 778),(vs "t" 779),(vs "fs" 780),(vs "ft" 781)],
 tu [],
 fz (sA 95) "meet_nullish",
 cf "meet_nullish" "meet_nullish" 775 284 4 359 783,
 fn (sA 95) "meet_nullish" 3 vN (vs "kindkeep.typeops" 683) (r 364)]
noncomputable def T9(P:Params):BT:=mH (dQ (T8 P) 294 (c9 P)) [(3,d3 P 102 (vs "kindkeep.typeops" 683) 102),(12,pJ 108)]
theorem p9:∀w,Pc w T8 294 665 ⟨198,0,206,16⟩ 78 18 408 T9 366 785 ⟨284,0,289,21⟩:=λw=>by show _=_;kernel_rfl
noncomputable def IM(P:Params):List Obj:=[tu [],
 fl [],
 tu [(vs "tab" 788),(vs "s" 789),(vs "t" 790),(vs "fs" 791),(vs "ft" 792)],
 tu [],
 fz (sA 96) "meet_values",
 cf "meet_values" "meet_values" 785 290 5 366 794,
 fn (sA 96) "meet_values" 3 vN (vs "kindkeep.typeops" 683) (r 371),
 tu [],
 fl [],
 tu [(vs "tab" 799),(vs "s" 800),(vs "t" 801),(vs "fs" 802),(vs "ft" 803)],
 tu [],
 fz (sA 97) "meet_objects",
 cf "meet_objects" "meet_objects" 796 300 5 373 805,
 fn (sA 97) "meet_objects" 3 vN (vs "kindkeep.typeops" 683) (r 378),
 tu [],
 fl [],
 tu [(vs "tab" 810),(vs "s" 811),(vs "t" 812),(vs "fs" 813),(vs "ft" 814)],
 tu [],
 fz (sA 98) "meet_case",
 cf "meet_case" "meet_case" 807 308 3 380 816,
 fn (sA 98) "meet_case" 3 vN (vs "kindkeep.typeops" 683) (r 385),
 tu [],
 fl [],
 tu [(vs "tab" 821),(vs "kept" 822),(vs "t" 823),(vs "out" 824),(vs "held" 825),(vs "one" 826),(vs "case" 827)],
 tu [],
 fz (sA 99) "lay_on",
 cf "lay_on" "lay_on" 818 322 3 387 829,
 fn (sA 99) "lay_on" 3 vN (vs "kindkeep.typeops" 683) (r 392),
 tu [],
 fl [],
 tu [(vs "tab" 834),(vs "t" 835),(vs "row" 836),(vs "decl" 837)],
 tu [],
 fz (sA 100) "members_of_meet",
 cf "members_of_meet" "members_of_meet" 831 336 2 394 839,
 fn (sA 100) "members_of_meet" 3 vN (vs "kindkeep.typeops" 683) (r 399),
 tu [],
 fl [],
 fz (sA 101) "meet_parts",
 cd "meet_parts" "meet_parts" 841 347 3 3 401 Z 181 vN vN vN (r 403) 845,
 fn (sA 101) "meet_parts" 3 vN (vs "kindkeep.typeops" 683) (r 404),
 tu [],
 fl [],
 tu [(vs "tab" 850),(vs "s" 851),(vs "t" 852),(vs "found" 853),(vs "left" 854),(vs "right" 855),(vs "crossed" 856),(vs "one" 857),(vs "other" 858),(vs "met" 859)],
 tu [],
 fz (sA 102) "meet_two",
 cf "meet_two" "meet_two" 847 356 3 406 861,
 fn (sA 102) "meet_two" 3 vN (vs "kindkeep.typeops" 683) (r 411),
 tu [],
 fl [],
 tu [(vs "tab" 866),(vs "parts" 867),(vs "t" 868),(vs "out" 869),(vs "place" 870)],
 tu [],
 fz (sA 103) "inter",
 cf "inter" "inter" 863 372 2 413 872,
 fn (sA 103) "inter" 3 vN (vs "kindkeep.typeops" 683) (r 418),
 tu [],
 fl [],
 tu [(vs "tab" 877),(vs "row" 878),(vs "parts" 879),(vs "kind" 880)],
 tu [],
 fz (sA 104) "value_holds",
 cf "value_holds" "value_holds" 874 381 3 420 882,
 fn (sA 104) "value_holds" 3 vN (vs "kindkeep.typeops" 683) (r 425),
 tu [],
 fl [],
 tu [(vs "tab" 887),(vs "s" 888),(vs "t" 889),(vs "parts" 890),(vs "part" 891),(vs "row" 892),(vs "held" 893)],
 tu [],
 fz (sA 105) "units_fit",
 cf "units_fit" "units_fit" 884 386 3 427 895,
 fn (sA 105) "units_fit" 3 vN (vs "kindkeep.typeops" 683) (r 432),
 tu [(vi 0 897)],
 tu [],
 fl [],
 tu [(vs "tab" 901),(vs "t" 902),(vs "deep" 903),(vs "part" 904),(vs "row" 905),(vs "bound" 906)],
 tu [],
 fz (sA 106) "may_be_nullish",
 cf "may_be_nullish" "may_be_nullish" 898 396 3 435 908,
 fn (sA 106) "may_be_nullish" 3 (r 434) (vs "kindkeep.typeops" 683) (r 440),
 tu [],
 fl [],
 tu [(vs "tab" 913),(vs "row" 914),(vs "deep" 915),(vs "keys" 916)],
 tu [],
 fz (sA 107) "mapped_may_be_nullish",
 cf "mapped_may_be_nullish" "mapped_may_be_nullish" 910 412 3 442 918,
 fn (sA 107) "mapped_may_be_nullish" 3 vN (vs "kindkeep.typeops" 683) (r 447)]
noncomputable def Hq(P:Params):BT:=mH (dQ (T9 P) 366 (IM P)) [(3,d3 P 114 (vs "kindkeep.typeops" 683) 114),(12,pJ 144)]
theorem IO:∀w,Pc w T9 366 785 ⟨284,0,289,21⟩ 96 12 399 Hq 449 920 ⟨412,0,414,87⟩:=λw=>by show _=_;kernel_rfl
noncomputable def FP(P:Params):List Obj:=[tu [],
 fl [],
 fz (sA 108) "meet_may_be_nullish",
 cd "meet_may_be_nullish" "meet_may_be_nullish" 920 415 3 3 449 Z 181 vN vN vN (r 451) 924,
 fn (sA 108) "meet_may_be_nullish" 3 vN (vs "kindkeep.typeops" 683) (r 452),
 tu [],
 fl [],
 tu [(vs "tab" 929),(vs "t" 930)],
 tu [],
 fz (sA 109) "not_nullish",
 cf "not_nullish" "not_nullish" 926 420 2 454 932,
 fn (sA 109) "not_nullish" 3 vN (vs "kindkeep.typeops" 683) (r 459),
 tu [],
 fl [],
 fz (sA 110) "remove_nullish",
 cd "remove_nullish" "remove_nullish" 934 428 2 3 461 Z 181 vN vN vN (r 463) 938,
 fn (sA 110) "remove_nullish" 3 vN (vs "kindkeep.typeops" 683) (r 464),
 tu [],
 fl [],
 tu [(vs "row" 943)],
 tu [],
 fz (sA 111) "literal_truth",
 cf "literal_truth" "literal_truth" 940 430 1 466 945,
 fn (sA 111) "literal_truth" 3 vN (vs "kindkeep.typeops" 683) (r 471),
 tu [],
 fl [],
 tu [(vs "tab" 950),(vs "t" 951)],
 tu [],
 fz (sA 112) "truthy_of",
 cf "truthy_of" "truthy_of" 947 434 2 473 953,
 fn (sA 112) "truthy_of" 3 vN (vs "kindkeep.typeops" 683) (r 478),
 tu [],
 fl [],
 fz (sA 113) "truthy_part",
 cd "truthy_part" "truthy_part" 955 439 2 3 480 Z 181 vN vN vN (r 482) 959,
 fn (sA 113) "truthy_part" 3 vN (vs "kindkeep.typeops" 683) (r 483),
 tu [],
 fl [],
 tu [(vs "tab" 964),(vs "t" 965),(vs "out" 966),(vs "seen" 967),(vs "waiting" 968),(vs "at" 969),(vs "row" 970)],
 tu [],
 fz (sA 114) "loose_props",
 cf "loose_props" "loose_props" 961 441 2 485 972,
 fn (sA 114) "loose_props" 3 vN (vs "kindkeep.typeops" 683) (r 490),
 tu [],
 fl [],
 fz (sA 115) "lets_primitive",
 cd "lets_primitive" "lets_primitive" 974 463 2 3 492 Z 181 vN vN vN (r 494) 978,
 fn (sA 115) "lets_primitive" 3 vN (vs "kindkeep.typeops" 683) (r 495),
 tu [],
 fl [],
 tu [(vs "tab" 983),(vs "t" 984),(vs "row" 985)],
 tu [],
 fz (sA 116) "falsy_of",
 cf "falsy_of" "falsy_of" 980 471 2 497 987,
 fn (sA 116) "falsy_of" 3 vN (vs "kindkeep.typeops" 683) (r 502),
 tu [],
 fl [],
 fz (sA 117) "falsy_part",
 cd "falsy_part" "falsy_part" 989 482 2 3 504 Z 181 vN vN vN (r 506) 993,
 fn (sA 117) "falsy_part" 3 vN (vs "kindkeep.typeops" 683) (r 507),
 tu [(vi 1 285),(vi 2 287),(vi 3 289),(vi 4 291),(vi 5 293)],
 tu [],
 fl [],
 tu [(vs "tab" 1003),(vs "t" 1004),(vs "turn" 1005),(vs "row" 1006)],
 tu [],
 fz (sA 121) "plain_shape",
 cf "plain_shape" "plain_shape" 1000 487 2 510 1008,
 fn (sA 121) "plain_shape" 3 vN (vs "kindkeep.shapes" 995) (r 515)]
noncomputable def Hu(P:Params):BT:=mH (dQ (Hq P) 449 (FP P)) [(3,d3 P 129 (vs "kindkeep.hosts" 1010) 129),(12,pJ 177)]
theorem IP:∀w,Pc w Hq 449 920 ⟨412,0,414,87⟩ 108 17 383 Hu 517 1016 ⟨504,0,504,11⟩:=λw=>by show _=_;kernel_rfl
noncomputable def IZ(P:Params):List Obj:=[tu [],
 fo "builtin_function_or_method" [(.builtin "type.__prepare__"),(.type "type")],
 dc [de P "__module__" 1023 (vs "kindkeep.hosts" 1010),de P "__qualname__" 1025 (vs "Thin" 1024),de P "__firstlineno__" 1027 (vi 505 1026),de P "__init__" 1035 (r 530),de P "force" 1043 (r 537),de P "put_deferred" 1051 (r 544),de P "put_cond" 1060 (r 551),de P "lay_row" 1069 (r 558),de P "bound" 1077 (r 565),de P "shape" 1085 (r 572),de P "fits" 1094 (r 579),de P "lies" 1103 (r 586),de P "infers" 1113 (r 593),de P "tpl_fits" 1122 (r 600),de P "shape_fits" 1131 (r 607),de P "put_in" 1140 (r 614),de P "own_sig" 1149 (r 621),de P "forget" 1156 (r 628),de P "list_prop" 1165 (r 635),de P "list_index" 1173 (r 642),de P "elem_met" 1181 (r 649),de P "error_class" 1188 (r 656),de P "__static_attributes__" 1194 (r 657)] 23,
 tu [],
 fl [(vi 507 0),(vi 4 0),(r 529),(vi 514 0),(vi 4 0),(r 536),(vi 517 0),(vi 4 0),(r 543),(vi 520 0),(vi 4 0),(r 550),(vi 523 0),(vi 4 0),(r 557),(vi 526 0),(vi 4 0),(r 564),(vi 529 0),(vi 4 0),(r 571),(vi 532 0),(vi 4 0),(r 578),(vi 535 0),(vi 4 0),(r 585),(vi 538 0),(vi 4 0),(r 592),(vi 541 0),(vi 4 0),(r 599),(vi 544 0),(vi 4 0),(r 606),(vi 547 0),(vi 4 0),(r 613),(vi 550 0),(vi 4 0),(r 620),(vi 553 0),(vi 4 0),(r 627),(vi 556 0),(vi 4 0),(r 634),(vi 559 0),(vi 4 0),(r 641),(vi 562 0),(vi 4 0),(r 648),(vi 565 0),(vi 4 0),(r 655)],
 cd "Thin" "Thin" 1018 505 0 0 520 N 181 vN vN vN vN 1022,
 fr [O (r 522),O (r 3),O (r 519),U,O (vs "kindkeep.hosts" 1010),U,O (r 0)],
 tu [],
 fl [],
 tu [(vs "self" 1031),(vs "tab" 1032)],
 tu [],
 fz (sB 125 0) "Thin.__init__",
 cf "__init__" "Thin.__init__" 1028 507 2 524 1034,
 fn (sB 125 0) "Thin.__init__" 3 vN (vs "kindkeep.hosts" 1010) (r 529),
 tu [],
 fl [],
 tu [(vs "self" 1039),(vs "t" 1040)],
 tu [],
 fz (sB 125 1) "Thin.force",
 cf "force" "Thin.force" 1036 514 2 531 1042,
 fn (sB 125 1) "Thin.force" 3 vN (vs "kindkeep.hosts" 1010) (r 536),
 tu [],
 fl [],
 tu [(vs "self" 1047),(vs "row" 1048)],
 tu [],
 fz (sB 125 2) "Thin.put_deferred",
 cf "put_deferred" "Thin.put_deferred" 1044 517 2 538 1050,
 fn (sB 125 2) "Thin.put_deferred" 3 vN (vs "kindkeep.hosts" 1010) (r 543),
 tu [],
 fl [],
 tu [(vs "self" 1055),(vs "row" 1056),(vs "mapping" 1057)],
 tu [],
 fz (sB 125 3) "Thin.put_cond",
 cf "put_cond" "Thin.put_cond" 1052 520 3 545 1059,
 fn (sB 125 3) "Thin.put_cond" 3 vN (vs "kindkeep.hosts" 1010) (r 550),
 tu [],
 fl [],
 tu [(vs "self" 1064),(vs "row" 1065),(vs "mapping" 1066)],
 tu [],
 fz (sB 125 4) "Thin.lay_row",
 cf "lay_row" "Thin.lay_row" 1061 523 3 552 1068,
 fn (sB 125 4) "Thin.lay_row" 3 vN (vs "kindkeep.hosts" 1010) (r 557),
 tu [],
 fl [],
 tu [(vs "self" 1073),(vs "t" 1074)],
 tu [],
 fz (sB 125 5) "Thin.bound",
 cf "bound" "Thin.bound" 1070 526 2 559 1076,
 fn (sB 125 5) "Thin.bound" 3 vN (vs "kindkeep.hosts" 1010) (r 564),
 tu [],
 fl [],
 tu [(vs "self" 1081),(vs "t" 1082)],
 tu [],
 fz (sB 125 6) "Thin.shape",
 cf "shape" "Thin.shape" 1078 529 2 566 1084,
 fn (sB 125 6) "Thin.shape" 3 vN (vs "kindkeep.hosts" 1010) (r 571),
 tu [],
 fl [],
 tu [(vs "self" 1089),(vs "s" 1090),(vs "t" 1091)],
 tu [],
 fz (sB 125 7) "Thin.fits",
 cf "fits" "Thin.fits" 1086 532 3 573 1093,
 fn (sB 125 7) "Thin.fits" 3 vN (vs "kindkeep.hosts" 1010) (r 578),
 tu [],
 fl [],
 tu [(vs "self" 1098),(vs "s" 1099),(vs "t" 1100)],
 tu [],
 fz (sB 125 8) "Thin.lies",
 cf "lies" "Thin.lies" 1095 535 3 580 1102,
 fn (sB 125 8) "Thin.lies" 3 vN (vs "kindkeep.hosts" 1010) (r 585),
 tu [],
 fl [],
 tu [(vs "self" 1107),(vs "pids" 1108),(vs "check" 1109),(vs "ext" 1110)],
 tu [],
 fz (sB 125 9) "Thin.infers",
 cf "infers" "Thin.infers" 1104 538 4 587 1112,
 fn (sB 125 9) "Thin.infers" 3 vN (vs "kindkeep.hosts" 1010) (r 592),
 tu [],
 fl [],
 tu [(vs "self" 1117),(vs "s" 1118),(vs "t" 1119)],
 tu [],
 fz (sB 125 10) "Thin.tpl_fits",
 cf "tpl_fits" "Thin.tpl_fits" 1114 541 3 594 1121,
 fn (sB 125 10) "Thin.tpl_fits" 3 vN (vs "kindkeep.hosts" 1010) (r 599),
 tu [],
 fl [],
 tu [(vs "self" 1126),(vs "s" 1127),(vs "t" 1128)],
 tu [],
 fz (sB 125 11) "Thin.shape_fits",
 cf "shape_fits" "Thin.shape_fits" 1123 544 3 601 1130,
 fn (sB 125 11) "Thin.shape_fits" 3 vN (vs "kindkeep.hosts" 1010) (r 606),
 tu [],
 fl [],
 tu [(vs "self" 1135),(vs "t" 1136),(vs "mapping" 1137)],
 tu [],
 fz (sB 125 12) "Thin.put_in",
 cf "put_in" "Thin.put_in" 1132 547 3 608 1139,
 fn (sB 125 12) "Thin.put_in" 3 vN (vs "kindkeep.hosts" 1010) (r 613),
 tu [],
 fl [],
 tu [(vs "self" 1144),(vs "s" 1145),(vs "erased" 1146)],
 tu [],
 fz (sB 125 13) "Thin.own_sig",
 cf "own_sig" "Thin.own_sig" 1141 550 3 615 1148,
 fn (sB 125 13) "Thin.own_sig" 3 vN (vs "kindkeep.hosts" 1010) (r 620),
 tu [],
 fl [],
 tu [(vs "self" 1153)],
 tu [],
 fz (sB 125 14) "Thin.forget",
 cf "forget" "Thin.forget" 1150 553 1 622 1155,
 fn (sB 125 14) "Thin.forget" 3 vN (vs "kindkeep.hosts" 1010) (r 627),
 tu [],
 fl [],
 tu [(vs "self" 1160),(vs "t" 1161),(vs "name" 1162)],
 tu [],
 fz (sB 125 15) "Thin.list_prop",
 cf "list_prop" "Thin.list_prop" 1157 556 3 629 1164,
 fn (sB 125 15) "Thin.list_prop" 3 vN (vs "kindkeep.hosts" 1010) (r 634),
 tu [],
 fl [],
 tu [(vs "self" 1169),(vs "t" 1170)],
 tu [],
 fz (sB 125 16) "Thin.list_index",
 cf "list_index" "Thin.list_index" 1166 559 2 636 1172,
 fn (sB 125 16) "Thin.list_index" 3 vN (vs "kindkeep.hosts" 1010) (r 641),
 tu [],
 fl [],
 tu [(vs "self" 1177),(vs "kinds" 1178)],
 tu [],
 fz (sB 125 17) "Thin.elem_met",
 cf "elem_met" "Thin.elem_met" 1174 562 2 643 1180,
 fn (sB 125 17) "Thin.elem_met" 3 vN (vs "kindkeep.hosts" 1010) (r 648),
 tu [],
 fl [],
 tu [(vs "self" 1185)],
 tu [],
 fz (sB 125 18) "Thin.error_class",
 cf "error_class" "Thin.error_class" 1182 565 1 650 1187,
 fn (sB 125 18) "Thin.error_class" 3 vN (vs "kindkeep.hosts" 1010) (r 655),
 tu [(vs "deep" 1189),(vs "lib" 1190),(vs "most_deep" 1191),(vs "most_rounds" 1192),(vs "tab" 1193)],
 dc [de P "__module__" 1023 (vs "kindkeep.hosts" 1010),de P "__firstlineno__" 1027 (vi 505 1026),de P "__init__" 1035 (r 530),de P "force" 1043 (r 537),de P "put_deferred" 1051 (r 544),de P "put_cond" 1060 (r 551),de P "lay_row" 1069 (r 558),de P "bound" 1077 (r 565),de P "shape" 1085 (r 572),de P "fits" 1094 (r 579),de P "lies" 1103 (r 586),de P "infers" 1113 (r 593),de P "tpl_fits" 1122 (r 600),de P "shape_fits" 1131 (r 607),de P "put_in" 1140 (r 614),de P "own_sig" 1149 (r 621),de P "forget" 1156 (r 628),de P "list_prop" 1165 (r 635),de P "list_index" 1173 (r 642),de P "elem_met" 1181 (r 649),de P "error_class" 1188 (r 656),de P "__static_attributes__" 1194 (r 657),de P "__dict__" 1196 (r 660),de P "__weakref__" 1198 (r 661),de P "__doc__" 1199 vN] 4,
 ct ⟨"Thin",[(.type "object")],[(r 659),(.type "object")],658,"Thin",Z,[],[],N,U,N⟩ [U,U,O (vs "Thin" 1016),O (vs "Thin" 1024),O (.builtin "object.__new__"),O (.bool Z)],
 fo "getset_descriptor" [(vs "__dict__" 1195),(r 659),(.builtin "function.__dict__"),(.builtin "function.__dict__#set")],
 fo "getset_descriptor" [(vs "__weakref__" 1197),(r 659),(.builtin "ExceptionGroup.__weakref__"),vN],
 fo "super" [(r 659),(r 659),(r 659)],
 fo "builtin_function_or_method" [(.builtin "object.__init_subclass__"),(r 659)]]
noncomputable def He(P:Params):BT:=mH (dQ (Hu P) 517 (IZ P)) [(3,d3 P 130 (vs "kindkeep.hosts" 1010) 130),(12,pJ 180)]
theorem IE:∀w,Pc w Hu 517 1016 ⟨504,0,504,11⟩ 125 1 812 He 664 1202 ⟨505,0,566,17⟩:=λw=>by show _=_;kernel_rfl
noncomputable def IB(P:Params):List Obj:=[tu [(r 659)],
 fo "builtin_function_or_method" [(.builtin "type.__prepare__"),(.type "type")],
 dc [de P "__module__" 1209 (vs "kindkeep.hosts" 1010),de P "__qualname__" 1211 (vs "RefHost" 1210),de P "__firstlineno__" 1213 (vi 567 1212),de P "shape" 1221 (r 677),de P "fits" 1230 (r 684),de P "lies" 1239 (r 691),de P "__static_attributes__" 1240 (r 692)] 7,
 tu [],
 fl [(vi 569 0),(vi 4 0),(r 676),(vi 572 0),(vi 4 0),(r 683),(vi 575 0),(vi 4 0),(r 690)],
 cd "RefHost" "RefHost" 1204 567 0 0 667 N 181 vN vN vN vN 1208,
 fr [O (r 669),O (r 3),O (r 666),U,O (vs "kindkeep.hosts" 1010),U,O (r 0)],
 tu [],
 fl [],
 tu [(vs "self" 1217),(vs "t" 1218)],
 tu [],
 fz (sB 126 0) "RefHost.shape",
 cf "shape" "RefHost.shape" 1214 569 2 671 1220,
 fn (sB 126 0) "RefHost.shape" 3 vN (vs "kindkeep.hosts" 1010) (r 676),
 tu [],
 fl [],
 tu [(vs "self" 1225),(vs "s" 1226),(vs "t" 1227)],
 tu [],
 fz (sB 126 1) "RefHost.fits",
 cf "fits" "RefHost.fits" 1222 572 3 678 1229,
 fn (sB 126 1) "RefHost.fits" 3 vN (vs "kindkeep.hosts" 1010) (r 683),
 tu [],
 fl [],
 tu [(vs "self" 1234),(vs "s" 1235),(vs "t" 1236)],
 tu [],
 fz (sB 126 2) "RefHost.lies",
 cf "lies" "RefHost.lies" 1231 575 3 685 1238,
 fn (sB 126 2) "RefHost.lies" 3 vN (vs "kindkeep.hosts" 1010) (r 690),
 tu [],
 dc [de P "__module__" 1209 (vs "kindkeep.hosts" 1010),de P "__firstlineno__" 1213 (vi 567 1212),de P "shape" 1221 (r 677),de P "fits" 1230 (r 684),de P "lies" 1239 (r 691),de P "__static_attributes__" 1240 (r 692),de P "__doc__" 1241 vN] 2,
 ct ⟨"RefHost",[(r 659)],[(r 694),(r 659),(.type "object")],693,"RefHost",Z,[],[],N,U,N⟩ [O (r 664),U,O (vs "RefHost" 1202),O (vs "RefHost" 1210),O (.builtin "object.__new__"),O (.bool Z)],
 fo "super" [(r 694),(r 694),(r 694)],
 fo "builtin_function_or_method" [(.builtin "object.__init_subclass__"),(r 694)],
 tu [],
 fl [],
 tu [(vs "row" 1247),(vs "name" 1248),(vs "prop" 1249)],
 tu [],
 fz (sA 127) "find_prop",
 cf "find_prop" "find_prop" 1244 577 2 697 1251,
 fn (sA 127) "find_prop" 3 vN (vs "kindkeep.hosts" 1010) (r 702),
 tu [],
 fl [],
 tu [(vs "host" 1256),(vs "t" 1257),(vs "name" 1258),(vs "row" 1259),(vs "prop" 1260)],
 tu [],
 fz (sA 128) "prop_row",
 cf "prop_row" "prop_row" 1253 582 3 704 1262,
 fn (sA 128) "prop_row" 3 vN (vs "kindkeep.hosts" 1010) (r 709),
 tu [],
 fl [],
 tu [(vs "host" 1267),(vs "t" 1268)],
 tu [],
 fz (sA 129) "calls_of",
 cf "calls_of" "calls_of" 1264 590 2 711 1270,
 fn (sA 129) "calls_of" 3 vN (vs "kindkeep.hosts" 1010) (r 716)]
noncomputable def GX(P:Params):BT:=mH (dQ (He P) 664 (IB P)) [(3,d3 P 134 (vs "kindkeep.hosts" 1010) 134),(12,pJ 192),(659,ct ⟨"Thin",[(.type "object")],[(r 659),(.type "object")],658,"Thin",Z,[],[(r 694)],N,U,N⟩ [U,U,O (vs "Thin" 1016),O (vs "Thin" 1024),O (.builtin "object.__new__"),O (.bool Z)])]
theorem Il:∀w,Pc w He 664 1202 ⟨505,0,566,17⟩ 126 4 405 GX 718 1272 ⟨590,0,591,42⟩:=λw=>by show _=_;kernel_rfl
noncomputable def HT(P:Params):List Obj:=[tu [],
 fl [],
 tu [(vs "host" 1275),(vs "t" 1276)],
 tu [],
 fz (sA 130) "ctors_of",
 cf "ctors_of" "ctors_of" 1272 592 2 718 1278,
 fn (sA 130) "ctors_of" 3 vN (vs "kindkeep.hosts" 1010) (r 723)]
noncomputable def GD(P:Params):BT:=mH (dQ (GX P) 718 (HT P)) [(3,d3 P 135 (vs "kindkeep.narrowplain" 1280) 135),(12,pJ 195)]
theorem IY:∀w,Pc w GX 718 1272 ⟨590,0,591,42⟩ 130 2 40 GD 725 1282 ⟨594,0,594,8⟩:=λw=>by show _=_;kernel_rfl
noncomputable def IH(P:Params):List Obj:=[dc [de P "string" 1282 (vi 6 335),de P "number" 1283 (vi 7 337),de P "boolean" 1284 (vi 12 347),de P "undefined" 1285 (vi 4 331)] 4,
 dc [⟨1,(vi 1 361),(vs "string" 1291)⟩,⟨2,(vi 2 363),(vs "number" 1292)⟩,⟨3,(vi 3 365),(vs "boolean" 1293)⟩,⟨4,(vi 4 367),(vs "object" 1294)⟩,⟨5,(vi 5 369),(vs "undefined" 1295)⟩,⟨6,(vi 6 371),(vs "undefined" 1296)⟩,⟨7,(vi 7 373),(vs "object" 1297)⟩] 7]
noncomputable def HC(P:Params):BT:=mH (dQ (GD P) 725 (IH P)) [(3,d3 P 137 (vs "kindkeep.narrowplain" 1280) 137)]
theorem IW:∀w,Pc w GD 725 1282 ⟨594,0,594,8⟩ 132 2 183 HC 727 1306 ⟨596,0,596,12⟩:=byRow2 "special-get-raises" (λw=>by show _=_;kernel_rfl) (λw=>by show _=_;kernel_rfl)
noncomputable def Ik(P:Params):List Obj:=[tu [(vi 1 361),(vi 2 363),(vi 3 365)],
 tu [(vi 4 367),(vi 5 369),(vi 6 371)],
 tu [],
 fl [],
 tu [(vs "tab" 1311),(vs "t" 1312),(vs "row" 1313)],
 tu [],
 fz (sA 136) "plain_value",
 cf "plain_value" "plain_value" 1308 599 2 729 1315,
 fn (sA 136) "plain_value" 3 vN (vs "kindkeep.narrowplain" 1280) (r 734),
 tu [],
 fl [],
 tu [(vs "tab" 1320),(vs "s" 1321),(vs "t" 1322),(vs "strict" 1323),(vs "fs" 1324),(vs "ft" 1325),(vs "one" 1326),(vs "other" 1327)],
 tu [],
 fz (sA 137) "plain_meets",
 cf "plain_meets" "plain_meets" 1317 610 4 736 1329,
 fn (sA 137) "plain_meets" 3 vN (vs "kindkeep.narrowplain" 1280) (r 741),
 tu [],
 fl [],
 fz (sA 138) "is_nullish_kind",
 cd "is_nullish_kind" "is_nullish_kind" 1331 622 2 3 743 Z 181 vN vN vN (r 745) 1335,
 fn (sA 138) "is_nullish_kind" 3 vN (vs "kindkeep.narrowplain" 1280) (r 746),
 tu [],
 fl [],
 fz (sA 139) "sharpen",
 cd "sharpen" "sharpen" 1337 625 3 3 748 Z 181 vN vN vN (r 750) 1341,
 fn (sA 139) "sharpen" 3 vN (vs "kindkeep.narrowplain" 1280) (r 751),
 tu [],
 fl [],
 tu [(vs "tab" 1346),(vs "t" 1347),(vs "yes" 1348)],
 tu [],
 fz (sA 140) "narrow_plain_truthy",
 cf "narrow_plain_truthy" "narrow_plain_truthy" 1343 633 3 753 1350,
 fn (sA 140) "narrow_plain_truthy" 3 vN (vs "kindkeep.narrowplain" 1280) (r 758),
 tu [],
 fl [],
 fz (sA 141) "nullish_side",
 cd "nullish_side" "nullish_side" 1352 637 4 3 760 Z 181 vN vN vN (r 762) 1356,
 fn (sA 141) "nullish_side" 3 vN (vs "kindkeep.narrowplain" 1280) (r 763),
 tu [],
 fl [],
 fz (sA 142) "unknown_equal",
 cd "unknown_equal" "unknown_equal" 1358 652 3 3 765 Z 181 vN vN vN (r 767) 1362,
 fn (sA 142) "unknown_equal" 3 vN (vs "kindkeep.narrowplain" 1280) (r 768),
 tu [],
 fl [],
 fz (sA 143) "plain_equal_yes",
 cd "plain_equal_yes" "plain_equal_yes" 1364 664 4 3 770 Z 181 vN vN vN (r 772) 1368,
 fn (sA 143) "plain_equal_yes" 3 vN (vs "kindkeep.narrowplain" 1280) (r 773),
 tu [],
 fl [],
 tu [(vs "tab" 1373),(vs "t" 1374),(vs "other" 1375),(vs "value" 1376),(vs "out" 1377),(vs "part" 1378),(vs "same" 1379)],
 tu [],
 fz (sA 144) "plain_equal_no",
 cf "plain_equal_no" "plain_equal_no" 1370 675 3 775 1381,
 fn (sA 144) "plain_equal_no" 3 vN (vs "kindkeep.narrowplain" 1280) (r 780),
 tu [],
 fl [],
 tu [(vs "tab" 1386),(vs "t" 1387),(vs "other" 1388),(vs "yes" 1389),(vs "strict" 1390)],
 tu [],
 fz (sA 145) "narrow_plain_equal",
 cf "narrow_plain_equal" "narrow_plain_equal" 1383 687 5 782 1392,
 fn (sA 145) "narrow_plain_equal" 3 vN (vs "kindkeep.narrowplain" 1280) (r 787),
 tu [],
 fl [],
 tu [(vs "tab" 1397),(vs "part" 1398),(vs "word" 1399),(vs "yes" 1400),(vs "told" 1401)],
 tu [],
 fz (sA 146) "plain_typeof_part",
 cf "plain_typeof_part" "plain_typeof_part" 1394 695 4 789 1403,
 fn (sA 146) "plain_typeof_part" 3 vN (vs "kindkeep.narrowplain" 1280) (r 794),
 tu [(vi 10 303),(vi 15 313),(vi 16 315)],
 tu [(vi 1 361),(vi 2 363),(vi 3 365),(vi 4 367),(vi 5 369),(vi 6 371)]]
noncomputable def HG(P:Params):BT:=mH (dQ (HC P) 727 (Ik P)) [(3,d3 P 153 (vs "kindkeep.narrow" 1405) 153),(12,pJ 228)]
theorem II:∀w,Pc w HC 727 1306 ⟨596,0,596,12⟩ 134 17 418 HG 798 1411 ⟨711,0,711,10⟩:=λw=>by show _=_;kernel_rfl
noncomputable def Iw(P:Params):List Obj:=[tu [],
 fl [],
 tu [(vs "tab" 1414),(vs "t" 1415)],
 tu [],
 fz (sA 151) "narrow_is_primitive",
 cf "narrow_is_primitive" "narrow_is_primitive" 1411 712 2 798 1417,
 fn (sA 151) "narrow_is_primitive" 3 vN (vs "kindkeep.narrow" 1405) (r 803),
 tu [],
 fl [],
 fz (sA 152) "all_primitive",
 cd "all_primitive" "all_primitive" 1419 714 2 3 805 Z 181 vN vN vN (r 807) 1423,
 fn (sA 152) "all_primitive" 3 vN (vs "kindkeep.narrow" 1405) (r 808),
 tu [],
 fl [],
 fz (sA 153) "is_loose",
 cd "is_loose" "is_loose" 1425 716 2 3 810 Z 181 vN vN vN (r 812) 1429,
 fn (sA 153) "is_loose" 3 vN (vs "kindkeep.narrow" 1405) (r 813),
 tu [],
 fl [],
 tu [(vs "host" 1434),(vs "s" 1435),(vs "t" 1436),(vs "strict" 1437),(vs "tab" 1438),(vs "fs" 1439),(vs "ft" 1440)],
 tu [],
 fz (sA 154) "part_meets",
 cf "part_meets" "part_meets" 1431 721 4 815 1442,
 fn (sA 154) "part_meets" 3 vN (vs "kindkeep.narrow" 1405) (r 820),
 tu [],
 fl [],
 tu [(vs "host" 1447),(vs "part" 1448),(vs "whole" 1449),(vs "prop" 1450)],
 tu [],
 fz (sA 155) "shape_allows",
 cf "shape_allows" "shape_allows" 1444 732 3 822 1452,
 fn (sA 155) "shape_allows" 3 vN (vs "kindkeep.narrow" 1405) (r 827),
 tu [],
 fl [],
 fz (sA 156) "may_be_function",
 cd "may_be_function" "may_be_function" 1454 739 2 3 829 Z 181 vN vN vN (r 831) 1458,
 fn (sA 156) "may_be_function" 3 vN (vs "kindkeep.narrow" 1405) (r 832),
 tu [],
 fl [],
 tu [(vs "host" 1463),(vs "part" 1464),(vs "words" 1465),(vs "values" 1466),(vs "word" 1467),(vs "value" 1468)],
 tu [],
 fz (sA 157) "object_words",
 cf "object_words" "object_words" 1460 744 2 834 1470,
 fn (sA 157) "object_words" 3 vN (vs "kindkeep.narrow" 1405) (r 839),
 tu [],
 fl [],
 tu [(vs "host" 1475),(vs "t" 1476),(vs "yes" 1477)],
 tu [],
 fz (sA 158) "narrow_truthy",
 cf "narrow_truthy" "narrow_truthy" 1472 759 3 841 1479,
 fn (sA 158) "narrow_truthy" 3 vN (vs "kindkeep.narrow" 1405) (r 846),
 tu [],
 fl [],
 tu [(vs "host" 1484),(vs "part" 1485),(vs "word" 1486),(vs "yes" 1487),(vs "deep" 1488),(vs "fam" 1489),(vs "words" 1490)],
 tu [],
 fz (sA 159) "typeof_part",
 cf "typeof_part" "typeof_part" 1481 761 5 848 1492,
 fn (sA 159) "typeof_part" 3 vN (vs "kindkeep.narrow" 1405) (r 853),
 tu [],
 fl [],
 tu [(vs "host" 1497),(vs "part" 1498),(vs "word" 1499),(vs "yes" 1500),(vs "deep" 1501),(vs "bound" 1502),(vs "kept" 1503)],
 tu [],
 fz (sA 160) "typeof_free",
 cf "typeof_free" "typeof_free" 1494 773 5 855 1505,
 fn (sA 160) "typeof_free" 3 vN (vs "kindkeep.narrow" 1405) (r 860),
 tu [],
 fl [],
 fz (sA 161) "typeof_within",
 cd "typeof_within" "typeof_within" 1507 783 5 3 862 Z 181 vN vN vN (r 864) 1511,
 fn (sA 161) "typeof_within" 3 vN (vs "kindkeep.narrow" 1405) (r 865),
 tu [],
 fl [],
 tu [(vs "host" 1516),(vs "t" 1517),(vs "word" 1518),(vs "yes" 1519)],
 tu [],
 fz (sA 162) "narrow_typeof",
 cf "narrow_typeof" "narrow_typeof" 1513 789 4 867 1521,
 fn (sA 162) "narrow_typeof" 3 vN (vs "kindkeep.narrow" 1405) (r 872),
 tu [],
 fl [],
 tu [(vs "host" 1526),(vs "part" 1527),(vs "bound" 1528)],
 tu [],
 fz (sA 163) "bound_parts",
 cf "bound_parts" "bound_parts" 1523 791 2 874 1530,
 fn (sA 163) "bound_parts" 3 vN (vs "kindkeep.narrow" 1405) (r 879)]
noncomputable def HQ(P:Params):BT:=mH (dQ (HG P) 798 (Iw P)) [(3,d3 P 166 (vs "kindkeep.narrow" 1405) 166),(12,pJ 267)]
theorem IK:∀w,Pc w HG 798 1411 ⟨711,0,711,10⟩ 151 13 400 HQ 881 1532 ⟨791,0,793,82⟩:=λw=>by show _=_;kernel_rfl
noncomputable def IG(P:Params):List Obj:=[tu [],
 fl [],
 fz (sA 164) "equal_part",
 cd "equal_part" "equal_part" 1532 794 4 3 881 Z 181 vN vN vN (r 883) 1536,
 fn (sA 164) "equal_part" 3 vN (vs "kindkeep.narrow" 1405) (r 884),
 tu [],
 fl [],
 tu [(vs "host" 1541),(vs "t" 1542),(vs "other" 1543),(vs "tab" 1544),(vs "kept" 1545),(vs "out" 1546),(vs "part" 1547)],
 tu [],
 fz (sA 165) "unlike_nullish",
 cf "unlike_nullish" "unlike_nullish" 1538 802 3 886 1549,
 fn (sA 165) "unlike_nullish" 3 vN (vs "kindkeep.narrow" 1405) (r 891),
 tu [],
 fl [],
 fz (sA 166) "rest_of_bound",
 cd "rest_of_bound" "rest_of_bound" 1551 811 3 3 893 Z 181 vN vN vN (r 895) 1555,
 fn (sA 166) "rest_of_bound" 3 vN (vs "kindkeep.narrow" 1405) (r 896),
 tu [],
 fl [],
 tu [(vs "tab" 1560),(vs "part" 1561),(vs "one" 1562),(vs "fam" 1563)],
 tu [],
 fz (sA 167) "may_hold_nullish",
 cf "may_hold_nullish" "may_hold_nullish" 1557 817 3 898 1565,
 fn (sA 167) "may_hold_nullish" 3 vN (vs "kindkeep.narrow" 1405) (r 903),
 tu [],
 fl [],
 fz (sA 168) "narrow_equal",
 cd "narrow_equal" "narrow_equal" 1567 824 5 3 905 Z 181 vN vN vN (r 907) 1571,
 fn (sA 168) "narrow_equal" 3 vN (vs "kindkeep.narrow" 1405) (r 908),
 tu [(vs "undefined" 1575),(vs "object" 1576),(vs "boolean" 1577),(vs "boolean" 1578),(vs "string" 1579),(vs "string" 1580),(vs "string" 1581),(vs "number" 1582),(vs "number" 1583),(vs "number" 1584),(vs "number" 1585),(vs "object" 1586),(vs "object" 1587),(vs "object" 1588),(vs "object" 1589),(vs "function" 1590)],
 tu [(vi 0 1592),(vi 0 1593),(vi 2 1594),(vi 3 1595),(vi 2 1596),(vi 5 1597),(vi 6 1598),(vi 2 1599),(vi 3 1600),(vi 9 1601),(vi 10 1602),(vi 11 1603),(vi 12 1604),(vi 13 1605),(vi 14 1606),(vi 15 1607)],
 tu [(vi 3 1609),(vi 5 1610),(vi 6 1611),(vi 8 1612),(vi 9 1613),(vi 11 1614),(vi 12 1615),(vi 13 1616),(vi 14 1617),(vi 15 1618)],
 tu [(vs "string" 1620),(vs "object" 1621),(vs "undefined" 1622),(vs "number" 1623),(vs "function" 1624),(vs "boolean" 1625)],
 tu [(vi 0 1627),(vi 1 1628),(vi 2 1629),(vi 3 1630),(vi 4 1631),(vi 5 1632),(vi 6 1633),(vi 7 1634),(vi 8 1635),(vi 9 1636),(vi 10 1637),(vi 11 1638),(vi 12 1639),(vi 13 1640),(vi 14 1641),(vi 15 1642)],
 tu [],
 fl [],
 tu [(vs "nums" 1647),(vs "i" 1648)],
 tu [],
 fz (sA 175) "_law_draw",
 cf "_law_draw" "_law_draw" 1644 842 2 915 1650,
 fn (sA 175) "_law_draw" 3 vN (vs "law_xw0132_01" 1573) (r 920),
 tu [],
 fl [],
 tu [(vs "tab" 1655),(vs "first" 1656),(vs "second" 1657),(vs "named" 1658)],
 tu [],
 fz (sA 176) "_law_kinds",
 cf "_law_kinds" "_law_kinds" 1652 844 1 922 1660,
 fn (sA 176) "_law_kinds" 3 vN (vs "law_xw0132_01" 1573) (r 927),
 tu [],
 fl [],
 tu [(vs "tab" 1665),(vs "t" 1666)],
 tu [],
 fz (sA 177) "_law_parts",
 cf "_law_parts" "_law_parts" 1662 850 2 929 1668,
 fn (sA 177) "_law_parts" 3 vN (vs "law_xw0132_01" 1573) (r 934),
 tu [],
 fl [],
 tu [(vs "tab" 1673),(vs "book" 1674),(vs "t" 1675),(vs "out" 1676),(vs "part" 1677)],
 tu [],
 fz (sA 178) "_law_held",
 cf "_law_held" "_law_held" 1670 856 3 936 1679,
 fn (sA 178) "_law_held" 3 vN (vs "law_xw0132_01" 1573) (r 941),
 tu [],
 fl [],
 fz (sA 179) "_law_passes",
 cd "_law_passes" "_law_passes" 1681 861 4 3 943 Z 181 vN vN vN (r 945) 1685,
 fn (sA 179) "_law_passes" 3 vN (vs "law_xw0132_01" 1573) (r 946)]
noncomputable def HS(P:Params):BT:=mH (dQ (HQ P) 881 (IG P)) [(3,d3 P 181 (vs "law_xw0132_01" 1573) 181),(12,pJ 297)]
theorem Ir:∀w,Pc w HQ 881 1532 ⟨791,0,793,82⟩ 164 16 420 HS 948 1687 ⟨861,0,872,49⟩:=λw=>by show _=_;kernel_rfl
noncomputable def Iq(P:Params):List Obj:=[tu [],
 fl [],
 fz (sA 180) "_law_blurred",
 cd "_law_blurred" "_law_blurred" 1687 873 5 3 948 Z 181 vN vN vN (r 950) 1691,
 fn (sA 180) "_law_blurred" 3 vN (vs "law_xw0132_01" 1573) (r 951),
 tu [],
 fl [],
 tu [(vs "part" 1696),(vs "ask" 1697),(vs "yes" 1698),(vs "given" 1699),(vs "v" 1700)],
 tu [],
 fz (sA 181) "_law_lax",
 cf "_law_lax" "_law_lax" 1693 887 5 953 1702,
 fn (sA 181) "_law_lax" 3 vN (vs "law_xw0132_01" 1573) (r 958),
 tu [],
 fl [],
 tu [(vs "host" 1707),(vs "t" 1708),(vs "ask" 1709),(vs "yes" 1710)],
 tu [],
 fz (sA 182) "_law_step",
 cf "_law_step" "_law_step" 1704 899 4 960 1712,
 fn (sA 182) "_law_step" 3 vN (vs "law_xw0132_01" 1573) (r 965),
 tu [],
 fl [],
 tu [(vs "tab" 1717),(vs "nums" 1718),(vs "kinds" 1719),(vs "picks" 1720),(vs "j" 1721),(vs "forced" 1722),(vs "a" 1723),(vs "b" 1724),(vs "what" 1725),(vs "other" 1726)],
 tu [],
 fz (sA 183) "_law_test",
 cf "_law_test" "_law_test" 1714 905 6 967 1728,
 fn (sA 183) "_law_test" 3 vN (vs "law_xw0132_01" 1573) (r 972),
 tu [],
 fl [],
 fz (sA 184) "_law_right",
 cd "_law_right" "_law_right" 1730 919 6 3 974 Z 181 vN vN vN (r 976) 1734,
 fn (sA 184) "_law_right" 3 vN (vs "law_xw0132_01" 1573) (r 977),
 tu [],
 fl [],
 fz (sA 185) "law",
 cd "law" "law" 1736 935 1 3 979 Z 181 vN vN vN (r 981) 1740,
 fn (sA 185) "law" 3 vN (vs "law_xw0132_01" 1573) (r 982)]
noncomputable def GK(P:Params):BT:=mH (dQ (HS P) 948 (Iq P)) [(3,d3 P 187 (vs "law_xw0132_01" 1573) 187),(12,pJ 315)]
theorem IQ:∀w,Pc w HS 948 1687 ⟨861,0,872,49⟩ 180 6 182 GK 984 1742 ⟨935,0,987,22⟩:=λw=>by show _=_;kernel_rfl
end
section
set_option tactic.hygienic true
theorem Pc.run{w:World}{T T':Params→BT}{n toks n' toks' a c N:Nat}{pos pos':Pos}(h:Pc w T n toks pos a c N T' n' toks' pos'){os:OsState}{M:Nat}{r:Shared}
  (k:topRun treeTable rp w 11 (some (.ref 6)) M ⟨absHeap (T' w.params) n' {},#[],{},toks',os⟩ (restOf (C6.drop (a+c)) yz A1 pos' [topFrame q0])=some r):
  topRun treeTable rp w 11 (some (.ref 6)) (N+M) ⟨absHeap (T w.params) n {},#[],{},toks,os⟩ (restOf (C6.drop a) yz A1 pos [topFrame q0])=some r:=by
 unfold Pc at h;rw[←D0,←xM] at h;have h1:=segRun_of (congrFun h os);have h2:=piece_app h1 k;rw[←List.drop_drop,List.take_append_drop] at h2;exact h2
noncomputable abbrev H1(P:Params):Heap:=Nw (GK P) 984 {}
noncomputable abbrev H0:=NK
noncomputable abbrev Ie:=NL
theorem Dl: @topGo= @H0:=NM
theorem DE: @denote= @Ie:=NN
theorem Hn(w:World):(λos=>H0 Gr rp w 11 (O (.ref 6)) 12 ⟨LZ w.params,Ps [],boot_drawn,boot_toks,os⟩ (topStub rp))=λos=>O ((⟨Nw (T0 w.params) 15 {},#[],{},187,os⟩:Shared),(⟨Ie Gr A1,A1,q0,[Nu q0]⟩:Thread)):=by kernel_rfl
theorem Hp(w:World):(λos=>segRun M2 rp w 11 (O (.ref 6)) 1 1 ⟨Nw (T0 w.params) 15 {},#[],{},187,os⟩ (blockOf C6 yz A1 q0 [Nu q0]))=λos=>O (PF,(⟨Nw (T0 w.params) 15 {},#[],{},187,os⟩:Shared),A1,q0):=by kernel_rfl
theorem GH(w:World):(λos=>Qu M2 rp w 11 (O (.ref 6)) 2 ⟨H1 w.params,#[],{},1742,os⟩ ⟨doneF .next,A1,⟨935,0,987,22⟩,[Nu q0]⟩)=λos=>O (⟨H1 w.params,#[],{},1742,os⟩:Shared):=by kernel_rfl
theorem G4:C6.drop 186=[]:=by kernel_rfl
theorem HK(w:World)(os:OsState):Qu M2 rp w 11 (O (.ref 6)) (12+(1+(270+(251+(420+(418+(101+(297+(395+(414+(408+(399+(383+(812+(405+(40+(183+(418+(400+(420+(182+2))))))))))))))))))))) ⟨LZ w.params,Ps [],boot_drawn,boot_toks,os⟩ (topStub rp)=O ⟨H1 w.params,#[],{},1742,os⟩:=by
 have h0:=congrFun (Hn w) os;rw[←Dl,←xM,←DE] at h0;refine go_top h0 (piece_block (congrFun (Hp w) os) ?_);refine(p1 w).run ((p2 w).run ((p3 w).run ((p4 w).run ((p5 w).run ((p6 w).run ((p7 w).run ((p8 w).run ((p9 w).run ((IO w).run ((IP w).run ((IE w).run ((Il w).run ((IY w).run ((IW w).run ((II w).run ((IK w).run ((Ir w).run ((IQ w).run ?_))))))))))))))))));rw[show 180+6=186 from rfl,G4];exact piece_nil (congrFun (GH w) os)
end
section
set_option tactic.hygienic true
theorem Gz:opening rp=plainProg rp.main.scope.names:=by kernel_rfl
theorem GC(s:Shared):fenceModules? rp s=O s:=by kernel_rfl
theorem GT(w:World):((LZ w.params).isNs JY&&(Ps []:Array GenState).size==0,(LZ w.params).objs.size,(LZ w.params).nsMap JY "__annotations__")=(Z,11,O (.ref 6)):=by kernel_rfl
theorem IL(w:World):(λos=>(staticsOk (OY rp.main.body) (LZ w.params) (H1 w.params)&&namesBound rp (H1 w.params)&&gensDone ⟨H1 w.params,#[],{},1742,os⟩&&laidKept (LZ w.params) (H1 w.params)))=λ_=>Z:=by kernel_rfl
noncomputable abbrev Ih:=N3
theorem Dy: @openSeen= @Ih:=N4
theorem Im(w:World):(λos=>Ih qm ii (OY rp.main.body) (λ_=>Z) Z ⟨H1 w.params,#[],{},1742,os⟩)=λ_=>openGood qm ii:=by kernel_rfl
theorem EX:LeftO Jl.row.toRowW.prog qm ii (λ_=>Z) (λs=>s.heap) (λw=>H1 w.params) 13320:=by
 refine LeftO.of_pieces (H₀:=LZ) (H₁:=H1) (gs₀:=Ps []) (gs₁:= #[]) (boot_open Gz (by decide) GC) GT HK (by decide+kernel) λw=> ?_
 have h1:=IL w;have h2:=Im w;rw[←Dy] at h2;exact funext λos=>QP (congrFun h1 os) (QP (congrFun h2 os) rfl)
end
noncomputable abbrev oS:=Jq
noncomputable def fH:Sx:= %[.sta (.var 0) 0 (.lst .glob .nil),.sta (.var 0) 1 (.dct Z .tup),.sta (.var 0) 2 (.rls %[.cst .none|_]),.sta (.var 0) 3 (.lst .glob .nil),.sta (.var 0) 4 (.lst .glob .nil),.sta (.var 0) 5 (.lst .glob .nil),.sta (.var 0) 6 (.dct Z .int),.sta (.var 0) 7 (.dct Z .int),.sta (.var 0) 8 (.cst (.int 0)),.sta (.var 0) 9 (.cst (.int 0)),.frN 1 (.glb 0) %[.exp (.mth 30 (.var 0) %[.var 1|_])|_]|_]
noncomputable def jS:Sx:= %[.ife (.cmp .inn (.var 1) (.atr 1 (.var 0))) %[.ret (.sub (.atr 1 (.var 0)) (.var 1))|_] .nil,.asg 2 (.fn1 .len (.atr 0 (.var 0))),.exp (.app (.atr 0 (.var 0)) (.var 1)),.sti (.atr 1 (.var 0)) (.var 1) (.var 2),.ret (.var 2)|_]
noncomputable def j4:Sx:= %[.sta (.var 0) 10 (.var 1),.sta (.var 0) 11 (.var 2),.sta (.var 0) 12 (.var 3),.sta (.var 0) 13 (.tup .nil),.sta (.var 0) 14 (.neg (.cst (.int 1))),.sta (.var 0) 15 (.tup .nil),.sta (.var 0) 16 (.neg (.cst (.int 1))),.sta (.var 0) 17 (.cst (.int 0)),.sta (.var 0) 18 (.cst (.bool N)),.sta (.var 0) 19 (.lst .glob .nil),.sta (.var 0) 20 (.lst .glob .nil),.sta (.var 0) 21 (.cst (.int 0)),.sta (.var 0) 22 (.cst (.int 0)),.sta (.var 0) 23 (.cst (.str [])),.sta (.var 0) 24 (.cst (.int 0))|_]
noncomputable def ke:Sx:= %[.sta (.var 0) 25 (.var 1),.sta (.var 0) 26 (.cst (.int 0)),.sta (.var 0) 27 (.glb 1),.sta (.var 0) 28 (.glb 2),.sta (.var 0) 29 (.cst .none)|_]
noncomputable def oZ:Sx:= %[.ret (.var 1)|_]
noncomputable def kb:Sx:= %[.ret (.cal 52 %[.atr 25 (.var 0),.var 1|_])|_]
noncomputable def lK:Sx:= %[.ret (.cal 41 %[.atr 25 (.var 0),.var 1,.var 2|_])|_]
noncomputable def vM:Sx:= %[.ret (.sub (.sub (.atr 0 (.var 0)) (.var 1)) (.cst (.int 0)))|_]
noncomputable def sR:Sx:= %[.ret (.mth 30 (.var 0) %[.tup %[.glb 3,.var 1,.var 2|_]|_])|_]
noncomputable def rZ:Sx:= %[.asg 3 (.new 1 %[.fn1 .len (.atr 2 (.var 0)),.var 1,.var 2|_]),.exp (.app (.atr 2 (.var 0)) (.var 3)),.ret (.var 3)|_]
noncomputable def s6:Sx:= %[.ife (.cmp .eq (.var 1) (.glb 4)) %[.ret (.tup .nil)|_] .nil,.asg 2 (.sub (.atr 0 (.var 0)) (.var 1)),.ife (.cmp .eq (.sub (.var 2) (.cst (.int 0))) (.glb 5)) %[.ret (.sub (.var 2) (.cst (.int 1)))|_] .nil,.ret (.tup %[.var 1|_])|_]
noncomputable def lb:Sx:= %[.asg 1 (.sub (.var 0) (.cst (.int 0))),.ife (.bop N %[.cmp .eq (.var 1) (.glb 3),.cmp .eq (.var 1) (.glb 6)|_]) %[.ret (.glb 7)|_] .nil,.ife (.cmp .eq (.var 1) (.glb 8)) %[.ret (.glb 9)|_] .nil,.ife (.cmp .eq (.var 1) (.glb 10)) %[.ret (.ite (.fn1 .isStr (.sub (.var 0) (.cst (.int 3)))) (.glb 7) (.glb 9))|_] .nil,.ret (.neg (.cst (.int 1)))|_]
noncomputable def lM:Sx:= %[.asg 2 (.sub (.atr 0 (.var 0)) (.var 1)),.ife (.bop Z %[.cmp .inn (.sub (.var 2) (.cst (.int 0))) (.glb 11),.cmp .eq (.sub (.var 2) (.neg (.cst (.int 1)))) (.cst (.int 1))|_]) %[.ret (.getD (.atr 1 (.var 0)) (.bin .add (.slT (.var 2) (.neg (.cst (.int 1)))) (.tup %[.cst (.int 0)|_])) (.neg (.cst (.int 1))))|_] .nil,.ret (.neg (.cst (.int 1)))|_]
noncomputable def ot:Sx:= %[.ife (.bop Z %[.bop N %[.cmp .inn (.glb 12) (.var 0),.cmp .inn (.glb 13) (.var 0)|_],.bop N %[.cmp .inn (.glb 14) (.var 0),.cmp .inn (.glb 15) (.var 0)|_]|_]) %[.sti (.var 0) (.glb 12) (.cst (.int 1)),.sti (.var 0) (.glb 14) (.cst (.int 1))|_] .nil|_]
noncomputable def lO:Sx:= %[.ife (.cmp .inn (.cal 12 %[.var 0,.var 2|_]) (.var 1)) %[.ret (.cst (.bool N))|_] .nil,.ret (.cmp .nin (.cal 11 %[.sub (.atr 0 (.var 0)) (.var 2)|_]) (.var 1))|_]
noncomputable def y5:Sx:= %[.frN 1 (.tup %[.glb 16,.glb 17,.glb 18|_]) %[.ife (.cmp .inn (.var 1) (.var 0)) %[.ret (.var 1)|_] .nil|_],.ret (.neg (.cst (.int 1)))|_]
noncomputable def kw:Sx:= %[.asg 2 (.dct N .int),.frN 3 (.var 1) %[.frN 6 (.cal 10 %[.var 0,.var 3|_]) %[.sti (.var 2) (.var 6) (.cst (.int 1))|_]|_],.asg 4 (.cal 15 %[.var 2|_]),.ife (.cmp .ge (.var 4) (.cst (.int 0))) %[.ret (.var 4)|_] .nil,.exp (.cal 13 %[.var 2|_]),.asc 5 (.comp N 3 [Z,N,Z] (.var 3) (.fn1 .srt (.var 2)) (.cal 14 %[.var 0,.var 2,.var 3|_])),.ife (.nt (.var 5)) %[.ret (.glb 4)|_] .nil,.ife (.cmp .eq (.fn1 .len (.var 5)) (.cst (.int 1))) %[.ret (.sub (.var 5) (.cst (.int 0)))|_] .nil,.ife (.cmp .gt (.fn1 .len (.var 5)) (.glb 19)) %[.hole|_] .nil,.ret (.mth 30 (.var 0) %[.tup %[.glb 5,.fn1 .tup (.var 5)|_]|_])|_]
noncomputable def oz:Sx:= %[.ret (.cmp .inn (.sub (.sub (.atr 0 (.var 0)) (.var 1)) (.cst (.int 0))) (.glb 20))|_]
noncomputable def uW:Sx:= %[.ret (.bop N %[.cmp .eq (.var 1) (.glb 21),.cmp .eq (.var 1) (.glb 22),.cal 17 %[.var 0,.var 1|_]|_])|_]
noncomputable def rU:Sx:= %[.asg 2 (.sub (.atr 0 (.var 0)) (.var 1)),.ret (.bop Z %[.cmp .inn (.sub (.var 2) (.cst (.int 0))) (.glb 11),.cmp .eq (.sub (.var 2) (.neg (.cst (.int 1)))) (.cst (.int 1))|_])|_]
noncomputable def l6:Sx:= %[.ife (.cal 19 %[.var 0,.var 1|_]) %[.ret (.mth 30 (.var 0) %[.bin .add (.slT (.sub (.atr 0 (.var 0)) (.var 1)) (.neg (.cst (.int 1)))) (.tup %[.cst (.int 0)|_])|_])|_] .nil,.ret (.var 1)|_]
noncomputable def vz:Sx:= %[.ife (.cmp .eq (.cal 7 %[.var 0,.var 1|_]) (.glb 5)) %[.ret (.cal 16 %[.var 0,.comp N 2 [Z] (.cal 20 %[.var 0,.var 2|_]) (.cal 10 %[.var 0,.var 1|_]) (.cst (.bool Z))|_])|_] .nil,.ret (.cal 20 %[.var 0,.var 1|_])|_]
noncomputable def xf:Sx:= %[.asg 2 (.sub (.atr 0 (.var 0)) (.var 1)),.asg 3 (.sub (.var 2) (.cst (.int 0))),.ife (.cmp .eq (.var 3) (.glb 23)) %[.ret (.getD (.glb 25) (.var 1) (.glb 24))|_] .nil,.ife (.cmp .eq (.var 3) (.glb 26)) %[.ret (.glb 27)|_] .nil,.ife (.cmp .inn (.var 3) (.glb 28)) %[.ret (.glb 29)|_] .nil,.ife (.cmp .eq (.var 3) (.glb 5)) %[.ret .hole|_] .nil,.ife (.cmp .eq (.var 3) (.glb 30)) %[.ret .hole|_] .nil,.asg 4 (.cal 11 %[.var 2|_]),.ife (.cmp .lt (.var 4) (.cst (.int 0))) %[.ret (.glb 24)|_] .nil,.ret (.ite (.cmp .eq (.var 4) (.glb 7)) (.glb 31) (.glb 32))|_]
noncomputable def gp:Sx:= %[.ret (.bop N %[.cmp .eq (.var 0) (.glb 33),.cmp .eq (.var 0) (.glb 34),.cmp .eq (.var 0) (.glb 35)|_])|_]
noncomputable def pY:Sx:= %[.asg 2 (.cal 10 %[.var 0,.var 1|_]),.ret (.bop Z %[.cmp .gt (.fn1 .len (.var 2)) (.cst (.int 0)),.fn1 .all (.comp N 3 [Z] (.cal 18 %[.var 0,.var 3|_]) (.var 2) (.cst (.bool Z)))|_])|_]
noncomputable def ki:Sx:= %[.asg 2 (.sub (.atr 0 (.var 0)) (.var 1)),.ife (.cmp .eq (.sub (.var 2) (.cst (.int 0))) (.glb 10)) %[.ret (.mth 30 (.var 0) %[.tup %[.ite (.fn1 .isStr (.sub (.var 2) (.cst (.int 3)))) (.glb 3) (.glb 8),.sub (.var 2) (.cst (.int 3)),.cst (.int 0)|_]|_])|_] .nil,.ret (.cal 20 %[.var 0,.var 1|_])|_]
noncomputable def md:Sx:= %[.ife (.bop N %[.cmp .eq (.sub (.sub (.atr 0 (.var 0)) (.var 1)) (.cst (.int 0))) (.glb 30),.cmp .eq (.sub (.sub (.atr 0 (.var 0)) (.var 2)) (.cst (.int 0))) (.glb 30)|_]) %[.ret (.cst (.bool N))|_] .nil,.ret (.cmp .eq (.cal 34 %[.var 0,.cal 25 %[.var 0,.var 1|_],.cal 25 %[.var 0,.var 2|_]|_]) (.glb 36))|_]
noncomputable def mh:Sx:= %[.asg 3 (.ite (.bin .band (.sub (.var 1) (.cst (.int 2))) (.glb 37)) .hole (.sub (.var 1) (.cst (.int 1)))),.asg 4 (.ite (.bin .band (.sub (.var 2) (.cst (.int 2))) (.glb 37)) .hole (.sub (.var 2) (.cst (.int 1)))),.ife (.bop Z %[.nt (.cal 24 %[.var 0,.var 3|_]),.nt (.cal 24 %[.var 0,.var 4|_])|_]) %[.ret (.cst (.bool N))|_] .nil,.frN 5 (.cal 10 %[.var 0,.var 3|_]) %[.ife (.nt (.fn1 .all (.comp N 6 [Z,N,N,N,N,Z] (.cal 26 %[.var 0,.var 5,.var 6|_]) (.cal 10 %[.var 0,.var 4|_]) (.cst (.bool Z))))) %[.ret (.cst (.bool N))|_] .nil|_],.ret (.bop Z %[.cmp .ne (.var 3) (.glb 4),.cmp .ne (.var 4) (.glb 4)|_])|_]
noncomputable def oQ:Sx:= %[.ret (.ite (.cmp .lt (.sub (.var 1) (.cst (.int 1))) (.fn1 .len (.atr 2 (.var 0)))) (.sub (.atr 2 (.var 0)) (.sub (.var 1) (.cst (.int 1)))) (.cst .none))|_]
noncomputable def nU:Sx:= %[.asg 2 (.cal 28 %[.var 0,.var 1|_]),.ife (.bop N %[.isN N (.var 2),.cmp .lt (.atr 14 (.var 2)) (.cst (.int 0)),.cmp .ne (.cal 7 %[.var 0,.atr 14 (.var 2)|_]) (.glb 38)|_]) %[.ret (.tup %[.tup .nil,.tup .nil|_])|_] .nil,.ret (.tup %[.sub (.sub (.atr 0 (.var 0)) (.atr 14 (.var 2))) (.cst (.int 1)),.fn1 .tup (.atr 15 (.var 2))|_])|_]
noncomputable def oW:Sx:= %[.asg 2 (.dct N .str),.asg 3 (.dct N .int),.asg 4 (.lst .loc %[.var 1|_]),.whl 64 (.var 4) %[.asg 5 (.pop (.var 4)),.asg 6 (.sub (.atr 0 (.var 0)) (.var 5)),.as2 9 10 (.tup %[.tup .nil,.tup .nil|_]),.ife (.cmp .eq (.sub (.var 6) (.cst (.int 0))) (.glb 38)) %[.asg 9 (.sub (.var 6) (.cst (.int 1)))|_] %[.ife (.bop Z %[.cmp .eq (.sub (.var 6) (.cst (.int 0))) (.glb 39),.cmp .nin (.sub (.var 6) (.cst (.int 1))) (.var 3)|_]) %[.sti (.var 3) (.sub (.var 6) (.cst (.int 1))) (.cst (.int 1)),.as2 9 10 (.cal 29 %[.var 0,.var 6|_])|_] .nil|_],.frN 7 (.var 9) %[.ife (.cmp .nin (.sub (.var 7) (.cst (.int 0))) (.var 2)) %[.sti (.var 2) (.sub (.var 7) (.cst (.int 0))) (.var 7)|_] .nil|_],.frN 8 (.var 10) %[.exp .hole|_]|_],.ret (.var 2)|_]
noncomputable def lh:Sx:= %[.asg 3 (.cal 30 %[.var 0,.var 1|_]),.asg 4 (.cal 30 %[.var 0,.var 2|_]),.ret (.fn1 .any (.comp N 5 [Z,N,N,Z,Z] (.bop Z %[.cmp .inn (.var 5) (.var 4),.cal 27 %[.var 0,.sub (.var 3) (.var 5),.sub (.var 4) (.var 5)|_]|_]) (.fn1 .srt (.var 3)) (.cst (.bool Z))))|_]
noncomputable def mF:Sx:= %[.ife (.cmp .ne (.var 3) (.var 4)) %[.ret (.glb 36)|_] .nil,.ife (.bop Z %[.cal 18 %[.var 0,.var 1|_],.cal 18 %[.var 0,.var 2|_]|_]) %[.ret (.glb 36)|_] .nil,.ife (.bop N %[.cmp .eq (.var 1) (.glb 7),.cmp .eq (.var 1) (.glb 9)|_]) %[.ret (.glb 40)|_] .nil,.ife (.bop N %[.cmp .eq (.var 2) (.glb 7),.cmp .eq (.var 2) (.glb 9)|_]) %[.ret (.glb 41)|_] .nil,.ret (.glb 42)|_]
noncomputable def k4:Sx:= %[.ife (.cmp .eq (.var 1) (.glb 43)) %[.ret (.glb 40)|_] .nil,.ife (.cmp .eq (.var 2) (.glb 43)) %[.ret (.glb 41)|_] .nil,.ife (.cmp .ne (.var 3) (.var 4)) %[.ret (.ite (.bop N %[.cmp .eq (.var 1) (.glb 44),.cmp .eq (.var 2) (.glb 44)|_]) (.glb 36) (.glb 42))|_] .nil,.ret (.ite (.cal 31 %[.var 0,.var 1,.var 2|_]) (.glb 36) (.glb 42))|_]
noncomputable def rc:Sx:= %[.ife (.bop N %[.cmp .eq (.var 1) (.var 2),.cmp .eq (.cal 12 %[.var 0,.var 2|_]) (.var 1)|_]) %[.ret (.glb 41)|_] .nil,.ife (.cmp .eq (.cal 12 %[.var 0,.var 1|_]) (.var 2)) %[.ret (.glb 40)|_] .nil,.asg 3 (.cal 22 %[.var 0,.var 1|_]),.asg 4 (.cal 22 %[.var 0,.var 2|_]),.ife (.bop N %[.cmp .eq (.var 3) (.glb 24),.cmp .eq (.var 4) (.glb 24)|_]) %[.ret (.glb 42)|_] .nil,.ife (.bop N %[.cal 23 %[.var 3|_],.cal 23 %[.var 4|_]|_]) %[.ret .hole|_] .nil,.ife (.bop N %[.cmp .eq (.var 3) (.glb 29),.cmp .eq (.var 4) (.glb 29)|_]) %[.ret (.cal 33 %[.var 0,.var 1,.var 2,.var 3,.var 4|_])|_] .nil,.ret (.cal 32 %[.var 0,.var 1,.var 2,.var 3,.var 4|_])|_]
noncomputable def wr:Sx:= %[.asg 3 (.lst .loc .nil),.asg 4 (.cst (.bool N)),.frN 5 (.var 1) %[.asg 6 (.cal 34 %[.var 0,.var 5,.var 2|_]),.ife (.cmp .eq (.var 6) (.glb 36)) %[.ret (.cst .none)|_] .nil,.ife (.cmp .eq (.var 6) (.glb 41)) %[.asg 4 (.cst (.bool Z))|_] .nil,.ife (.cmp .ne (.var 6) (.glb 40)) %[.exp (.app (.var 3) (.var 5))|_] .nil|_],.ife (.nt (.var 4)) %[.exp (.app (.var 3) (.var 2))|_] .nil,.ret (.var 3)|_]
noncomputable def ir:Sx:= %[.asg 2 (.sub (.atr 0 (.var 0)) (.var 1)),.ife (.cmp .eq (.sub (.var 2) (.cst (.int 0))) (.glb 39)) %[.asg 3 (.cal 28 %[.var 0,.var 2|_]),.ife (.bop Z %[.isN Z (.var 3),.cmp .eq (.atr 11 (.var 3)) (.glb 45),.cmp .eq (.atr 14 (.var 3)) (.glb 43)|_]) %[.ret (.tup %[.glb 43|_])|_] .nil|_] .nil,.ife (.cmp .eq (.sub (.var 2) (.cst (.int 0))) (.glb 30)) %[.ret (.sub (.var 2) (.cst (.int 1)))|_] .nil,.ife (.cmp .eq (.sub (.var 2) (.cst (.int 0))) (.glb 38)) %[.ret (.tup %[.cal 20 %[.var 0,.var 1|_]|_])|_] .nil,.ret (.tup %[.var 1|_])|_]
noncomputable def nY:Sx:= %[.asc 3 (.comp N 4 [] (.var 4) (.cal 36 %[.var 0,.var 1|_]) (.cst (.bool Z))),.frN 4 (.cal 36 %[.var 0,.var 2|_]) %[.asg 3 (.cal 35 %[.var 0,.var 3,.var 4|_]),.ife (.isN N (.var 3)) %[.ret (.glb 4)|_] .nil|_],.ife (.cmp .eq (.fn1 .len (.var 3)) (.cst (.int 1))) %[.ret (.sub (.var 3) (.cst (.int 0)))|_] .nil,.ret (.mth 30 (.var 0) %[.tup %[.glb 30,.fn1 .tup (.comp N 4 [Z] (.cal 20 %[.var 0,.var 4|_]) (.var 3) (.cst (.bool Z)))|_]|_])|_]
noncomputable def sx:Sx:= %[.ife (.bop N %[.cmp .eq (.var 1) (.var 2),.cmp .eq (.var 2) (.glb 18)|_]) %[.ret (.var 1)|_] .nil,.ife (.cmp .eq (.var 1) (.glb 18)) %[.ret (.var 2)|_] .nil,.asg 3 (.dct N .int),.asT 6 7 (.tup %[.cal 10 %[.var 0,.var 1|_],.cal 10 %[.var 0,.var 2|_]|_]),.asg 4 (.bop Z %[.cmp .gt (.fn1 .len (.var 6)) (.cst (.int 1)),.cmp .gt (.fn1 .len (.var 7)) (.cst (.int 1))|_]),.frN 5 (.var 6) %[.frN 8 (.var 7) %[.asg 9 (.cal 37 %[.var 0,.var 5,.var 8|_]),.ife (.cmp .ne (.var 9) (.glb 4)) %[.sti (.var 3) (.var 9) (.cst (.int 1))|_] .nil,.ife (.bop Z %[.var 4,.cmp .gt (.fn1 .len (.var 3)) (.glb 46)|_]) %[.hole|_] .nil|_]|_],.ret (.cal 16 %[.var 0,.fn1 .srt (.var 3)|_])|_]
noncomputable def AH:Sx:= %[.frN 2 (.tup %[.glb 4,.glb 16,.glb 17|_]) %[.ife (.cmp .inn (.var 2) (.var 1)) %[.ret (.var 2)|_] .nil|_],.asg 3 (.glb 18),.frR 4 (.fn1 .len (.var 1)) %[.ife (.cmp .nin (.sub (.var 1) (.var 4)) (.slT (.var 1) (.var 4))) %[.asg 3 (.cal 38 %[.var 0,.var 3,.sub (.var 1) (.var 4)|_])|_] .nil|_],.ret (.var 3)|_]
noncomputable def mz:Sx:= %[.ife (.cmp .ne (.sub (.var 1) (.cst (.int 0))) (.glb 10)) %[.ret (.cst (.bool N))|_] .nil,.asg 3 (.ite (.fn1 .isStr (.sub (.var 1) (.cst (.int 3)))) (.glb 3) (.glb 8)),.ret (.cmp .inn (.getD (.atr 1 (.var 0)) (.tup %[.var 3,.sub (.var 1) (.cst (.int 3)),.cst (.int 0)|_]) (.neg (.cst (.int 1)))) (.var 2))|_]
noncomputable def qS:Sx:= %[.ife (.bop N %[.cmp .eq (.var 2) (.glb 16),.cmp .eq (.var 2) (.glb 18),.cmp .eq (.var 2) (.glb 17)|_]) %[.ret (.cst (.bool Z))|_] .nil,.asg 3 (.cal 10 %[.var 0,.cal 21 %[.var 0,.var 2|_]|_]),.frN 4 (.cal 10 %[.var 0,.cal 21 %[.var 0,.var 1|_]|_]) %[.asg 5 (.sub (.atr 0 (.var 0)) (.var 4)),.asg 6 (.bop N %[.cmp .inn (.var 4) (.var 3),.cmp .inn (.cal 11 %[.var 5|_]) (.var 3),.cal 40 %[.var 0,.var 5,.var 3|_]|_]),.ife (.bop Z %[.nt (.var 6),.nt (.bop Z %[.cmp .eq (.var 4) (.glb 21),.cmp .inn (.glb 47) (.var 3)|_])|_]) %[.ret (.cst (.bool N))|_] .nil|_],.ret (.cst (.bool Z))|_]
noncomputable def iX:Sx:= %[.frN 3 (.cal 10 %[.var 0,.var 1|_]) %[.asg 4 (.sub (.atr 0 (.var 0)) (.var 3)),.ife (.bop N %[.cmp .eq (.var 3) (.glb 18),.cmp .eq (.var 3) (.glb 16),.cal 23 %[.cal 22 %[.var 0,.var 3|_]|_]|_]) %[.ret (.cst (.bool Z))|_] .nil,.ife (.cmp .eq (.sub (.var 4) (.cst (.int 0))) (.glb 48)) %[.asg 5 (.sub (.atr 3 (.var 0)) (.sub (.var 4) (.cst (.int 1)))),.ife (.bop N %[.cmp .lt (.var 5) (.cst (.int 0)),.cmp .gt (.var 2) (.cst (.int 20)),.cal 42 %[.var 0,.var 5,.bin .add (.var 2) (.cst (.int 1))|_]|_]) %[.ret (.cst (.bool Z))|_] .nil|_] %[.ife (.bop N %[.cmp .eq (.sub (.var 4) (.cst (.int 0))) (.glb 49),.cmp .eq (.sub (.var 4) (.cst (.int 0))) (.glb 50),.cmp .eq (.sub (.var 4) (.cst (.int 0))) (.glb 51)|_]) %[.ret (.cst (.bool Z))|_] %[.ife (.bop Z %[.cmp .eq (.sub (.var 4) (.cst (.int 0))) (.glb 30),.hole|_]) %[.ret (.cst (.bool Z))|_] %[.ife (.bop Z %[.cmp .eq (.sub (.var 4) (.cst (.int 0))) (.glb 52),.hole|_]) %[.ret (.cst (.bool Z))|_] .nil|_]|_]|_]|_],.ret (.cst (.bool N))|_]
noncomputable def mD:Sx:= %[.ife (.cmp .eq (.var 1) (.glb 18)) %[.ret (.glb 43)|_] .nil,.ife (.cal 23 %[.cal 22 %[.var 0,.var 1|_]|_]) %[.ret (.glb 4)|_] .nil,.ife (.cal 42 %[.var 0,.var 1|_]) %[.ret (.cal 39 %[.var 0,.tup %[.var 1,.glb 43|_]|_])|_] .nil,.ret (.var 1)|_]
noncomputable def iW:Sx:= %[.ret (.cal 16 %[.var 0,.comp N 2 [Z] (.cal 43 %[.var 0,.var 2|_]) (.cal 10 %[.var 0,.var 1|_]) (.cst (.bool Z))|_])|_]
noncomputable def jW:Sx:= %[.ife (.cmp .eq (.sub (.var 0) (.cst (.int 0))) (.glb 10)) %[.ret (.bop Z %[.cmp .ne (.sub (.var 0) (.cst (.int 3))) (.cst (.int 0)),.cmp .ne (.sub (.var 0) (.cst (.int 3))) (.cst (.str []))|_])|_] .nil,.ret (.bop Z %[.cmp .ne (.sub (.var 0) (.cst (.int 1))) (.cst (.int 0)),.cmp .ne (.sub (.var 0) (.cst (.int 1))) (.cst (.str []))|_])|_]
noncomputable def qV:Sx:= %[.asg 1 (.cal 43 %[.var 0,.var 1|_]),.ife (.cal 17 %[.var 0,.var 1|_]) %[.ret (.ite (.cal 45 %[.sub (.atr 0 (.var 0)) (.var 1)|_]) (.var 1) (.glb 4))|_] .nil,.ret (.var 1)|_]
noncomputable def mI:Sx:= %[.ret (.cal 16 %[.var 0,.comp N 2 [Z] (.cal 46 %[.var 0,.var 2|_]) (.cal 10 %[.var 0,.var 1|_]) (.cst (.bool Z))|_])|_]
noncomputable def mj:Sx:= %[.asg 2 (.lst .loc .nil),.asg 3 (.dct N .int),.asg 4 (.lst .loc %[.var 1|_]),.whl 64 (.var 4) %[.asg 5 (.pop (.var 4)),.ife (.bop N %[.cmp .inn (.var 5) (.var 3),.cmp .lt (.var 5) (.cst (.int 0)),.cmp .eq (.cal 22 %[.var 0,.var 5|_]) (.glb 24)|_]) %[.hole|_] .nil,.sti (.var 3) (.var 5) (.cst (.int 1)),.asg 6 (.sub (.atr 0 (.var 0)) (.var 5)),.ife (.cmp .eq (.sub (.var 6) (.cst (.int 0))) (.glb 30)) %[.exp (.ext (.var 4) (.sub (.var 6) (.cst (.int 1))))|_] %[.ife (.bop Z %[.cmp .eq (.sub (.var 6) (.cst (.int 0))) (.glb 39),.isN N (.cal 28 %[.var 0,.var 6|_])|_]) %[.ret (.cst .none)|_] %[.ife (.cmp .eq (.sub (.var 6) (.cst (.int 0))) (.glb 39)) %[.exp (.app (.var 4) (.atr 14 (.sub (.atr 2 (.var 0)) (.sub (.var 6) (.cst (.int 1)))))),.exp (.ext (.var 4) (.atr 15 (.sub (.atr 2 (.var 0)) (.sub (.var 6) (.cst (.int 1))))))|_] %[.ife (.bop N %[.cmp .ne (.sub (.var 6) (.cst (.int 0))) (.glb 38),.sub (.var 6) (.cst (.int 2)),.sub (.var 6) (.cst (.int 3)),.sub (.var 6) (.cst (.int 4)),.cmp .eq (.sub (.var 6) (.cst (.int 6))) (.cst (.int 1))|_]) %[.ret (.cst .none)|_] %[.exp (.ext (.var 2) (.sub (.var 6) (.cst (.int 1))))|_]|_]|_]|_]|_],.ret (.var 2)|_]
noncomputable def jm:Sx:= %[.asg 2 (.cal 48 %[.var 0,.var 1|_]),.ife (.isN N (.var 2)) %[.ret (.cst (.bool N))|_] .nil,.frN 3 (.var 2) %[.ife (.bop Z %[.cmp .eq (.bin .band (.sub (.var 3) (.cst (.int 2))) (.glb 37)) (.cst (.int 0)),.cmp .nin (.sub (.var 3) (.cst (.int 0))) (.glb 53)|_]) %[.ret (.cst (.bool N))|_] .nil|_],.ret (.bop N %[.nt (.var 2),.fn1 .any (.comp N 3 [] (.cmp .inn (.sub (.var 3) (.cst (.int 0))) (.glb 53)) (.var 2) (.cst (.bool Z)))|_])|_]
noncomputable def sE:Sx:= %[.asg 2 (.sub (.atr 0 (.var 0)) (.var 1)),.ife (.cal 17 %[.var 0,.var 1|_]) %[.ret (.ite (.cal 45 %[.var 2|_]) (.glb 4) (.var 1))|_] .nil,.ife (.cmp .eq (.var 1) (.glb 7)) %[.ret (.cal 8 %[.var 0,.cst (.str [])|_])|_] .nil,.ife (.cmp .eq (.sub (.var 2) (.cst (.int 0))) (.glb 6)) %[.ret (.ite (.cmp .eq .hole (.cst (.str []))) (.cal 8 %[.var 0,.cst (.str [])|_]) (.glb 4))|_] .nil,.ife (.cmp .eq (.cal 22 %[.var 0,.var 1|_]) (.glb 29)) %[.ret (.ite (.cal 49 %[.var 0,.var 1|_]) (.var 1) (.glb 4))|_] .nil,.ret (.var 1)|_]
noncomputable def ow:Sx:= %[.ret (.cal 16 %[.var 0,.comp N 2 [Z] (.cal 50 %[.var 0,.var 2|_]) (.cal 10 %[.var 0,.var 1|_]) (.cst (.bool Z))|_])|_]
noncomputable def mA:Sx:= %[.frR 2 (.glb 54) %[.ife (.cmp .lt (.var 1) (.cst (.int 0))) %[.hole|_] .nil,.asg 3 (.sub (.atr 0 (.var 0)) (.var 1)),.ife (.cmp .eq (.sub (.var 3) (.cst (.int 0))) (.glb 38)) %[.ret (.var 1)|_] .nil,.ife (.cmp .eq (.sub (.var 3) (.cst (.int 0))) (.glb 55)) %[.ret .hole|_] .nil,.ife (.cmp .inn (.sub (.var 3) (.cst (.int 0))) (.glb 56)) %[.ret (.glb 43)|_] .nil,.ife (.bop N %[.cmp .ne (.sub (.var 3) (.cst (.int 0))) (.glb 39),.sub (.var 3) (.cst (.int 2)),.atr 15 (.sub (.atr 2 (.var 0)) (.sub (.var 3) (.cst (.int 1))))|_]) %[.hole|_] .nil,.asg 1 (.atr 14 (.sub (.atr 2 (.var 0)) (.sub (.var 3) (.cst (.int 1)))))|_],.hole|_]
noncomputable def tj:Sx:= %[.ret (.sub (.sub (.atr 0 (.atr 25 (.var 0))) (.mth 32 (.var 0) %[.var 1|_])) (.cst (.int 2)))|_]
noncomputable def sV:Sx:= %[.ret (.sub (.sub (.atr 0 (.atr 25 (.var 0))) (.mth 32 (.var 0) %[.var 1|_])) (.cst (.int 3)))|_]
noncomputable def mi:Sx:= %[.asg 2 (.sub (.atr 0 (.var 0)) (.var 1)),.ife (.cmp .eq (.var 1) (.glb 21)) %[.ret (.tup %[.glb 34,.cst (.int 0)|_])|_] .nil,.ife (.cmp .eq (.var 1) (.glb 22)) %[.ret (.tup %[.glb 33,.cst (.int 0)|_])|_] .nil,.ife (.cmp .eq (.sub (.var 2) (.cst (.int 0))) (.glb 10)) %[.ret (.tup %[.cal 22 %[.var 0,.var 1|_],.sub (.var 2) (.cst (.int 3))|_])|_] .nil,.ife (.cmp .inn (.sub (.var 2) (.cst (.int 0))) (.tup %[.glb 26,.glb 3,.glb 8|_])) %[.ret (.tup %[.cal 22 %[.var 0,.var 1|_],.sub (.var 2) (.cst (.int 1))|_])|_] .nil,.ret (.tup .nil)|_]
noncomputable def mr:Sx:= %[.asg 4 (.cal 22 %[.var 0,.var 1|_]),.asg 5 (.cal 22 %[.var 0,.var 2|_]),.ife (.bop N %[.cmp .eq (.var 4) (.glb 24),.cmp .eq (.var 5) (.glb 24)|_]) %[.ret (.cst (.bool Z))|_] .nil,.ife (.cmp .eq (.var 4) (.var 5)) %[.asg 6 (.cal 55 %[.var 0,.var 1|_]),.asg 7 (.cal 55 %[.var 0,.var 2|_]),.ret (.bop N %[.cmp .eq (.var 6) (.tup .nil),.cmp .eq (.var 7) (.tup .nil),.cmp .eq (.var 6) (.var 7)|_])|_] .nil,.ife (.bop Z %[.cmp .inn (.var 4) (.glb 57),.cmp .inn (.var 5) (.glb 57)|_]) %[.ret (.bop N %[.nt (.var 3),.cmp .nin (.glb 33) (.tup %[.var 4,.var 5|_])|_])|_] .nil,.ret (.bop Z %[.nt (.var 3),.cmp .inn (.var 4) (.glb 58),.cmp .inn (.var 5) (.glb 58)|_])|_]
noncomputable def hZ:Sx:= %[.asg 2 (.cal 10 %[.var 0,.var 1|_]),.ret (.bop Z %[.cmp .gt (.fn1 .len (.var 2)) (.cst (.int 0)),.fn1 .all (.comp N 3 [Z] (.cmp .inn (.cal 22 %[.var 0,.var 3|_]) (.glb 57)) (.var 2) (.cst (.bool Z)))|_])|_]
noncomputable def vI:Sx:= %[.asg 3 (.cal 22 %[.var 0,.var 1|_]),.ife (.bop N %[.cmp .inn (.var 1) (.tup %[.glb 7,.glb 9|_]),.cmp .eq (.cal 7 %[.var 0,.var 1|_]) (.glb 6)|_]) %[.ife (.fn1 .all (.comp N 4 [Z,N,N,Z] (.bop Z %[.cmp .eq (.cal 22 %[.var 0,.var 4|_]) (.var 3),.cmp .ne (.cal 55 %[.var 0,.var 4|_]) (.tup .nil)|_]) (.var 2) (.cst (.bool Z)))) %[.ret (.cal 16 %[.var 0,.var 2|_])|_] .nil|_] .nil,.ife (.bop Z %[.cmp .eq (.var 3) (.glb 24),.fn1 .all (.comp N 4 [Z] (.cmp .inn (.cal 22 %[.var 0,.var 4|_]) (.glb 57)) (.var 2) (.cst (.bool Z)))|_]) %[.ret (.cal 39 %[.var 0,.tup %[.var 1,.cal 16 %[.var 0,.var 2|_]|_]|_])|_] .nil,.ret (.var 1)|_]
noncomputable def fm:Sx:= %[.ife (.nt (.var 2)) %[.ret (.cal 51 %[.var 0,.var 1|_])|_] .nil,.ret (.cal 44 %[.var 0,.cal 47 %[.var 0,.var 1|_]|_])|_]
noncomputable def lj:Sx:= %[.ife (.nt (.var 3)) %[.asg 2 (.cal 16 %[.var 0,.tup %[.glb 21,.glb 22|_]|_])|_] .nil,.ife (.cmp .eq (.var 1) (.glb 18)) %[.ret (.var 2)|_] .nil,.asg 4 (.lst .loc .nil),.frN 5 (.cal 10 %[.var 0,.var 1|_]) %[.ife (.cmp .inn (.cal 22 %[.var 0,.var 5|_]) (.glb 57)) %[.ife (.fn1 .any (.comp N 6 [Z,N,N,Z,N,Z] (.cal 56 %[.var 0,.var 5,.var 6,.var 3|_]) (.cal 10 %[.var 0,.var 2|_]) (.cst (.bool Z)))) %[.exp (.app (.var 4) (.var 5))|_] .nil|_] %[.ife (.cmp .inn (.var 5) (.tup %[.glb 16,.glb 17|_])) %[.exp (.app (.var 4) (.var 5))|_] %[.ife (.cal 42 %[.var 0,.var 5|_]) %[.exp (.app (.var 4) (.cal 39 %[.var 0,.tup %[.var 5,.var 2|_]|_]))|_] .nil|_]|_]|_],.ret (.cal 16 %[.var 0,.var 4|_])|_]
noncomputable def jV:Sx:= %[.ife (.bop Z %[.nt (.var 2),.cal 57 %[.var 0,.var 1|_]|_]) %[.ret (.cal 16 %[.var 0,.tup %[.glb 21,.glb 22|_]|_])|_] .nil,.asc 3 (.comp N 5 [Z] (.cal 22 %[.var 0,.var 5|_]) (.cal 10 %[.var 0,.var 1|_]) (.cst (.bool Z))),.ife (.bop N %[.nt (.var 2),.cmp .inn (.glb 24) (.var 3),.cmp .inn (.glb 35) (.var 3)|_]) %[.ret (.glb 18)|_] .nil,.ife (.cmp .inn (.glb 29) (.var 3)) %[.asg 4 (.fn1 .all (.comp N 6 [] (.cmp .eq (.var 6) (.glb 29)) (.var 3) (.cst (.bool Z)))),.ife (.bop Z %[.var 4,.nt (.fn1 .any (.comp N 5 [Z] (.cal 49 %[.var 0,.var 5|_]) (.cal 10 %[.var 0,.var 1|_]) (.cst (.bool Z))))|_]) %[.ret (.glb 44)|_] .nil,.ret (.glb 18)|_] .nil,.ret (.var 1)|_]
noncomputable def iE:Sx:= %[.ife (.cmp .eq (.var 1) (.glb 18)) %[.ret (.cal 61 %[.var 0,.var 2,.var 3|_])|_] .nil,.ife (.cal 57 %[.var 0,.var 2|_]) %[.ret (.cal 60 %[.var 0,.var 1,.var 2,.var 3|_])|_] .nil,.asg 4 (.lst .loc .nil),.frN 5 (.cal 10 %[.var 0,.var 1|_]) %[.asc 6 (.comp N 7 [Z,N,N,Z,N,Z] (.var 7) (.cal 10 %[.var 0,.var 2|_]) (.cal 56 %[.var 0,.var 5,.var 7,.var 3|_])),.ife (.var 6) %[.exp (.app (.var 4) (.cal 58 %[.var 0,.var 5,.var 6|_]))|_] .nil|_],.ret (.cal 16 %[.var 0,.var 4|_])|_]
noncomputable def ji:Sx:= %[.asg 3 (.cal 55 %[.var 0,.var 2|_]),.ife (.cmp .eq (.var 3) (.tup .nil)) %[.ret (.var 1)|_] .nil,.ife (.bop Z %[.cmp .eq (.var 1) (.glb 18),.cmp .inn (.sub (.var 3) (.cst (.int 0))) (.glb 57)|_]) %[.ret (.cal 16 %[.var 0,.tup %[.glb 43,.ite (.cmp .eq (.var 2) (.glb 21)) (.glb 22) (.glb 21)|_]|_])|_] .nil,.asg 4 (.lst .loc .nil),.frN 5 (.cal 10 %[.var 0,.var 1|_]) %[.asg 6 (.bop Z %[.cmp .inn (.sub (.var 3) (.cst (.int 0))) (.tup %[.glb 33,.glb 34|_]),.cmp .eq (.cal 22 %[.var 0,.var 5|_]) (.sub (.var 3) (.cst (.int 0)))|_]),.ife (.bop Z %[.cmp .ne (.cal 55 %[.var 0,.var 5|_]) (.var 3),.nt (.var 6),.nt (.bop Z %[.cmp .eq (.var 5) (.glb 47),.cmp .eq (.var 2) (.glb 21)|_])|_]) %[.exp (.app (.var 4) (.var 5))|_] .nil|_],.ret (.cal 16 %[.var 0,.var 4|_])|_]
noncomputable def fw:Sx:= %[.ife (.bop N %[.cmp .inn (.var 1) (.tup %[.glb 16,.glb 17|_]),.cmp .inn (.var 2) (.tup %[.glb 16,.glb 17,.glb 18|_])|_]) %[.ret (.var 1)|_] .nil,.ife (.var 3) %[.ret (.cal 62 %[.var 0,.var 1,.var 2,.var 4|_])|_] .nil,.ife (.bop Z %[.nt (.var 4),.cal 57 %[.var 0,.var 2|_]|_]) %[.ret (.cal 44 %[.var 0,.var 1|_])|_] .nil,.ret (.cal 63 %[.var 0,.var 1,.var 2|_])|_]
noncomputable def gq:Sx:= %[.asg 4 (.getD (.glb 59) (.cal 22 %[.var 0,.var 1|_]) (.cst (.str []))),.ife (.cmp .ne (.var 4) (.cst (.str []))) %[.ret (.ite (.cmp .eq (.cmp .eq (.var 4) (.var 2)) (.var 3)) (.var 1) (.glb 4))|_] .nil,.ife (.bop N %[.nt (.var 3),.bop Z %[.cmp .inn (.var 1) (.tup %[.glb 16,.glb 17|_]),.cmp .nin (.var 2) (.glb 60)|_]|_]) %[.ret (.var 1)|_] .nil,.ife (.cmp .eq (.var 2) (.cst (.str [111,98,106,101,99,116]))) %[.ret (.cal 39 %[.var 0,.tup %[.var 1,.cal 16 %[.var 0,.tup %[.glb 44,.glb 22|_]|_]|_]|_])|_] .nil,.ife (.cmp .nin (.var 2) (.glb 60)) %[.ret (.var 1)|_] .nil,.ife (.cmp .inn (.var 1) (.tup %[.glb 16,.glb 17|_])) %[.ret (.sub (.glb 60) (.var 2))|_] .nil,.ret (.cal 39 %[.var 0,.tup %[.var 1,.sub (.glb 60) (.var 2)|_]|_])|_]
noncomputable def fu:Sx:= %[.ret (.cmp .inn (.cal 22 %[.var 0,.var 1|_]) (.glb 61))|_]
noncomputable def jU:Sx:= %[.ret (.fn1 .all (.comp N 2 [Z] (.cal 66 %[.var 0,.var 2|_]) (.cal 10 %[.var 0,.var 1|_]) (.cst (.bool Z))))|_]
noncomputable def sM:Sx:= %[.asg 2 (.sub (.atr 0 (.var 0)) (.var 1)),.ife (.cmp .eq (.sub (.var 2) (.cst (.int 0))) (.glb 30)) %[.ret (.fn1 .all (.comp N 3 [Z] (.bop N %[.cmp .eq (.cal 22 %[.var 0,.var 3|_]) (.glb 24),.cal 49 %[.var 0,.var 3|_]|_]) (.sub (.var 2) (.cst (.int 1))) (.cst (.bool Z))))|_] .nil,.ret (.cal 49 %[.var 0,.var 1|_])|_]
noncomputable def pd:Sx:= %[.asg 4 (.atr 25 (.var 0)),.asg 5 (.cal 22 %[.var 4,.var 1|_]),.asg 6 (.cal 22 %[.var 4,.var 2|_]),.ife (.bop Z %[.cmp .eq (.var 5) (.glb 29),.cmp .eq (.var 6) (.glb 29)|_]) %[.ret (.bop N %[.cmp .ne (.cal 39 %[.var 4,.tup %[.var 1,.var 2|_]|_]) (.glb 4),.mth 33 (.var 0) %[.var 1,.var 2|_],.mth 33 (.var 0) %[.var 2,.var 1|_]|_])|_] .nil,.ife (.bop Z %[.cmp .eq (.var 5) (.glb 29),.cmp .ne (.var 6) (.glb 24)|_]) %[.ret (.bop Z %[.cal 68 %[.var 4,.var 1|_],.cmp .inn (.var 6) (.tup %[.glb 31,.glb 32,.glb 27|_])|_])|_] .nil,.ife (.bop Z %[.cmp .eq (.var 6) (.glb 29),.cmp .ne (.var 5) (.glb 24)|_]) %[.ret (.bop Z %[.cal 68 %[.var 4,.var 2|_],.cmp .inn (.var 5) (.tup %[.glb 31,.glb 32,.glb 27|_])|_])|_] .nil,.ret (.cal 56 %[.var 4,.var 1,.var 2,.var 3|_])|_]
noncomputable def lR:Sx:= %[.ife (.cmp .eq (.cal 7 %[.atr 25 (.var 0),.var 1|_]) (.glb 30)) %[.ret (.cst (.bool Z))|_] .nil,.frN 3 (.sub (.sub (.atr 0 (.atr 25 (.var 0))) (.mth 32 (.var 0) %[.var 1|_])) (.cst (.int 1))) %[.ife (.bop Z %[.cmp .eq (.bin .band (.sub (.var 3) (.cst (.int 2))) (.glb 37)) (.cst (.int 0)),.isN N .hole|_]) %[.ret (.cst (.bool N))|_] .nil|_],.ret (.cst (.bool Z))|_]
noncomputable def ib:Sx:= %[.asg 2 (.sub (.atr 0 (.var 0)) (.var 1)),.ife (.cmp .ne (.sub (.var 2) (.cst (.int 0))) (.glb 30)) %[.ret (.cst (.bool N))|_] .nil,.ret (.bop N %[.cmp .inn (.glb 44) (.sub (.var 2) (.cst (.int 1))),.fn1 .any (.comp N 3 [Z] (.cmp .eq (.cal 22 %[.var 0,.var 3|_]) (.glb 24)) (.sub (.var 2) (.cst (.int 1))) (.cst (.bool Z)))|_])|_]
noncomputable def kO:Sx:= %[.ife (.cmp .eq (.var 1) (.glb 44)) %[.ret (.tup %[.cst (.str [111,98,106,101,99,116]),.cst (.str [102,117,110,99,116,105,111,110])|_])|_] .nil,.ife (.cmp .inn (.cal 7 %[.atr 25 (.var 0),.var 1|_]) (.tup %[.glb 62,.glb 63|_])) %[.ret (.tup %[.cst (.str [111,98,106,101,99,116])|_])|_] .nil,.ife (.bop N %[.cmp .eq (.cal 7 %[.atr 25 (.var 0),.var 1|_]) (.glb 55),.cal 53 %[.var 0,.var 1|_],.cal 54 %[.var 0,.var 1|_]|_]) %[.ret (.tup %[.cst (.str [102,117,110,99,116,105,111,110])|_])|_] .nil,.ife (.nt (.cal 68 %[.atr 25 (.var 0),.var 1|_])) %[.ret (.ite (.cal 71 %[.atr 25 (.var 0),.var 1|_]) (.tup %[.cst (.str [111,98,106,101,99,116]),.cst (.str [102,117,110,99,116,105,111,110])|_]) (.tup %[.cst (.str [111,98,106,101,99,116])|_]))|_] .nil,.asg 2 (.lst .loc %[.cst (.str [111,98,106,101,99,116]),.cst (.str [102,117,110,99,116,105,111,110])|_]),.asg 3 (.tup %[.tup %[.cst (.str [115,116,114,105,110,103]),.glb 7|_],.tup %[.cst (.str [110,117,109,98,101,114]),.glb 9|_],.tup %[.cst (.str [98,111,111,108,101,97,110]),.glb 14|_]|_]),.fr2 4 5 (.var 3) %[.ife (.cal 70 %[.var 0,.var 1,.var 5|_]) %[.exp (.app (.var 2) (.var 4))|_] .nil|_],.ret (.fn1 .tup (.var 2))|_]
noncomputable def jZ:Sx:= %[.ret (.cal 59 %[.atr 25 (.var 0),.mth 31 (.var 0) %[.var 1|_],.var 2|_])|_]
noncomputable def mn:Sx:= %[.asg 5 (.cal 22 %[.atr 25 (.var 0),.var 1|_]),.ife (.cmp .eq (.var 5) (.glb 29)) %[.asg 6 (.cal 72 %[.var 0,.var 1|_]),.ife (.nt (.var 3)) %[.ret (.ite (.cmp .eq (.var 6) (.tup %[.var 2|_])) (.glb 4) (.var 1))|_] .nil,.ife (.cmp .nin (.var 2) (.var 6)) %[.ret (.glb 4)|_] .nil,.ret (.ite (.cmp .inn (.var 2) (.glb 60)) (.cal 39 %[.atr 25 (.var 0),.tup %[.var 1,.sub (.glb 60) (.var 2)|_]|_]) (.var 1))|_] .nil,.ife (.cmp .inn (.cal 7 %[.atr 25 (.var 0),.var 1|_]) (.glb 64)) %[.ret .hole|_] .nil,.ret (.cal 65 %[.atr 25 (.var 0),.var 1,.var 2,.var 3|_])|_]
noncomputable def j0:Sx:= %[.asg 1 (.mth 31 (.var 0) %[.var 1|_]),.ife (.bop Z %[.cmp .eq (.var 1) (.glb 18),.nt (.var 3),.cmp .inn (.var 2) (.tup %[.cst (.str [117,110,100,101,102,105,110,101,100]),.cst (.str [111,98,106,101,99,116])|_])|_]) %[.ret (.cal 16 %[.atr 25 (.var 0),.tup %[.glb 43,.ite (.cmp .eq (.var 2) (.cst (.str [117,110,100,101,102,105,110,101,100]))) (.glb 22) (.glb 21)|_]|_])|_] .nil,.asg 5 (.cal 10 %[.atr 25 (.var 0),.var 1|_]),.ret (.cal 16 %[.atr 25 (.var 0),.comp N 6 [Z,N,Z,Z,Z] (.cal 74 %[.var 0,.var 6,.var 2,.var 3,.var 4|_]) (.var 5) (.cst (.bool Z))|_])|_]
noncomputable def kg:Sx:= %[.ret (.cal 75 %[.var 0,.var 1,.var 2,.var 3,.cst (.int 0)|_])|_]
noncomputable def oH:Sx:= %[.asg 4 (.atr 25 (.var 0)),.asc 5 (.comp N 6 [Z,Z,N,Z] (.var 6) (.cal 10 %[.var 4,.var 2|_]) (.cal 69 %[.var 0,.var 1,.var 6,.var 3|_])),.ife (.nt (.var 5)) %[.ret (.glb 4)|_] .nil,.ife (.bop Z %[.cmp .eq (.cal 22 %[.var 4,.var 1|_]) (.glb 29),.fn1 .all (.comp N 6 [N,N,N,N,Z] (.cal 66 %[.var 4,.var 6|_]) (.var 5) (.cst (.bool Z)))|_]) %[.ret (.ite (.var 3) (.cal 16 %[.var 4,.comp N 6 [N,Z,N,N,Z] (.cal 39 %[.var 4,.tup %[.var 1,.var 6|_]|_]) (.var 5) (.cst (.bool Z))|_]) (.var 1))|_] .nil,.ret (.cal 58 %[.var 4,.var 1,.var 5|_])|_]
noncomputable def jq:Sx:= %[.asg 3 (.atr 25 (.var 0)),.asg 4 (.cal 64 %[.var 3,.var 1,.var 2,.cst (.bool N),.cst (.bool Z)|_]),.asg 5 (.lst .loc .nil),.frN 6 (.cal 10 %[.var 3,.var 4|_]) %[.ife (.bop Z %[.cmp .inn (.cal 7 %[.var 3,.var 6|_]) (.glb 64),.cal 42 %[.var 3,.var 6|_]|_]) %[.asg 6 (.cal 39 %[.var 3,.tup %[.var 6,.hole|_]|_])|_] .nil,.exp (.app (.var 5) (.var 6))|_],.ret (.cal 16 %[.var 3,.var 5|_])|_]
noncomputable def kG:Sx:= %[.asg 5 (.atr 25 (.var 0)),.asg 1 (.mth 31 (.var 0) %[.var 1|_]),.asg 2 (.mth 31 (.var 0) %[.var 2|_]),.asg 6 (.bop Z %[.cal 67 %[.var 5,.var 1|_],.cal 67 %[.var 5,.var 2|_]|_]),.ife (.bop Z %[.nt (.var 3),.var 4,.cmp .inn (.var 2) (.tup %[.glb 21,.glb 22|_])|_]) %[.ret (.cal 78 %[.var 0,.var 1,.var 2|_])|_] .nil,.ife (.bop N %[.var 6,.nt (.var 3),.cmp .eq (.var 1) (.glb 18),.cal 57 %[.var 5,.var 2|_]|_]) %[.ret (.cal 64 %[.var 5,.var 1,.var 2,.var 3,.var 4|_])|_] .nil,.ife (.bop N %[.cmp .inn (.var 1) (.tup %[.glb 16,.glb 17|_]),.cmp .inn (.var 2) (.tup %[.glb 16,.glb 17,.glb 18|_])|_]) %[.ret (.var 1)|_] .nil,.ret (.cal 16 %[.var 5,.comp N 7 [Z,N,Z,N,Z] (.cal 77 %[.var 0,.var 7,.var 2,.var 4|_]) (.cal 10 %[.var 5,.var 1|_]) (.cst (.bool Z))|_])|_]
noncomputable def qv:Sx:= %[.ret (.bin .add (.sub (.var 0) (.bin .mod (.var 1) (.fn1 .len (.var 0)))) (.bin .mul (.cst (.int 31)) (.bin .div (.var 1) (.fn1 .len (.var 0)))))|_]
noncomputable def oF:Sx:= %[.asg 1 (.mth 30 (.var 0) %[.tup %[.cst (.int 3),.cst (.str [97]),.cst (.int 0)|_]|_]),.asg 2 (.mth 30 (.var 0) %[.tup %[.cst (.int 3),.cst (.str [98]),.cst (.int 0)|_]|_]),.asg 3 (.cal 9 %[.var 0,.cst (.int 2),.cst (.str [74])|_]),.sta (.var 3) 14 (.mth 30 (.var 0) %[.tup %[.cst (.int 8),.tup %[.tup %[.cst (.str [109]),.cst (.int 7),.cst (.int 0),.cst (.int 0)|_]|_],.tup .nil,.tup .nil,.tup .nil,.tup .nil,.cst (.int 0)|_]|_]),.ret (.lst .val %[.tup %[.cst (.int 4),.tup %[.cst (.int 0)|_]|_],.tup %[.cst (.int 5),.tup %[.cst (.int 1)|_]|_],.tup %[.cst (.int 8),.tup %[.cst (.int 2)|_]|_],.tup %[.cst (.int 9),.tup %[.cst (.int 3)|_]|_],.tup %[.cst (.int 12),.tup %[.cst (.int 2),.cst (.int 3)|_]|_],.tup %[.cst (.int 14),.tup %[.cst (.int 2)|_]|_],.tup %[.mth 30 (.var 0) %[.tup %[.cst (.int 3),.cst (.str []),.cst (.int 0)|_]|_],.tup %[.cst (.int 4)|_]|_],.tup %[.var 1,.tup %[.cst (.int 5)|_]|_],.tup %[.mth 30 (.var 0) %[.tup %[.cst (.int 3),.cst (.str [97]),.cst (.int 1)|_]|_],.tup %[.cst (.int 5)|_]|_],.tup %[.mth 30 (.var 0) %[.tup %[.cst (.int 3),.cst (.str [98]),.cst (.int 1)|_]|_],.tup %[.cst (.int 6)|_]|_],.tup %[.mth 30 (.var 0) %[.tup %[.cst (.int 4),.cst (.int 0),.cst (.int 0)|_]|_],.tup %[.cst (.int 7)|_]|_],.tup %[.mth 30 (.var 0) %[.tup %[.cst (.int 4),.cst (.int 1),.cst (.int 1)|_]|_],.tup %[.cst (.int 8)|_]|_],.tup %[.mth 30 (.var 0) %[.tup %[.cst (.int 4),.neg (.cst (.int 1)),.cst (.int 0)|_]|_],.tup %[.cst (.int 9)|_]|_],.tup %[.mth 30 (.var 0) %[.tup %[.cst (.int 5),.cst (.int 2),.cst (.str [65]),.cst (.int 0),.cst (.int 0)|_]|_],.tup %[.cst (.int 7)|_]|_],.tup %[.mth 30 (.var 0) %[.tup %[.cst (.int 5),.cst (.int 2),.cst (.str [66]),.cst (.int 1),.cst (.int 1)|_]|_],.tup %[.cst (.int 8)|_]|_],.tup %[.mth 30 (.var 0) %[.tup %[.cst (.int 5),.cst (.int 3),.cst (.str [65]),.cst (.str [97]),.cst (.int 0)|_]|_],.tup %[.cst (.int 5)|_]|_],.tup %[.cst (.int 6),.tup %[.cst (.int 4),.cst (.int 5),.cst (.int 6)|_]|_],.tup %[.cst (.int 7),.tup %[.cst (.int 7),.cst (.int 8),.cst (.int 9),.cst (.int 10)|_]|_],.tup %[.mth 30 (.var 0) %[.tup %[.cst (.int 8),.tup %[.tup %[.cst (.str [107]),.var 1,.cst (.int 0),.cst (.int 0)|_]|_],.tup .nil,.tup .nil,.tup .nil,.tup .nil,.cst (.int 0)|_]|_],.tup %[.cst (.int 11),.cst (.int 13)|_]|_],.tup %[.mth 30 (.var 0) %[.tup %[.cst (.int 8),.tup %[.tup %[.cst (.str [107]),.var 2,.cst (.int 0),.cst (.int 0)|_]|_],.tup .nil,.tup .nil,.tup .nil,.tup .nil,.cst (.int 0)|_]|_],.tup %[.cst (.int 12)|_]|_],.tup %[.atr 14 (.var 3),.tup %[.cst (.int 13)|_]|_],.tup %[.mth 30 (.var 0) %[.tup %[.cst (.int 9),.cst (.int 1),.tup .nil|_]|_],.tup %[.cst (.int 13)|_]|_],.tup %[.mth 30 (.var 0) %[.tup %[.cst (.int 11),.cst (.int 7),.cst (.int 0)|_]|_],.tup %[.cst (.int 14)|_]|_],.tup %[.cst (.int 10),.tup %[.cst (.int 11),.cst (.int 12),.cst (.int 13),.cst (.int 14),.cst (.int 15)|_]|_],.tup %[.cst (.int 11),.slF (.glb 65) (.cst (.int 2))|_],.tup %[.cst (.int 1),.glb 65|_],.tup %[.cst (.int 0),.glb 65|_]|_])|_]
noncomputable def pA:Sx:= %[.ife (.cmp .eq (.var 1) (.cst (.int 2))) %[.ret (.lst .val .nil)|_] .nil,.ife (.cmp .eq (.sub (.sub (.atr 0 (.var 0)) (.var 1)) (.cst (.int 0))) (.cst (.int 6))) %[.ret (.fn1 .lst (.sub (.sub (.atr 0 (.var 0)) (.var 1)) (.cst (.int 1))))|_] .nil,.ret (.lst .val %[.var 1|_])|_]
noncomputable def qd:Sx:= %[.asg 3 (.lst .val .nil),.frN 4 (.cal 82 %[.var 0,.var 2|_]) %[.asg 3 (.bin .add (.var 3) (.fn1 .lst (.getD (.var 1) (.var 4) (.tup .nil))))|_],.ret (.var 3)|_]
noncomputable def l8:Sx:= %[.ife (.cmp .eq (.sub (.var 0) (.cst (.int 0))) (.cst (.int 0))) %[.ret (.cmp .eq (.cmp .eq (.sub (.glb 66) (.var 3)) (.sub (.var 0) (.cst (.int 1)))) (.var 1))|_] .nil,.ife (.cmp .eq (.sub (.var 0) (.cst (.int 0))) (.cst (.int 1))) %[.ret (.cmp .eq (.cmp .inn (.var 3) (.glb 67)) (.var 1))|_] .nil,.ife (.sub (.var 0) (.cst (.int 2))) %[.asg 4 (.fn1 .len (.comp N 5 [N,N,N,Z] (.var 5) (.var 2) (.cmp .eq (.var 5) (.var 3))))|_] %[.asg 4 (.fn1 .len (.comp N 5 [N,N,N,Z] (.var 5) (.var 2) (.cmp .eq (.sub (.glb 68) (.var 5)) (.sub (.glb 68) (.var 3)))))|_],.ife (.cmp .eq (.var 3) (.cst (.int 10))) %[.asg 4 (.cst (.int 0))|_] .nil,.ret (.ite (.var 1) (.cmp .gt (.var 4) (.cst (.int 0))) (.cmp .lt (.var 4) (.fn1 .len (.var 2))))|_]
noncomputable def dG:Sx:= %[.asg 5 (.nt (.sub (.var 1) (.cst (.int 2)))),.ife (.bop Z %[.var 5,.chn .lt .lt (.cst (.int 1)) (.var 4) (.cst (.int 11))|_]) %[.ife (.cmp .gt (.fn1 .len (.comp N 6 [N,N,N,N,Z] (.var 6) (.var 3) (.bop Z %[.chn .lt .lt (.cst (.int 1)) (.var 6) (.cst (.int 11)),.cmp .ne (.sub (.glb 66) (.var 6)) (.sub (.glb 66) (.var 4))|_]))) (.cst (.int 0))) %[.ret (.cst (.bool Z))|_] .nil|_] .nil,.ife (.var 2) %[.ife (.bop Z %[.cmp .eq (.var 4) (.cst (.int 10)),.cmp .inn (.cst (.int 10)) (.var 3)|_]) %[.ret (.cst (.bool Z))|_] .nil,.ife (.cmp .inn (.var 0) (.tup %[.cst (.int 1),.cst (.int 11)|_])) %[.ret (.bop N %[.cmp .gt (.fn1 .max (.var 3)) (.cst (.int 10)),.bop Z %[.var 5,.cmp .gt (.fn1 .max (.var 3)) (.cst (.int 1))|_]|_])|_] .nil,.ret (.bop Z %[.cmp .gt (.var 4) (.cst (.int 10)),.cmp .gt (.fn1 .max (.var 3)) (.cst (.int 10))|_])|_] .nil,.ife (.cmp .lt (.fn1 .max (.var 3)) (.cst (.int 2))) %[.ret (.cst (.bool N))|_] .nil,.ret (.bop N %[.cmp .inn (.var 0) (.tup %[.cst (.int 1),.cst (.int 6),.cst (.int 7),.cst (.int 11)|_]),.cmp .gt (.var 4) (.cst (.int 10)),.cmp .gt (.fn1 .len (.var 3)) (.cst (.int 1))|_])|_]
noncomputable def sf:Sx:= %[.ife (.cmp .eq (.var 0) (.cst (.int 0))) %[.ret (.cst (.bool Z))|_] .nil,.ife (.cmp .eq (.sub (.var 1) (.cst (.int 0))) (.cst (.int 0))) %[.ife (.bop Z %[.cmp .inn (.var 0) (.tup %[.cst (.int 1),.cst (.int 10),.cst (.int 11)|_]),.cmp .inn (.sub (.var 1) (.cst (.int 1))) (.tup %[.cst (.str [111,98,106,101,99,116]),.cst (.str [102,117,110,99,116,105,111,110])|_])|_]) %[.ret (.cst (.bool Z))|_] .nil,.ret (.bop Z %[.cmp .inn (.var 0) (.tup %[.cst (.int 1),.cst (.int 11)|_]),.nt (.var 2)|_])|_] .nil,.ife (.cmp .eq (.sub (.var 1) (.cst (.int 0))) (.cst (.int 1))) %[.ife (.cmp .eq (.var 0) (.cst (.int 1))) %[.ret (.bop N %[.cmp .gt (.var 4) (.cst (.int 1)),.nt (.var 2)|_])|_] .nil,.ret (.bop N %[.cmp .inn (.var 0) (.tup %[.cst (.int 7),.cst (.int 11)|_]),.bop Z %[.cmp .eq (.var 0) (.cst (.int 6)),.var 2|_]|_])|_] .nil,.ret (.cal 85 %[.var 0,.var 1,.var 2,.var 3,.var 4|_])|_]
noncomputable def pR:Sx:= %[.ife (.cmp .eq (.sub (.var 2) (.cst (.int 0))) (.cst (.int 0))) %[.ret (.cal 76 %[.var 0,.var 1,.sub (.var 2) (.cst (.int 1)),.var 3|_])|_] .nil,.ife (.cmp .eq (.sub (.var 2) (.cst (.int 0))) (.cst (.int 1))) %[.ret (.cal 73 %[.var 0,.var 1,.var 3|_])|_] .nil,.ret (.cal 79 %[.var 0,.var 1,.sub (.var 2) (.cst (.int 1)),.var 3,.sub (.var 2) (.cst (.int 2))|_])|_]
noncomputable def jC:Sx:= %[.asg 6 (.cal 80 %[.var 1,.bin .add (.cst (.int 6)) (.bin .mul (.cst (.int 2)) (.var 4))|_]),.asg 7 (.cal 80 %[.var 1,.bin .add (.cst (.int 7)) (.bin .mul (.cst (.int 2)) (.var 4))|_]),.asg 8 (.ite (.var 5) (.cst (.int 2)) (.bin .mod (.var 6) (.cst (.int 3)))),.ife (.cmp .eq (.var 8) (.cst (.int 0))) %[.ret (.tup %[.cst (.int 0),.sub (.glb 69) (.bin .mod (.var 7) (.cst (.int 6))),.cst (.bool Z)|_])|_] .nil,.ife (.cmp .eq (.var 8) (.cst (.int 1))) %[.ret (.tup %[.cst (.int 1),.cst (.int 0),.cst (.bool Z)|_])|_] .nil,.asg 9 (.sub (.sub (.var 2) (.bin .mod (.bin .div (.var 7) (.cst (.int 2))) (.cst (.int 27)))) (.cst (.int 0))),.ife (.cmp .eq (.bin .mod (.var 7) (.cst (.int 2))) (.cst (.int 0))) %[.asg 9 (.sub (.var 3) (.bin .mod (.bin .div (.var 7) (.cst (.int 2))) (.fn1 .len (.var 3))))|_] .nil,.ife (.cmp .eq (.bin .mod (.var 7) (.cst (.int 5))) (.cst (.int 0))) %[.asg 9 (.cal 16 %[.var 0,.lst .val %[.var 9,.sub (.sub (.var 2) (.bin .mod (.bin .div (.var 7) (.cst (.int 54))) (.cst (.int 27)))) (.cst (.int 0))|_]|_])|_] .nil,.ret (.tup %[.cst (.int 2),.var 9,.cmp .ne (.bin .mod (.bin .div (.var 6) (.cst (.int 24))) (.cst (.int 3))) (.cst (.int 2))|_])|_]
noncomputable def oM:Sx:= %[.asg 6 (.cal 82 %[.var 0,.var 5|_]),.asg 7 (.cal 83 %[.var 0,.var 1,.var 5|_]),.asg 8 (.cmp .eq (.fn1 .len (.comp N 11 [] (.var 11) (.var 2) (.cmp .inn (.var 11) (.tup %[.cst (.int 0),.cst (.int 1),.cst (.int 6),.cst (.int 7),.cst (.int 10),.cst (.int 11)|_])))) (.cst (.int 0))),.asg 9 (.lst .val .nil),.frR 10 (.fn1 .len (.var 2)) %[.asg 9 (.bin .add (.var 9) (.sub (.var 4) (.var 10))),.ife (.cmp .gt (.fn1 .len (.comp N 12 [N,N,N,N,N,N,N,Z] (.var 12) (.sub (.var 3) (.var 10)) (.cmp .nin (.var 12) (.var 7)))) (.cst (.int 0))) %[.ret (.cst (.bool N))|_] .nil,.ife (.bop Z %[.var 8,.cmp .gt (.fn1 .len (.sub (.var 3) (.var 10))) (.cst (.int 0)),.cmp .nin (.sub (.var 2) (.var 10)) (.var 6)|_]) %[.ret (.cst (.bool N))|_] .nil,.ife (.bop Z %[.var 8,.cmp .eq (.fn1 .len (.sub (.var 4) (.var 10))) (.cst (.int 0)),.cmp .inn (.sub (.var 2) (.var 10)) (.var 6)|_]) %[.ret (.cst (.bool N))|_] .nil|_],.ife (.bop Z %[.var 8,.cmp .gt (.fn1 .len (.comp N 11 [N,N,Z] (.var 11) (.var 6) (.cmp .nin (.var 11) (.var 2)))) (.cst (.int 0))|_]) %[.ret (.cst (.bool N))|_] .nil,.ret (.cmp .eq (.fn1 .len (.comp N 12 [N,N,N,N,N,N,N,N,N,Z] (.var 12) (.var 7) (.cmp .nin (.var 12) (.var 9)))) (.cst (.int 0)))|_]
noncomputable def qU:Sx:= %[.asc 1 (.comp N 6 [] (.bin .mod (.var 6) (.cst (.int 999983))) (.slT (.var 0) (.cst (.int 40))) (.cst (.bool Z))),.ife (.cmp .eq (.fn1 .len (.var 1)) (.cst (.int 0))) %[.asg 1 (.lst .val %[.cst (.int 29)|_])|_] .nil,.asg 2 (.new 0 .nil),.asg 3 (.new 3 %[.var 2|_]),.asg 4 (.cal 81 %[.var 2|_]),.exp (.cal 9 %[.var 2,.cst (.int 5),.cst (.str [69])|_]),.exp (.cal 9 %[.var 2,.cst (.int 5),.cst (.str [70])|_]),.asg 5 (.dct N .int),.fr2 19 20 (.var 4) %[.sti (.var 5) (.var 19) (.var 20)|_],.asg 6 (.cal 80 %[.var 1,.cst (.int 0)|_]),.asg 7 (.lst .loc .nil),.frR 8 (.bin .add (.cst (.int 1)) (.bin .mod (.bin .div (.var 6) (.cst (.int 4))) (.cst (.int 4)))) %[.asg 21 (.cal 80 %[.var 1,.bin .add (.cst (.int 1)) (.var 8)|_]),.asg 22 (.ite (.cmp .lt (.bin .mod (.var 6) (.cst (.int 4))) (.cst (.int 2))) (.bin .mod (.var 21) (.cst (.int 16))) (.bin .mod (.var 21) (.cst (.int 25)))),.ife (.bop Z %[.cmp .eq (.bin .mod (.var 6) (.cst (.int 4))) (.cst (.int 3)),.cmp .eq (.var 8) (.cst (.int 0))|_]) %[.asg 22 (.bin .add (.cst (.int 16)) (.bin .mod (.var 21) (.cst (.int 11))))|_] .nil,.exp (.app (.var 7) (.sub (.sub (.var 4) (.var 22)) (.cst (.int 0))))|_],.asg 9 (.cal 16 %[.var 2,.var 7|_]),.asg 10 (.cal 82 %[.var 2,.var 9|_]),.asc 11 (.comp Z 19 [N,N,N,N,N,Z] (.fn1 .lst (.sub (.var 5) (.var 19))) (.var 10) (.cst (.bool Z))),.asc 12 (.comp Z 19 [N,N,N,N,N,Z] (.fn1 .lst (.sub (.var 5) (.var 19))) (.var 10) (.cst (.bool Z))),.asg 13 (.var 9),.asg 14 (.cal 80 %[.var 1,.cst (.int 5)|_]),.asg 15 (.bin .add (.cst (.int 2)) (.bin .mod (.var 14) (.cst (.int 4)))),.asg 16 (.lst .loc .nil),.frR 17 (.var 15) %[.asg 23 (.cmp .eq (.var 17) (.bin .mod (.bin .div (.var 14) (.cst (.int 4))) (.var 15))),.asg 24 (.cal 80 %[.var 1,.bin .add (.cst (.int 6)) (.bin .mul (.cst (.int 2)) (.var 17))|_]),.asg 25 (.cmp .eq (.bin .mod (.bin .div (.var 24) (.cst (.int 3))) (.cst (.int 2))) (.cst (.int 0))),.ife (.bop Z %[.cmp .gt (.var 17) (.cst (.int 0)),.nt (.var 23),.cmp .eq (.bin .mod (.bin .div (.var 24) (.cst (.int 6))) (.cst (.int 4))) (.cst (.int 0))|_]) %[.exp (.app (.var 16) (.tup %[.sub (.sub (.var 16) (.cst (.int 0))) (.cst (.int 0)),.nt (.sub (.sub (.var 16) (.cst (.int 0))) (.cst (.int 1)))|_]))|_] %[.exp (.app (.var 16) (.tup %[.cal 88 %[.var 2,.var 1,.var 4,.var 7,.var 17,.var 23|_],.var 25|_]))|_],.as2 27 28 (.sub (.var 16) (.var 17)),.asg 26 (.ite (.cmp .lt (.sub (.var 27) (.cst (.int 0))) (.cst (.int 2))) (.lst .val .nil) (.cal 83 %[.var 2,.var 5,.sub (.var 27) (.cst (.int 1))|_])),.asg 13 (.cal 87 %[.var 3,.var 13,.var 27,.var 28|_]),.frR 8 (.fn1 .len (.var 10)) %[.asg 29 (.sub (.var 10) (.var 8)),.asg 30 (.comp N 31 [N,N,N,N,N,N,N,N,N,N,N,N,N,N,N,N,N,N,N,N,N,N,N,N,N,N,Z,Z,Z] (.var 31) (.sub (.var 12) (.var 8)) (.cal 84 %[.var 27,.var 28,.var 26,.var 31|_])),.sti (.var 11) (.var 8) (.comp N 31 [N,N,N,N,N,N,N,N,N,N,N,N,N,N,N,N,N,N,N,N,N,N,N,N,N,N,N,N,N,N,Z] (.var 31) (.sub (.var 11) (.var 8)) (.cmp .inn (.var 31) (.var 30))),.sti (.var 12) (.var 8) (.comp N 31 [N,N,N,N,N,N,N,N,N,N,N,N,N,N,N,N,N,N,N,N,N,N,N,N,N,N,Z,Z,Z,Z,Z] (.var 31) (.sub (.var 12) (.var 8)) (.bop N %[.cmp .inn (.var 31) (.var 30),.cal 86 %[.var 29,.var 27,.var 28,.var 26,.var 31|_]|_]))|_],.ife (.nt (.cal 89 %[.var 2,.var 5,.var 10,.var 11,.var 12,.var 13|_])) %[.ret (.cst (.bool N))|_] .nil|_],.ife (.cmp .gt (.fn1 .len (.comp N 19 [N,N,Z] (.var 19) (.var 10) (.bop Z %[.cmp .nin (.var 19) (.tup %[.cst (.int 4),.cst (.int 5)|_]),.cmp .nin (.sub (.sub (.atr 0 (.var 2)) (.var 19)) (.cst (.int 0))) (.tup %[.cst (.int 2),.cst (.int 3),.cst (.int 4),.cst (.int 5)|_])|_]))) (.cst (.int 0))) %[.ret (.cst (.bool Z))|_] .nil,.asg 18 (.var 9),.frR 17 (.var 15) %[.as2 27 28 (.sub (.var 16) (.bin .sub (.bin .sub (.var 15) (.cst (.int 1))) (.var 17))),.asg 18 (.cal 87 %[.var 3,.var 18,.var 27,.var 28|_])|_],.ret (.cmp .eq (.var 18) (.var 13))|_]
noncomputable def I4:List (Str×LV):=[(oS "FIRST_ROWS",LV.val (.tup [(.tup [(.int 1),(.str [97,110,121])]),(.tup [(.int 1),(.str [117,110,107,110,111,119,110])]),(.tup [(.int 1),(.str [110,101,118,101,114])]),(.tup [(.int 1),(.str [118,111,105,100])]),(.tup [(.int 1),(.str [117,110,100,101,102,105,110,101,100])]),(.tup [(.int 1),(.str [110,117,108,108])]),(.tup [(.int 1),(.str [115,116,114,105,110,103])]),(.tup [(.int 1),(.str [110,117,109,98,101,114])]),(.tup [(.int 2),(.int 0),(.int 0)]),(.tup [(.int 2),(.int 1),(.int 0)]),(.tup [(.int 1),(.str [111,98,106,101,99,116])]),(.tup [(.int 8),(.tup []),(.tup []),(.tup []),(.tup []),(.tup []),(.int 0)]),(.tup [(.int 6),(.tup [(.int 8),(.int 9)])]),(.tup [(.int 1),(.str [101,114,114,111,114])]),(.tup [(.int 2),(.int 0),(.int 1)]),(.tup [(.int 2),(.int 1),(.int 1)])])),(oS "MOST_ROUNDS",LV.val (.int 200)),(oS "MOST_SHAPES",LV.val (.int 40)),(oS "Y_STR",LV.val (.int 3)),(oS "NEVER",LV.val (.int 2)),(oS "Y_UNION",LV.val (.int 6)),(oS "Y_TPL",LV.val (.int 18)),(oS "STRING",LV.val (.int 6)),(oS "Y_NUM",LV.val (.int 4)),(oS "NUMBER",LV.val (.int 7)),(oS "Y_ENUM",LV.val (.int 5)),(oS "MARKED_ROWS",LV.val (.tup [(.int 2),(.int 3),(.int 4),(.int 5),(.int 8)])),(oS "FALSE_T",LV.val (.int 8)),(oS "FRESH_F",LV.val (.int 14)),(oS "TRUE_T",LV.val (.int 9)),(oS "FRESH_T",LV.val (.int 15)),(oS "ANY",LV.val (.int 0)),(oS "ERR",LV.val (.int 13)),(oS "UNKNOWN",LV.val (.int 1)),(oS "MAX_UNION",LV.val (.int 400)),(oS "LITERAL_ROWS",LV.val (.tup [(.int 2),(.int 3),(.int 4),(.int 5)])),(oS "UNDEF",LV.val (.int 4)),(oS "NULLT",LV.val (.int 5)),(oS "Y_KEY",LV.val (.int 1)),(oS "FAM_OTHER",LV.val (.int 0)),(oS "KEY_FAMILIES",LV.tab 109),(oS "Y_BOOL",LV.val (.int 2)),(oS "FAM_BOOL",LV.val (.int 3)),(oS "OBJECT_ROWS",LV.val (.tup [(.int 8),(.int 9),(.int 11),(.int 12),(.int 13)])),(oS "FAM_OBJ",LV.val (.int 7)),(oS "Y_INTER",LV.val (.int 7)),(oS "FAM_STR",LV.val (.int 1)),(oS "FAM_NUM",LV.val (.int 2)),(oS "FAM_NULL",LV.val (.int 4)),(oS "FAM_UNDEF",LV.val (.int 5)),(oS "FAM_VOID",LV.val (.int 6)),(oS "MEET_NEVER",LV.val (.int 0)),(oS "P_OPT",LV.val (.int 1)),(oS "Y_OBJ",LV.val (.int 8)),(oS "Y_REF",LV.val (.int 9)),(oS "MEET_RIGHT",LV.val (.int 2)),(oS "MEET_LEFT",LV.val (.int 1)),(oS "MEET_BOTH",LV.val (.int 3)),(oS "EMPTY",LV.val (.int 11)),(oS "OBJECTT",LV.val (.int 10)),(oS "D_OBJALIAS",LV.val (.int 3)),(oS "MAX_DRAWN",LV.val (.int 200)),(oS "VOID",LV.val (.int 3)),(oS "Y_PARAM",LV.val (.int 10)),(oS "Y_INDEX",LV.val (.int 15)),(oS "Y_COND",LV.val (.int 16)),(oS "Y_ALIAS",LV.val (.int 19)),(oS "Y_MAPPED",LV.val (.int 17)),(oS "PRIMITIVE_NAMES",LV.val (.tup [(.str [99,104,97,114,65,116]),(.str [99,111,110,99,97,116]),(.str [105,110,99,108,117,100,101,115]),(.str [105,110,100,101,120,79,102]),(.str [108,101,110,103,116,104]),(.str [115,108,105,99,101]),(.str [116,111,76,111,119,101,114,67,97,115,101]),(.str [116,111,83,116,114,105,110,103]),(.str [116,111,85,112,112,101,114,67,97,115,101])])),(oS "MOST_PLAIN",LV.val (.int 40)),(oS "Y_SIG",LV.val (.int 13)),(oS "PLAIN_ROWS",LV.val (.tup [(.int 1),(.int 2),(.int 3),(.int 4),(.int 5)])),(oS "NULLISH",LV.val (.tup [(.int 4),(.int 5),(.int 6)])),(oS "COERCED",LV.val (.tup [(.int 1),(.int 2),(.int 3)])),(oS "FAMILY_WORDS",LV.tab 726),(oS "WHOLES",LV.tab 725),(oS "PRIMITIVES",LV.val (.tup [(.int 1),(.int 2),(.int 3),(.int 4),(.int 5),(.int 6)])),(oS "Y_ARRAY",LV.val (.int 11)),(oS "Y_TUPLE",LV.val (.int 12)),(oS "FREE_ROWS",LV.val (.tup [(.int 10),(.int 15),(.int 16)])),(oS "_law_all",LV.val (.tup [(.int 0),(.int 1),(.int 2),(.int 3),(.int 4),(.int 5),(.int 6),(.int 7),(.int 8),(.int 9),(.int 10),(.int 11),(.int 12),(.int 13),(.int 14),(.int 15)])),(oS "_law_word",LV.val (.tup [(.str [117,110,100,101,102,105,110,101,100]),(.str [111,98,106,101,99,116]),(.str [98,111,111,108,101,97,110]),(.str [98,111,111,108,101,97,110]),(.str [115,116,114,105,110,103]),(.str [115,116,114,105,110,103]),(.str [115,116,114,105,110,103]),(.str [110,117,109,98,101,114]),(.str [110,117,109,98,101,114]),(.str [110,117,109,98,101,114]),(.str [110,117,109,98,101,114]),(.str [111,98,106,101,99,116]),(.str [111,98,106,101,99,116]),(.str [111,98,106,101,99,116]),(.str [111,98,106,101,99,116]),(.str [102,117,110,99,116,105,111,110])])),(oS "_law_true",LV.val (.tup [(.int 3),(.int 5),(.int 6),(.int 8),(.int 9),(.int 11),(.int 12),(.int 13),(.int 14),(.int 15)])),(oS "_law_like",LV.val (.tup [(.int 0),(.int 0),(.int 2),(.int 3),(.int 2),(.int 5),(.int 6),(.int 2),(.int 3),(.int 9),(.int 10),(.int 11),(.int 12),(.int 13),(.int 14),(.int 15)])),(oS "_law_words",LV.val (.tup [(.str [115,116,114,105,110,103]),(.str [111,98,106,101,99,116]),(.str [117,110,100,101,102,105,110,101,100]),(.str [110,117,109,98,101,114]),(.str [102,117,110,99,116,105,111,110]),(.str [98,111,111,108,101,97,110])]))]
noncomputable def fM:FD:=⟨oS "__init__",N,123,1,[],[oS "self",oS "row"],fH⟩
noncomputable def db:FD:=⟨oS "put",N,137,2,[],[oS "self",oS "row",oS "t"],jS⟩
noncomputable def kf:FD:=⟨oS "__init__",N,158,4,[],[oS "self",oS "did",oS "kind",oS "name"],j4⟩
noncomputable def j3:FD:=⟨oS "__init__",N,530,2,[],[oS "self",oS "tab"],ke⟩
noncomputable def oG:FD:=⟨oS "force",N,537,2,[],[oS "self",oS "t"],oZ⟩
noncomputable def j1:FD:=⟨oS "shape",N,677,2,[],[oS "self",oS "t"],kb⟩
noncomputable def lz:FD:=⟨oS "fits",N,684,3,[],[oS "self",oS "s",oS "t"],lK⟩
noncomputable def vR:FD:=⟨oS "kind_of",Z,172,2,[],[oS "tab",oS "t"],vM⟩
noncomputable def rV:FD:=⟨oS "str_type",Z,180,3,[(.int 0)],[oS "tab",oS "text",oS "fresh"],sR⟩
noncomputable def sL:FD:=⟨oS "new_decl",Z,194,3,[],[oS "tab",oS "kind",oS "name",oS "decl"],rZ⟩
noncomputable def g7:FD:=⟨oS "parts_of",Z,201,2,[],[oS "tab",oS "t",oS "row"],s6⟩
noncomputable def lI:FD:=⟨oS "whole_of_row",Z,208,1,[],[oS "row",oS "kind"],lb⟩
noncomputable def fE:FD:=⟨oS "regular_twin",Z,215,2,[],[oS "tab",oS "t",oS "row"],lM⟩
noncomputable def dh:FD:=⟨oS "join_bools",Z,222,1,[],[oS "got"],ot⟩
noncomputable def bq:FD:=⟨oS "stays_beside",Z,229,3,[],[oS "tab",oS "got",oS "t"],lO⟩
noncomputable def iA:FD:=⟨oS "top_of",Z,236,1,[],[oS "got",oS "t"],y5⟩
noncomputable def iz:FD:=⟨oS "union",Z,241,2,[],[oS "tab",oS "parts",oS "got",oS "t",oS "top",oS "kept",oS "part"],kw⟩
noncomputable def nH:FD:=⟨oS "is_literal",Z,255,2,[],[oS "tab",oS "t"],oz⟩
noncomputable def vW:FD:=⟨oS "is_unit",Z,262,2,[],[oS "tab",oS "t"],uW⟩
noncomputable def sW:FD:=⟨oS "is_fresh",Z,269,2,[],[oS "tab",oS "t",oS "row"],rU⟩
noncomputable def mJ:FD:=⟨oS "regular_one",Z,276,2,[],[oS "tab",oS "t"],l6⟩
noncomputable def vO:FD:=⟨oS "regular",Z,281,2,[],[oS "tab",oS "t",oS "part"],vz⟩
noncomputable def xt:FD:=⟨oS "family",Z,300,2,[],[oS "tab",oS "t",oS "row",oS "kind",oS "whole"],xf⟩
noncomputable def gn:FD:=⟨oS "is_nullish_family",Z,307,1,[],[oS "fam"],gp⟩
noncomputable def pV:FD:=⟨oS "all_units",Z,313,2,[],[oS "tab",oS "t",oS "parts",oS "part"],pY⟩
noncomputable def kj:FD:=⟨oS "value_literal",Z,320,2,[],[oS "tab",oS "t",oS "row"],ki⟩
noncomputable def mw:FD:=⟨oS "kinds_apart",Z,327,3,[],[oS "tab",oS "s",oS "t"],md⟩
noncomputable def me:FD:=⟨oS "units_clash",Z,332,3,[],[oS "tab",oS "one",oS "other",oS "s",oS "t",oS "part",oS "held"],mh⟩
noncomputable def pi:FD:=⟨oS "known_decl",Z,339,2,[],[oS "tab",oS "row"],oQ⟩
noncomputable def pf:FD:=⟨oS "body_props",Z,346,2,[],[oS "tab",oS "row",oS "decl"],nU⟩
noncomputable def oi:FD:=⟨oS "flat_props",Z,353,2,[],[oS "tab",oS "t",oS "out",oS "seen",oS "waiting",oS "at",oS "row",oS "prop",oS "base",oS "props",oS "bases"],oW⟩
noncomputable def kD:FD:=⟨oS "shapes_clash",Z,358,3,[],[oS "tab",oS "s",oS "t",oS "found",oS "held",oS "name"],lh⟩
noncomputable def mu:FD:=⟨oS "meet_values",Z,372,5,[],[oS "tab",oS "s",oS "t",oS "fs",oS "ft"],mF⟩
noncomputable def lB:FD:=⟨oS "meet_objects",Z,379,5,[],[oS "tab",oS "s",oS "t",oS "fs",oS "ft"],k4⟩
noncomputable def jA:FD:=⟨oS "meet_case",Z,386,3,[],[oS "tab",oS "s",oS "t",oS "fs",oS "ft"],rc⟩
noncomputable def rA:FD:=⟨oS "lay_on",Z,393,3,[],[oS "tab",oS "kept",oS "t",oS "out",oS "held",oS "one",oS "case"],wr⟩
noncomputable def iO:FD:=⟨oS "members_of_meet",Z,400,2,[],[oS "tab",oS "t",oS "row",oS "decl"],ir⟩
noncomputable def eR:FD:=⟨oS "meet_parts",Z,405,3,[],[oS "tab",oS "s",oS "t",oS "kept",oS "one"],nY⟩
noncomputable def g8:FD:=⟨oS "meet_two",Z,412,3,[],[oS "tab",oS "s",oS "t",oS "found",oS "crossed",oS "one",oS "left",oS "right",oS "other",oS "met"],sx⟩
noncomputable def ud:FD:=⟨oS "inter",Z,419,2,[],[oS "tab",oS "parts",oS "t",oS "out",oS "place"],AH⟩
noncomputable def my:FD:=⟨oS "value_holds",Z,426,3,[],[oS "tab",oS "row",oS "parts",oS "kind"],mz⟩
noncomputable def pG:FD:=⟨oS "units_fit",Z,433,3,[],[oS "tab",oS "s",oS "t",oS "parts",oS "part",oS "row",oS "held"],qS⟩
noncomputable def i8:FD:=⟨oS "may_be_nullish",Z,441,3,[(.int 0)],[oS "tab",oS "t",oS "deep",oS "part",oS "row",oS "bound"],iX⟩
noncomputable def mK:FD:=⟨oS "not_nullish",Z,460,2,[],[oS "tab",oS "t"],mD⟩
noncomputable def eF:FD:=⟨oS "remove_nullish",Z,465,2,[],[oS "tab",oS "t",oS "part"],iW⟩
noncomputable def jX:FD:=⟨oS "literal_truth",Z,472,1,[],[oS "row"],jW⟩
noncomputable def qK:FD:=⟨oS "truthy_of",Z,479,2,[],[oS "tab",oS "t"],qV⟩
noncomputable def gD:FD:=⟨oS "truthy_part",Z,484,2,[],[oS "tab",oS "t",oS "part"],mI⟩
noncomputable def ml:FD:=⟨oS "loose_props",Z,491,2,[],[oS "tab",oS "t",oS "out",oS "seen",oS "waiting",oS "at",oS "row"],mj⟩
noncomputable def iU:FD:=⟨oS "lets_primitive",Z,496,2,[],[oS "tab",oS "t",oS "props",oS "prop"],jm⟩
noncomputable def rY:FD:=⟨oS "falsy_of",Z,503,2,[],[oS "tab",oS "t",oS "row"],sE⟩
noncomputable def il:FD:=⟨oS "falsy_part",Z,508,2,[],[oS "tab",oS "t",oS "part"],ow⟩
noncomputable def mq:FD:=⟨oS "plain_shape",Z,516,2,[],[oS "tab",oS "t",oS "turn",oS "row"],mA⟩
noncomputable def sF:FD:=⟨oS "calls_of",Z,717,2,[],[oS "host",oS "t"],tj⟩
noncomputable def tC:FD:=⟨oS "ctors_of",Z,724,2,[],[oS "host",oS "t"],sV⟩
noncomputable def gw:FD:=⟨oS "plain_value",Z,735,2,[],[oS "tab",oS "t",oS "row"],mi⟩
noncomputable def gG:FD:=⟨oS "plain_meets",Z,742,4,[],[oS "tab",oS "s",oS "t",oS "strict",oS "fs",oS "ft",oS "one",oS "other"],mr⟩
noncomputable def dT:FD:=⟨oS "is_nullish_kind",Z,747,2,[],[oS "tab",oS "t",oS "parts",oS "part"],hZ⟩
noncomputable def ja:FD:=⟨oS "sharpen",Z,752,3,[],[oS "tab",oS "part",oS "hits",oS "fam",oS "hit"],vI⟩
noncomputable def bW:FD:=⟨oS "narrow_plain_truthy",Z,759,3,[],[oS "tab",oS "t",oS "yes"],fm⟩
noncomputable def fy:FD:=⟨oS "nullish_side",Z,764,4,[],[oS "tab",oS "t",oS "other",oS "strict",oS "out",oS "part",oS "one"],lj⟩
noncomputable def bw:FD:=⟨oS "unknown_equal",Z,769,3,[],[oS "tab",oS "other",oS "strict",oS "fams",oS "sure",oS "part",oS "fam"],jV⟩
noncomputable def bY:FD:=⟨oS "plain_equal_yes",Z,774,4,[],[oS "tab",oS "t",oS "other",oS "strict",oS "out",oS "part",oS "hits",oS "one"],iE⟩
noncomputable def cm:FD:=⟨oS "plain_equal_no",Z,781,3,[],[oS "tab",oS "t",oS "other",oS "value",oS "out",oS "part",oS "same"],ji⟩
noncomputable def aY:FD:=⟨oS "narrow_plain_equal",Z,788,5,[],[oS "tab",oS "t",oS "other",oS "yes",oS "strict"],fw⟩
noncomputable def dg:FD:=⟨oS "plain_typeof_part",Z,795,4,[],[oS "tab",oS "part",oS "word",oS "yes",oS "told"],gq⟩
noncomputable def fq:FD:=⟨oS "narrow_is_primitive",Z,804,2,[],[oS "tab",oS "t"],fu⟩
noncomputable def fe:FD:=⟨oS "all_primitive",Z,809,2,[],[oS "tab",oS "t",oS "part"],jU⟩
noncomputable def rS:FD:=⟨oS "is_loose",Z,814,2,[],[oS "tab",oS "part",oS "row",oS "one"],sM⟩
noncomputable def eZ:FD:=⟨oS "part_meets",Z,821,4,[],[oS "host",oS "s",oS "t",oS "strict",oS "tab",oS "fs",oS "ft"],pd⟩
noncomputable def lu:FD:=⟨oS "shape_allows",Z,828,3,[],[oS "host",oS "part",oS "whole",oS "prop"],lR⟩
noncomputable def iD:FD:=⟨oS "may_be_function",Z,833,2,[],[oS "tab",oS "part",oS "row",oS "one"],ib⟩
noncomputable def kK:FD:=⟨oS "object_words",Z,840,2,[],[oS "host",oS "part",oS "words",oS "values",oS "word",oS "value"],kO⟩
noncomputable def fh:FD:=⟨oS "narrow_truthy",Z,847,3,[],[oS "host",oS "t",oS "yes"],jZ⟩
noncomputable def gF:FD:=⟨oS "typeof_part",Z,854,5,[],[oS "host",oS "part",oS "word",oS "yes",oS "deep",oS "fam",oS "words"],mn⟩
noncomputable def da:FD:=⟨oS "typeof_within",Z,866,5,[],[oS "host",oS "t",oS "word",oS "yes",oS "deep",oS "parts",oS "part"],j0⟩
noncomputable def fk:FD:=⟨oS "narrow_typeof",Z,873,4,[],[oS "host",oS "t",oS "word",oS "yes"],kg⟩
noncomputable def cL:FD:=⟨oS "equal_part",Z,885,4,[],[oS "host",oS "part",oS "other",oS "strict",oS "tab",oS "hits",oS "one"],oH⟩
noncomputable def eo:FD:=⟨oS "unlike_nullish",Z,892,3,[],[oS "host",oS "t",oS "other",oS "tab",oS "kept",oS "out",oS "part"],jq⟩
noncomputable def cc:FD:=⟨oS "narrow_equal",Z,909,5,[],[oS "host",oS "t",oS "other",oS "yes",oS "strict",oS "tab",oS "plain",oS "part"],kG⟩
noncomputable def jI:FD:=⟨oS "_law_draw",Z,921,2,[],[oS "nums",oS "i"],qv⟩
noncomputable def oK:FD:=⟨oS "_law_kinds",Z,928,1,[],[oS "tab",oS "first",oS "second",oS "named"],oF⟩
noncomputable def ig:FD:=⟨oS "_law_parts",Z,935,2,[],[oS "tab",oS "t"],pA⟩
noncomputable def dW:FD:=⟨oS "_law_held",Z,942,3,[],[oS "tab",oS "book",oS "t",oS "out",oS "part"],qd⟩
noncomputable def gA:FD:=⟨oS "_law_passes",Z,947,4,[],[oS "ask",oS "yes",oS "given",oS "v",oS "near",oS "w"],l8⟩
noncomputable def fL:FD:=⟨oS "_law_blurred",Z,952,5,[],[oS "part",oS "ask",oS "yes",oS "given",oS "v",oS "blunt",oS "w"],dG⟩
noncomputable def lC:FD:=⟨oS "_law_lax",Z,959,5,[],[oS "part",oS "ask",oS "yes",oS "given",oS "v"],sf⟩
noncomputable def d8:FD:=⟨oS "_law_step",Z,966,4,[],[oS "host",oS "t",oS "ask",oS "yes"],pR⟩
noncomputable def jw:FD:=⟨oS "_law_test",Z,973,6,[],[oS "tab",oS "nums",oS "kinds",oS "picks",oS "j",oS "forced",oS "a",oS "b",oS "what",oS "other"],jC⟩
noncomputable def dj:FD:=⟨oS "_law_right",Z,978,6,[],[oS "tab",oS "book",oS "parts",oS "sure",oS "stay",oS "now",oS "told",oS "held",oS "closed",oS "room",oS "i",oS "t",oS "v"],oM⟩
noncomputable def eK:FD:=⟨oS "law",Z,983,1,[],[oS "script",oS "nums",oS "tab",oS "host",oS "kinds",oS "book",oS "x",oS "picks",oS "i",oS "declared",oS "parts",oS "sure",oS "stay",oS "now",oS "y",oS "many",oS "tests",oS "j",oS "back",oS "t",oS "held",oS "q",oS "place",oS "forced",oS "a",oS "side",oS "given",oS "ask",oS "yes",oS "part",oS "good",oS "v"],qU⟩
noncomputable def pg:Pg:={gl:=I4,fd:=[fM,db,kf,j3,oG,j1,lz,vR,rV,sL,g7,lI,fE,dh,bq,iA,iz,nH,vW,sW,mJ,vO,xt,gn,pV,kj,mw,me,pi,pf,oi,kD,mu,lB,jA,rA,iO,eR,g8,ud,my,pG,i8,mK,eF,jX,qK,gD,ml,iU,rY,il,mq,sF,tC,gw,gG,dT,ja,bW,fy,bw,bY,cm,aY,dg,fq,fe,rS,eZ,lu,iD,kK,fh,gF,da,fk,cL,eo,cc,jI,oK,ig,dW,gA,fL,lC,d8,jw,dj,eK],at_:=[(0,0),(0,1),(0,2),(0,3),(0,4),(0,5),(0,6),(0,7),(0,8),(0,9),(1,10),(1,11),(1,12),(1,13),(1,14),(1,15),(1,16),(1,17),(1,18),(1,19),(1,20),(1,21),(1,22),(1,23),(1,24),(3,25),(3,26),(3,27),(3,28),(3,29)],sa:=[(0,0),(0,1),(0,2),(0,3),(0,4),(0,5),(0,6),(0,7),(0,8),(0,9),(1,10),(1,11),(1,12),(1,13),(1,14),(1,15),(1,16),(1,17),(1,18),(1,19),(1,20),(1,21),(1,22),(1,23),(1,24),(3,25),(3,26),(3,27),(3,28),(3,29)],mt:=[((0,30),1),((3,31),4),((3,32),5),((3,33),6)],nw:=[(0,0),(1,2),(3,3)],cn:=[oS "TypeTable",oS "Decl",oS "Thin",oS "RefHost"],an:=[oS "rows",oS "index",oS "decls",oS "bounds",oS "defaults",oS "names",oS "origins",oS "renamed",oS "shaping",oS "putting",oS "did",oS "kind",oS "name",oS "params",oS "body",oS "bases",oS "static",oS "extends_class",oS "abstract",oS "members",oS "variances",oS "busy",oS "at",oS "file",oS "nid",oS "tab",oS "deep",oS "most_rounds",oS "most_deep",oS "lib",oS "put",oS "force",oS "shape",oS "fits"]}
noncomputable def ac:Nat→Option (KD×List (AV×AV))
 |109=>O (.int,[((AV.int 3),(.int 6)),((AV.int 4),(.int 5)),((AV.int 5),(.int 4)),((AV.int 6),(.int 1)),((AV.int 7),(.int 2)),((AV.int 10),(.int 7))])
 |726=>O (.int,[((AV.int 1),(.str [115,116,114,105,110,103])),((AV.int 2),(.str [110,117,109,98,101,114])),((AV.int 3),(.str [98,111,111,108,101,97,110])),((AV.int 4),(.str [111,98,106,101,99,116])),((AV.int 5),(.str [117,110,100,101,102,105,110,101,100])),((AV.int 6),(.str [117,110,100,101,102,105,110,101,100])),((AV.int 7),(.str [111,98,106,101,99,116]))])
 |725=>O (.str,[((AV.str [115,116,114,105,110,103]),(.int 6)),((AV.str [110,117,109,98,101,114]),(.int 7)),((AV.str [98,111,111,108,101,97,110]),(.int 12)),((AV.str [117,110,100,101,102,105,110,101,100]),(.int 4))])
 |_=>U
noncomputable def Az:List Addr:=[140,161,659,694]
noncomputable def bK(f:Om)(vs:List Value):{k:Option (Array Value)→Sem (List (Str×Value))//bindArgs f ⟨vs,[]⟩=(seqItems? f.defaults>>=k)}:=⟨_,rfl⟩
noncomputable def Gf(d:Data):Option Om:=match d with
 | .func f=>O f
 |_=>U
noncomputable def yl(K:Frag)(a:Addr):Option Om:=oO (K.lookup a) λo=>Gf o.data
theorem zP{K:Frag}{a:Addr}{f:Om}{M:Prop}(h:yl K a=O f)(k:∀oc od sl,K.lookup a=O ⟨oc,od,.func f,sl⟩→M):M:=aI h λo e h=>by
 obtain⟨c,d,dt,sl⟩:=o;cases dt<;>first|exact ns h|(cases h;exact k _ _ _ e)
noncomputable def EO(b:FuncBody):Option (List Stmt):=match b with
 | .stmts b=>O b
 |_=>U
theorem A4{b:FuncBody}{l:List Stmt}{M:Prop}(h:EO b=O l)(k:b= .stmts l→M):M:=by
 cases b<;>first|exact ns h|(cases h;exact k rfl)
noncomputable def Dw(K:Frag)(fd:FD):Bool:=on (yl K fd.addr) λf=>on (EO f.body) λb=>mB pg fd.body (λx=>f.scope.names.lookup x) fd.nm b&&
 (f.globals==JY&&(f.builtins==LW&&(f.closure.isEmpty&&(codeIn K f.code f.qualname&&(!f.scope.isCoroutine&&(!f.scope.isGenerator&&(f.scope.kind== .function&&(QQ (fd.np≤fd.nm.length)&&
  ((fd.nm.take fd.np).all (λx=>f.scope.names.lookup x==O .local||f.scope.names.lookup x==O .cell)&&(fd.nm.all (λx=> !(x==("__debug__":Str))&& !(x==("__classdict__":Str)))&&decide fd.nm.Nodup))))))))))
noncomputable def w8(n:Nat)(g:Nat→Value):List Value:=(JE n).map g
noncomputable def bL(K:Frag)(g:Nat→Value)(d:Value)(fd:FD):Option (Sem (List (Str×Value))):=(yl K fd.addr).map λf=>(bK f (w8 (fd.np - fd.dv.length) g)).1 (if fd.dv.isEmpty then U else O #[d])
noncomputable def bR(g:Nat→Value)(d:Value)(fd:FD):Option (Sem (List (Str×Value))):=O (pure ((fd.nm.take fd.np).zip (w8 (fd.np - fd.dv.length) g++if fd.dv.isEmpty then[] else[d])))
noncomputable def dL(K:Frag)(fd:FD):Option Value:=(yl K fd.addr).map (·.defaults)
noncomputable def dR(fd:FD):Option Value:=O (if fd.dv.isEmpty then .none else .ref (fd.addr - 7))
structure tU(K:Frag):Prop where
 bi:∀g d,pg.fd.map (bL K g d)=pg.fd.map (bR g d)
 df:pg.fd.map (dL K)=pg.fd.map dR
 dt:∀T∈[173,434],∃t,(K.lookup T).map (·.data)=O (.seq #[.int 0 t] 0)
theorem ID:∀fd∈pg.fd,fd.dv=[]∨fd.dv=[.int 0]∧fd.addr - 7∈[173,434]:=by decide+kernel
theorem A2{vs:List Value}:w8 vs.length (λj=>vs.getD j .none)=vs:=by
 unfold w8;refine List.ext_getElem (by rw[Jj,Lf]) λi h1 h2=> ?_
 rw[M3,List.getElem_range];rw[Jp,Jw h2];rfl
theorem A9{K:Frag}{B:Heap}{fd:FD}(F:tU K)(hfd:fd∈pg.fd){f:Om}(hf:yl K fd.addr=O f)(s:Shared)(vs:List Value)(X:K.In s.heap)(hl:vs.length+fd.dv.length=fd.np):
  ∃ds,ax B vZ fd.dv ds∧BindsTo s f ⟨vs,[]⟩ ((fd.nm.take fd.np).zip (vs++ds)):=by
 have hn:w8 (fd.np - fd.dv.length) (λj=>vs.getD j .none)=vs:=by rw[←hl,My];exact A2
 have hb:∀d,(bK f vs).1 (if fd.dv.isEmpty then U else O #[d])=pure ((fd.nm.take fd.np).zip (vs++if fd.dv.isEmpty then[] else[d])):=λd=>by
  have h:=On.mp (F.bi (λj=>vs.getD j .none) d) fd hfd;unfold bL bR at h;rw[hf,hn] at h;exact Jt h
 have hd:f.defaults=if fd.dv.isEmpty then .none else .ref (fd.addr - 7):=by
  have h:=On.mp F.df fd hfd;unfold dL dR at h;rw[hf] at h;exact Jt h
 rcases ID fd hfd with e|⟨e,hT⟩
 ·rw[e] at hb hd ⊢;exact⟨[],rfl,BindsTo.of_eq ((bK f vs).2.trans ((congrArg (·>>=(bK f vs).1) (show seqItems? f.defaults=pure U by rw[hd];rfl)).trans (hb .none)))⟩
 ·rw[e] at hb hd ⊢;exact(F.dt _ hT).elim λt h=>ak (Jr.mp h) λo ho hs=>⟨[.int 0 t],⟨_,_,rfl,⟨t,rfl⟩,rfl⟩,BindsTo.of_defaults hd (X _ _ ho) hs (bK f vs).2 (hb _)⟩
theorem Ac{W:Wd}{fd:FD}(F:tU W.K)(hfd:fd∈pg.fd)(h:Dw W.K fd=Z):∃body sc,CG W fd.addr fd.nm fd.np fd.dv body sc∧mB pg fd.body (λx=>sc.names.lookup x) fd.nm body=Z:=
 aj h λf hf h=>aj h λb hb h=>ae h λhm h=>ae h λh1 h=>ae h λh2 h=>ae h λh3 h=>ae h λh4 h=>ae h λh5 h=>ae h λh6 h=>ae h λh7 h=>ae h λh8 h=>ae h λh9 h=>ae h λh10 h11=>
 ⟨b,f.scope,⟨zP hf λoc od sl hK=>A4 hb λhb=>⟨oc,od,sl,f,hK,rfl,beq_iff_eq.mp h1,beq_iff_eq.mp h2,OI.mp h3,hb,h4,λs vs X hl=>A9 F hfd hf s vs X hl⟩,JU _▸h5,JU _▸h6,beq_iff_eq.mp h7,of_decide_eq_true h8,
  λx hx=>((JL _ _).mp (Jb.mp h9 x hx)).imp beq_iff_eq.mp beq_iff_eq.mp,λx hx=>ae (Jb.mp h10 x hx) λq1 q2=>⟨JU _▸q1,JU _▸q2⟩,of_decide_eq_true h11⟩,hm⟩
section
set_option tactic.hygienic true
mutual
noncomputable def pD(K:Frag):AV→Value→Bool
 | .none,v=>v== .none
 | .bool b,v=>v== .bool b
 | .int i,v=>match v with| .int j _=>i==j|_=>N
 | .str x,v=>match v with| .str y _=>b8 x==y|_=>N
 | .tup l,v=>match v with
  | .ref a=>match K.lookup a with
   |some o=>o.cls== .type "tuple"&&(match o.data with| .seq vs _=>pO K l vs.toList|_=>N)
   |none=>N
  |_=>N
 | .lst _,_=>N
noncomputable def pO(K:Frag):List AV→List Value→Bool
 |[],vs=>vs.isEmpty
 |a::l,vs=>match vs with|v::r=>pD K a v&&pO K l r|[]=>N
end
mutual
theorem uF{K:Frag}{h:Heap}(X:K.In h):∀{a:AV} {v:Value},pD K a v=Z→ay h vZ a v
 | .none,v,e=>by simp only[pD,beq_iff_eq] at e;exact e
 | .bool b,v,e=>by simp only[pD,beq_iff_eq] at e;exact e
 | .int i,v,e=>by
  simp only[pD] at e;split at e
  ·rename_i j t;exact⟨t,by rw[beq_iff_eq.mp e]⟩
  ·exact nomatch e
 | .str x,v,e=>by
  simp only[pD] at e;split at e
  ·rename_i j t;exact⟨t,by rw[beq_iff_eq.mp e]⟩
  ·cases e
 | .tup l,v,e=>by
  simp only[pD] at e;refine aw λMz kz8=> ?_
  split at e
  ·rename_i a;split at e
   ·rename_i o ho;simp only[I8,beq_iff_eq] at e;obtain⟨hc,e⟩:=e;split at e
    ·rename_i vs n hd;refine kz8 ?_;exact⟨a,o,vs,n,rfl,(λq=>q.elim (λ⟨_,hp,_⟩=>nomatch hp) (λm=>nomatch m)),X _ _ ho,hc,hd,qG X e⟩
    ·refine kz8 ?_;exact(Jd e).elim
   ·cases e
  ·cases e
 | .lst l,v,e=>by simp only[pD] at e;cases e
theorem qG{K:Frag}{h:Heap}(X:K.In h):∀{l:List AV} {vs:List Value},pO K l vs=Z→ax h vZ l vs
 |[],vs,e=>by simp only[pO,OI] at e;exact e
 |a::l,vs,e=>by
  simp only[pO] at e;split at e
  ·rename_i v r;simp only[I8] at e;exact⟨v,r,rfl,uF X e.1,qG X e.2⟩
  ·exact(Kx e)
end
noncomputable def DK(K:Frag)(p:Str×LV):Bool:=match nsIn K JY p.1 with
 |some (O v)=>match p.2 with
  | .val a=>pD K a v
  | .tab a=>v== .ref a
  |_=>N
 |_=>N
noncomputable def sY(c:Nat):Addr:=Az.getD c 0
noncomputable def wq(i:Nat):Str:=match pg.an[i]? with
 |some x=>x
 |none=>⟨#[2000000+i]⟩
noncomputable def C9(K:Frag)(p:Nat×Nat):Bool:=Pa K (sY p.1) (wq p.2)&&Nv K (sY p.1)&&(NZ K (.ref (sY p.1)) (wq p.2)).any λa=>noGet K a
noncomputable def D4(K:Frag)(p:Nat×Nat):Bool:=NZ K (.ref (sY p.1)) "__setattr__"==O (O (.builtin "object.__setattr__"))&&PD K (sY p.1)&&QB K (sY p.1) (wq p.2)==O U&&Nv K (sY p.1)
noncomputable def Dt(K:Frag)(p:(Nat×Nat)×Nat):Bool:=match pg.fd[p.2]? with
 |some fd=>Pa K (sY p.1.1) (wq p.1.2)&&NZ K (.ref (sY p.1.1)) (wq p.1.2)==O (O (.ref fd.addr))&&isFn K (.ref fd.addr)
 |none=>N
noncomputable def C4(K:Frag)(p:Nat×Nat):Bool:=match pg.fd[p.2]? with
 |some fd=>makesIn K (sY p.1)&&NZ K (.ref (sY p.1)) "__init__"==O (O (.ref fd.addr))&&typeIn K (.ref fd.addr)==O (.type "function")
 |none=>N
noncomputable def DM(K:Frag)(c:Nat)(x:Str):Bool:=nsIn K JY x==O (O (.ref (sY c)))&&Qp K (.ref (sY c))
noncomputable def zM(K:Frag)(fd:FD):Bool:=(!fd.glob||nsIn K JY fd.name==O (O (.ref fd.addr)))&&Qp K (.ref fd.addr)
noncomputable def Et(K:Frag)(p:Str×Value):Bool:=nsIn K JY p.1==O U
theorem IC:∀i j,wq i=wq j→i=j:=by
 have hn:pg.an.Nodup:=by decide+kernel
 have hs:∀x∈pg.an,∀n:Nat,x≠⟨#[2000000+n]⟩:=by
  intro x hx n e;have:pg.an.all (λx=>x.cps.size !=1)=Z:=by decide+kernel
  have:=Jb.mp this x hx;rw[e] at this;simp at this
 intro i j e;delta wq at e;split at e
 ·rename_i x hx;split at e
  ·rename_i y hy;subst e;exact(Lc (Ji.mp hx).1 hn).mp (hx.trans hy.symm)
  ·exact absurd e (hs x (Jf hx) j)
 ·split at e
  ·rename_i y hy;exact absurd e.symm (hs y (Jf hy) i)
  ·injection e with e
   simp at e;exact e
end
noncomputable def G5:Obj:={cls:= .none,data:= .seq #[] 0}
noncomputable abbrev TF:Params→BT:=GK
noncomputable def H3:List Nat:=[2,3,15,17,18,20,21,22,29,30,32,33,35,36,37,38,39,40,43,50,51,53,54,56,57,58,59,60,63,70,71,73,74,76,77,78,79,80,83,84,85,86,87,88,89,90,91,92,93,94,95,96,97,98,99,100,101,102,103,104,105,106,107,108,109,117,119,120,122,123,124,126,127,129,130,131,133,134,136,137,138,139,140,141,142,152,154,155,157,158,159,160,161,162,163,166,168,169,171,172,173,174,176,177,179,180,181,183,184,186,187,188,190,191,193,194,195,197,198,200,201,202,204,205,207,208,209,211,212,214,215,216,218,219,221,222,223,225,226,228,229,230,232,233,235,236,237,240,241,242,244,245,247,248,249,251,252,254,255,256,258,259,261,262,263,265,266,268,269,270,272,273,275,276,277,280,281,282,285,286,287,289,290,292,293,294,296,297,299,300,301,303,304,306,307,308,309,312,313,314,316,317,319,320,321,323,324,326,327,328,331,332,333,335,336,338,339,340,342,343,345,346,347,349,350,352,353,354,357,358,359,361,362,364,365,366,368,369,371,372,373,375,376,378,379,380,382,383,385,386,387,389,390,392,393,394,396,397,399,400,401,404,405,406,408,409,411,412,413,415,416,418,419,420,422,423,425,426,427,429,430,432,433,434,435,437,438,440,441,442,444,445,447,448,449,452,453,454,456,457,459,460,461,464,465,466,468,469,471,472,473,475,476,478,479,480,483,484,485,487,488,490,491,492,495,496,497,499,500,502,503,504,507,508,509,510,512,513,515,516,524,526,527,529,530,531,533,534,536,537,538,540,541,543,544,545,547,548,550,551,552,554,555,557,558,559,561,562,564,565,566,568,569,571,572,573,575,576,578,579,580,582,583,585,586,587,589,590,592,593,594,596,597,599,600,601,603,604,606,607,608,610,611,613,614,615,617,618,620,621,622,624,625,627,628,629,631,632,634,635,636,638,639,641,642,643,645,646,648,649,650,652,653,655,656,657,658,659,660,661,664,671,673,674,676,677,678,680,681,683,684,685,687,688,690,691,692,693,694,697,699,700,702,703,704,706,707,709,710,711,713,714,716,717,718,720,721,723,724,725,726,727,728,729,731,732,734,735,736,738,739,741,742,743,746,747,748,751,752,753,755,756,758,759,760,763,764,765,768,769,770,773,774,775,777,778,780,781,782,784,785,787,788,789,791,792,794,795,796,797,798,800,801,803,804,805,808,809,810,813,814,815,817,818,820,821,822,824,825,827,828,829,832,833,834,836,837,839,840,841,843,844,846,847,848,850,851,853,854,855,857,858,860,861,862,865,866,867,869,870,872,873,874,876,877,879,880,881,884,885,886,888,889,891,892,893,896,897,898,900,901,903,904,905,908,909,910,911,912,913,914,915,917,918,920,921,922,924,925,927,928,929,931,932,934,935,936,938,939,941,942,943,946,947,948,951,952,953,955,956,958,959,960,962,963,965,966,967,969,970,972,973,974,977,978,979,982,983]
noncomputable def lG:Option Obj→Bool
 |some ⟨_,_,.freed,_⟩=>N
 |some _=>Z
 |none=>N
noncomputable def Kf(p:Params):Frag:=H3.map λa=>(a,((TF p).get a).getD G5)
theorem B9(p:Params):H1 p=Nw (TF p) 984 {}:=rfl
theorem FL(p:Params):H3.all (λa=>PV a 984&&lG ((TF p).get a))=Z:=by kernel_rfl
theorem lF{α:Type}{f:Nat→α}:∀{l:List Nat} {a:Nat} {o:α},(l.map λa=>(a,f a)).lookup a=O o→a∈l∧o=f a
 |[],_,_,h=>by cases h
 |b::l,a,o,h=>by
  rw[JT,KI] at h;by_cases q:(a==b)=Z
  ·rw[q] at h;cases h;have:a=b:=by simpa using q
   subst this;exact⟨.head _,rfl⟩
  ·rw[JN] at q;rw[q] at h;obtain⟨h1,h2⟩:=lF h;exact⟨.tail _ h1,h2⟩
theorem Gi{p:Params}{h:Heap}(e:∀b o,(H1 p).get? b=O o→h.get? b=O o):(Kf p).In h:=by
 intro a o ho;obtain⟨h1,h2⟩:=lF ho;have h3:=Jb.mp (FL p) a h1;simp only[I8] at h3;obtain⟨h4,h5⟩:=h3;refine e a o ?_;rw[B9];cases g:(TF p).get a with
 |none=>rw[g] at h5;cases h5
 |some o'=>
  rw[g] at h2 h5;have:o=o':=h2;subst this;rw[abs_get (by simpa[Qv] using h4) g];obtain⟨c,d,dt,sl⟩:=o;cases dt<;>first|rfl|cases h5
section
set_option tactic.hygienic true
theorem fD:∀{l:List (Nat×Nat)} {c i:Nat},di l c i=Z→(c,i)∈l
 |[],_,_,h=>by cases h
 |(a,b)::l,c,i,h=>by
  simp only[di,JL,I8,beq_iff_eq] at h;rcases h with⟨rfl,rfl⟩|h
  ·exact .head _
  ·exact .tail _ (fD h)
theorem jL:∀{l:List (Nat×Nat)} {c i:Nat},gm l c=O i→(c,i)∈l
 |[],_,_,h=>by cases h
 |(a,b)::l,c,i,h=>by
  simp only[gm] at h;split at h
  ·rename_i e;cases h;rw[e];exact .head _
  ·exact .tail _ (jL h)
theorem nv:∀{l:List ((Nat×Nat)×Nat)} {c i f:Nat},kE l c i=O f→((c,i),f)∈l
 |[],_,_,_,h=>by cases h
 |((a,b),g)::l,c,i,f,h=>by
  simp only[kE] at h;split at h
  ·rename_i e;cases h;rw[e.1,e.2];exact .head _
  ·exact .tail _ (nv h)
structure B3(K:Frag):Prop where
 fn:pg.fd.all (Dw K)=Z
 bind:tU K
 gl:pg.gl.all (DK K)=Z
 at_:pg.at_.all (C9 K)=Z
 sa:pg.sa.all (D4 K)=Z
 mt:pg.mt.all (Dt K)=Z
 nw:pg.nw.all (C4 K)=Z
 cn:(JE 4).all (λc=>DM K c (pg.cn.getD c ""))=Z
 fg:pg.fd.all (zM K)=Z
 bl:cY.all (Et K)=Z
theorem zX:∀p∈cY,LL p.1=O p.2:=by
 intro p hp;simp only[cY,Jh,JO,or_false] at hp;rcases hp with rfl|rfl|rfl|rfl|rfl|rfl|rfl|rfl|rfl|rfl<;>kernel_rfl
theorem Fo{W:Wd}(hca:W.ca=sY)(han:W.an=wq)(F:B3 W.K):Ok W pg:=by
 refine⟨λi x lv e=> ?_,λi fd e=> ?_,λi fd e g=> ?_,λi fd e=> ?_,λi x e=> ?_,?_,λc i e=> ?_,λc i e=> ?_,λc i f e=> ?_,λc f e=> ?_,λc x e=> ?_,λp hp=>⟨?_,zX p hp⟩⟩
 ·have:=Jb.mp F.gl _ (Jf e);unfold DK at this;split at this
  ·rename_i v hv;refine⟨v,hv,?_⟩;simp only at this;split at this
   ·exact⟨uF W.XB this,(λn q=>by cases q),(λn q=>by cases q)⟩
   ·exact⟨beq_iff_eq.mp this,(λn q=>by cases q),(λn q=>by cases q)⟩
   ·exfalso;contradiction
  ·exact(Kx this)
 ·have hm:=Jf e;exact Ac F.bind hm (Jb.mp F.fn _ hm)
 ·have:=Jb.mp F.fg _ (Jf e);unfold zM at this;simp only[I8,JL,JU,beq_iff_eq] at this;rcases this.1 with h|h
  ·rw[g] at h;cases h
  ·exact h
 ·have:=Jb.mp F.fg _ (Jf e);unfold zM at this;simp only[I8] at this;exact this.2
 ·rw[han];delta wq;rw[e]
 ·rw[han];exact IC
 ·have:=Jb.mp F.at_ _ (fD e);unfold C9 at this;simp only[I8] at this;obtain⟨⟨h1,h2⟩,h3⟩:=this;refine ak (any_some h3) λa h4 h5=> ?_
  exact⟨by rw[hca,han];exact h1,by rw[hca];exact h2,a,by rw[hca,han];exact h4,h5⟩
 ·have:=Jb.mp F.sa _ (fD e);unfold D4 at this;simp only[I8,beq_iff_eq] at this;obtain⟨⟨⟨h1,h2⟩,h3⟩,h4⟩:=this;exact⟨by rw[hca];exact h1,by rw[hca];exact h2,by rw[hca,han];exact h3,by rw[hca];exact h4⟩
 ·have:=Jb.mp F.mt _ (nv e);unfold Dt at this;split at this
  ·rename_i fd hfd;simp only[I8,beq_iff_eq] at this;obtain⟨⟨h1,h2⟩,h3⟩:=this;exact⟨fd,hfd,by rw[hca,han];exact h1,by rw[hca,han];exact h2,h3⟩
  ·exact(Jd this).elim
 ·have:=Jb.mp F.nw _ (jL e);unfold C4 at this;split at this
  ·rename_i fd hfd;simp only[I8,beq_iff_eq] at this;obtain⟨⟨h1,h2⟩,h3⟩:=this;exact⟨fd,hfd,by rw[hca];exact h1,by rw[hca];exact h2,h3⟩
  ·exact(Kx this)
 ·have hc:c<4:=by
   have:=(Ji.mp e).1;exact this
  have:=Jb.mp F.cn c (J6.mpr hc);rw[Jp,e] at this;delta DM at this;simp only[Option.getD_some,I8,beq_iff_eq] at this;rw[hca];exact this
 ·have:=Jb.mp F.bl p hp;exact beq_iff_eq.mp this
end
theorem ut{p:Params}{h:Heap}(e:∀b o,(H1 p).get? b=O o→h.get? b=O o)(a:Nat){o:Obj}(ha:(PV a 984&&lG ((TF p).get a))=Z)(g:(TF p).get a=O o):h.get? a=O o:=by
 rw[I8] at ha;refine e a o ?_;rw[B9,abs_get (by simpa[Qv] using ha.1) g];have h5:=ha.2;rw[g] at h5;obtain⟨c,d,dt,sl⟩:=o;cases dt<;>first|rfl|cases h5
section
variable{prog:Program}{w:World}{h:Heap}(e:∀b o,(H1 w.params).get? b=O o→h.get? b=O o)
include e
theorem GZ:h.get? 109=O {cls:= .type "dict",data:= .dict #[{hash:=3,key:= .int 3 329,val:= .int 6 371},{hash:=4,key:= .int 4 331,val:= .int 5 369},{hash:=5,key:= .int 5 333,val:= .int 4 367},{hash:=6,key:= .int 6 335,val:= .int 1 361},{hash:=7,key:= .int 7 337,val:= .int 2 363},{hash:=10,key:= .int 10 343,val:= .int 7 373}] 6}:=
 ut e 109 (by kernel_rfl) (by kernel_rfl)
theorem HW:h.get? 726=O {cls:= .type "dict",data:= .dict #[{hash:=1,key:= .int 1 361,val:= .str (Jq "string") 1291},{hash:=2,key:= .int 2 363,val:= .str (Jq "number") 1292},{hash:=3,key:= .int 3 365,val:= .str (Jq "boolean") 1293},{hash:=4,key:= .int 4 367,val:= .str (Jq "object") 1294},{hash:=5,key:= .int 5 369,val:= .str (Jq "undefined") 1295},{hash:=6,key:= .int 6 371,val:= .str (Jq "undefined") 1296},{hash:=7,key:= .int 7 373,val:= .str (Jq "object") 1297}] 7}:=
 ut e 726 (by kernel_rfl) (by kernel_rfl)
theorem Hx:h.get? 725=O {cls:= .type "dict",data:= .dict #[{hash:=KJ w.params (Jq "string"),key:= .str (Jq "string") 1282,val:= .int 6 335},{hash:=KJ w.params (Jq "number"),key:= .str (Jq "number") 1283,val:= .int 7 337},{hash:=KJ w.params (Jq "boolean"),key:= .str (Jq "boolean") 1284,val:= .int 12 347},{hash:=KJ w.params (Jq "undefined"),key:= .str (Jq "undefined") 1285,val:= .int 4 331}] 4}:=
 ut e 725 (by kernel_rfl) (by kernel_rfl)
theorem Hf:∃o,h.get? LB=O o:=by
 have hs:lG ((TF w.params).get 1)=Z:=by kernel_rfl
 cases g:(TF w.params).get 1 with
 |none=>rw[g] at hs;cases hs
 |some o=>exact⟨o,ut e 1 (by rw[hs];rfl) g⟩
theorem EL(a:Nat)(k:KD)(es:List (AV×AV))(ht:ac a=O (k,es)):dH prog w h vZ (.dict k es) a∧(a==LB)=N:=by
 unfold ac at ht;split at ht
 ·cases ht;refine⟨⟨[(3,.int 6 371),(4,.int 5 369),(5,.int 4 367),(6,.int 1 361),(7,.int 2 363),(10,.int 7 373)],6,⟨_,_,GZ e,⟨rfl,rfl,rfl⟩,rfl,?_,?_,by decide⟩,?_⟩,rfl⟩
  ·intro x hx;simp only[M4,Jh,JO,or_false] at hx;rcases hx with rfl|rfl|rfl|rfl|rfl|rfl
   ·exact⟨3,rfl,by kernel_rfl⟩
   ·exact⟨4,rfl,by kernel_rfl⟩
   ·exact⟨5,rfl,by kernel_rfl⟩
   ·exact⟨6,rfl,by kernel_rfl⟩
   ·exact⟨7,rfl,by kernel_rfl⟩
   ·exact⟨10,rfl,by kernel_rfl⟩
  ·repeat' first|exact .nil|refine .cons rfl rfl ?_
  ·exact⟨_,_,_,rfl,rfl,⟨_,rfl⟩,_,_,_,rfl,rfl,⟨_,rfl⟩,_,_,_,rfl,rfl,⟨_,rfl⟩,_,_,_,rfl,rfl,⟨_,rfl⟩,_,_,_,rfl,rfl,⟨_,rfl⟩,_,_,_,rfl,rfl,⟨_,rfl⟩,rfl⟩
 ·cases ht;refine⟨⟨[(1,.str (Jq "string") 1291),(2,.str (Jq "number") 1292),(3,.str (Jq "boolean") 1293),(4,.str (Jq "object") 1294),(5,.str (Jq "undefined") 1295),(6,.str (Jq "undefined") 1296),(7,.str (Jq "object") 1297)],7,⟨_,_,HW e,⟨rfl,rfl,rfl⟩,rfl,?_,?_,by decide⟩,?_⟩,rfl⟩
  ·intro x hx;simp only[M4,Jh,JO,or_false] at hx;rcases hx with rfl|rfl|rfl|rfl|rfl|rfl|rfl
   ·exact⟨1,rfl,by kernel_rfl⟩
   ·exact⟨2,rfl,by kernel_rfl⟩
   ·exact⟨3,rfl,by kernel_rfl⟩
   ·exact⟨4,rfl,by kernel_rfl⟩
   ·exact⟨5,rfl,by kernel_rfl⟩
   ·exact⟨6,rfl,by kernel_rfl⟩
   ·exact⟨7,rfl,by kernel_rfl⟩
  ·repeat' first|exact .nil|refine .cons rfl rfl ?_
  ·exact⟨_,_,_,rfl,rfl,⟨1291,by kernel_rfl⟩,_,_,_,rfl,rfl,⟨1292,by kernel_rfl⟩,_,_,_,rfl,rfl,⟨1293,by kernel_rfl⟩,_,_,_,rfl,rfl,⟨1294,by kernel_rfl⟩,_,_,_,rfl,rfl,⟨1295,by kernel_rfl⟩,_,_,_,rfl,rfl,⟨1296,by kernel_rfl⟩,_,_,_,rfl,rfl,⟨1297,by kernel_rfl⟩,rfl⟩
 ·cases ht;refine⟨⟨[(Jq "string",.int 6 335),(Jq "number",.int 7 337),(Jq "boolean",.int 12 347),(Jq "undefined",.int 4 331)],4,⟨_,_,Hx e,⟨rfl,rfl,rfl⟩,rfl,?_,?_,by decide+kernel⟩,?_⟩,rfl⟩
  ·intro x hx;simp only[M4,Jh,JO,or_false] at hx;rcases hx with rfl|rfl|rfl|rfl
   ·exact⟨Jq "string",by kernel_rfl,by kernel_rfl⟩
   ·exact⟨Jq "number",by kernel_rfl,by kernel_rfl⟩
   ·exact⟨Jq "boolean",by kernel_rfl,by kernel_rfl⟩
   ·exact⟨Jq "undefined",by kernel_rfl,by kernel_rfl⟩
  ·repeat' first|exact .nil|refine .cons (by kernel_rfl) rfl ?_
  ·exact⟨_,_,_,rfl,⟨_,rfl,by kernel_rfl⟩,⟨_,rfl⟩,_,_,_,rfl,⟨_,rfl,by kernel_rfl⟩,⟨_,rfl⟩,_,_,_,rfl,⟨_,rfl,by kernel_rfl⟩,⟨_,rfl⟩,_,_,_,rfl,⟨_,rfl,by kernel_rfl⟩,⟨_,rfl⟩,rfl⟩
 ·cases ht
end
noncomputable def I5(w:World)(B:Heap)(mg mb:Str→Option Value)(e:∀b o,(H1 w.params).get? b=O o→B.get? b=O o)(lim:B.NoLimit)(gl:B.Ns JY mg)(bi:B.Ns LW mb)(bt:∀x:Str,x≠"__name__"→mb x=LL x):Wd where
 prog:=Jl.row.toRowW.prog
 w:=w
 K:=Kf w.params
 B:=B
 an:=wq
 ca:=sY
 mg:=mg
 mb:=mb
 XB:=Gi e
 lim:=lim
 gl:=gl
 bi:=bi
 bt:=bt
 sm:=Hf e
 tb:=ac
 tbok:=EL e
theorem G6(W:Wd):au W W.B ⟨[],[],0⟩ ⟨[],[]⟩:=by
 refine⟨rfl,rfl,?_,?_,?_,λ_ _ e=>e,?_⟩
 ·intro n o p h;cases h
 ·intro n o a h;cases h
 ·exact List.nodup_nil
 ·intro a h;rcases h with⟨p,hp,_⟩|h<;>first|cases hp|cases h
section
set_option tactic.hygienic true
theorem GL(p:Params):pg.fd.all (Dw (Kf p))=Z:=by kernel_rfl
theorem GU(p:Params)(g:Nat→Value)(d:Value):pg.fd.map (bL (Kf p) g d)=pg.fd.map (bR g d):=by kernel_rfl
theorem Hs(p:Params):pg.fd.map (dL (Kf p))=pg.fd.map dR:=by kernel_rfl
theorem G8(p:Params):((Kf p).lookup 173).map (·.data)=O (.seq #[.int 0 517] 0):=by kernel_rfl
theorem GE(p:Params):((Kf p).lookup 434).map (·.data)=O (.seq #[.int 0 897] 0):=by kernel_rfl
theorem Hj(p:Params):∀T∈[173,434],∃t,((Kf p).lookup T).map (·.data)=O (.seq #[.int 0 t] 0):=λT h=>by
 rcases Jh.mp h with rfl|h
 ·exact⟨_,G8 p⟩
 ·cases Ja.mp h;exact⟨_,GE p⟩
theorem DH(p:Params):tU (Kf p):=⟨GU p,Hs p,Hj p⟩
theorem GI(p:Params):pg.gl.all (DK (Kf p))=Z:=by kernel_rfl
theorem Hl(p:Params):pg.at_.all (C9 (Kf p))=Z:=by kernel_rfl
theorem GM(p:Params):pg.sa.all (D4 (Kf p))=Z:=by kernel_rfl
theorem Hy(p:Params):pg.mt.all (Dt (Kf p))=Z:=by kernel_rfl
theorem G1(p:Params):pg.nw.all (C4 (Kf p))=Z:=by kernel_rfl
theorem Hh(p:Params):(JE 4).all (λc=>DM (Kf p) c (pg.cn.getD c ""))=Z:=by kernel_rfl
theorem GY(p:Params):pg.fd.all (zM (Kf p))=Z:=by kernel_rfl
theorem HE(p:Params):cY.all (Et (Kf p))=Z:=by kernel_rfl
theorem F7(p:Params):B3 (Kf p):=⟨GL p,DH p,GI p,Hl p,GM p,Hy p,G1 p,Hh p,GY p,HE p⟩
end
section
set_option tactic.hygienic true
theorem vD{h:Heap}{μ:Mp}{vs:List Value}{ns:List Int}(h1:OZ vs ns):ax h μ (ns.map AV.int) vs:=fC h1
theorem DA(law:∀ns:List Int,¬63<ns.length→∃st',Fn pg ac 40 90 [.val (.lst (ns.map AV.int))] ⟨[],[]⟩=O (.val (.bool Z),st'))
  {w:World} {s₁:Shared} {mg mb:Str→Option Value} (e:∀b o,(H1 w.params).get? b=O o→s₁.heap.get? b=O o) (lim:s₁.heap.NoLimit) (gl:s₁.heap.Ns JY mg) (bi:s₁.heap.Ns LW mb) (bt:∀x:Str,x≠"__name__"→mb x=LL x)
  {fa l:Addr} {vs:List Value} {ns:List Int} (hf:mg (Jq "law")=O (.ref fa)) (hL:s₁.heap.IsList l vs.toArray) (hI:OZ vs ns) (hn:¬63<ns.length) (hg:s₁.gens= #[]) {cl:Str→Option Addr} {mean:ExcName→Option Value} {args:List WData}
  (hargs:args=[ofPy (PyData.list (ns.map PyData.int))]):
  Oc (model Jl.row.toRowW.prog w) callerA (.call (.ref fa) ⟨[.ref l],[]⟩) (GoodW Jl.row.toRowW.claim cl mean args s₁) s₁:=by
 let W:=I5 w s₁.heap mg mb e lim gl bi bt
 have ok:Ok W pg:=Fo (W:=W) rfl rfl (F7 w.params);have hfd:pg.fd[90]? =O eK:=by kernel_rfl
 have hfa:fa=eK.addr:=by
  have h1:=ok.fg 90 eK hfd (by kernel_rfl);have h2:mg (Jq "law")=O (.ref eK.addr):=mg_of W.XB W.gl h1;rw[hf] at h2;cases h2;rfl
 subst hfa;obtain⟨st',hlaw⟩:=law ns hn;obtain⟨o,ho,hc,n,hd⟩:=hL;have hrep:bx s₁.heap ⟨[],[],0⟩ [.val (.lst (ns.map AV.int))] [.ref l]:=
  ⟨_,_,rfl,⟨l,o,vs.toArray,n,rfl,(by intro m;rcases m with⟨p,hp,_⟩|m<;>first|cases hp|cases m),ho,hc,hd,vD hI⟩,rfl⟩
 have hgood:=oD ok 40 90 eK _ _ _ _ hfd hlaw callerA s₁ ⟨[],[],0⟩ [.ref l] (by refine⟨rfl,?_,?_⟩<;>decide) (G6 W) hrep;refine hgood _ λv h' tk' μ' S p=> ?_
 have hv:v= .bool Z:=p.1;subst hv;refine⟨.inl ⟨_,.bool Z,[],rfl,?_,.bool Z,?_,unshared_nil⟩,λb o hb=>S.keep b o hb (by intro m;rcases m with⟨p,hp,_⟩|m<;>first|cases hp|cases m) (λx=>x),rfl,hg⟩
 ·intro cls;rfl
 ·subst hargs;exact postW_of (r:=Jl.row.toRowW) (X:=Z) (by rfl) (by show WTm.value _ (.eq .res (.lit (.bool Z))) _=_;wtm_val) (by first|rfl|decide|simp)
end
section
variable{P:Pg}{tb:Nat→Option (KD×List (AV×AV))}{Φ:ek}{ρ:Ρ}{st:St}
theorem im i(m:Md):ev P tb Φ (.var i) m ρ st=(bv m (oO ρ[i]? λo=>oO o λlv=>O (lv,st))):=rfl
theorem AJ i(m:Md):ev P tb Φ (.glb i) m ρ st=(bv m (oO P.gl[i]? λp=>O (p.2,st))):=rfl
theorem zV o i(m:Md):ev P tb Φ (.sub o i) m ρ st=(bv m (o1 (ev P tb Φ o .V ρ st) λx st1=>o1 (ev P tb Φ i .V ρ st1) λy st2=>(aL tb st2 x y).map λv=>(v,st2))):=rfl
theorem Gy o i(m:Md):ev P tb Φ (.slT o i) m ρ st=(bv m (o1 (ev P tb Φ o .V ρ st) λx st1=>oI (ev P tb Φ i .V ρ st1) λk st2=>oO (ao st2 x) λp=>
 if p.1 then(if p.2.length<aA∧0≤k then O (.val (.lst (p.2.take (min k.toNat p.2.length))),st2) else U) else(if p.2.length<aA then O (.val (.tup (p.2.take (bT k p.2.length))),st2) else U))):=rfl
theorem AD f a(m:Md):ev P tb Φ (.fn1 f a) m ρ st=(bv m (o1 (ev P tb Φ a .V ρ st) λx st1=>(aF tb f st1 x).map λv=>(v,st1))):=rfl
theorem yk o k d(m:Md):ev P tb Φ (.getD o k d) m ρ st=(bv m (o1 (ev P tb Φ o .V ρ st) λx st1=>oO (dictOf? tb st1 x) λ_=>oV (ev P tb Φ k .V ρ st1) λy st2=>oV (ev P tb Φ d .V ρ st2) λz st3=>oO (dictOf? tb st3 x) λp=>
 if aU p.1 y then O (.val ((aE p.2 y).getD z),st3) else U)):=rfl
theorem qi loc tg bs e it cond(m:Md):ev P tb Φ (.comp loc tg bs e it cond) m ρ st=(bv m (o1 (ev P tb Φ it .V ρ st) λx st1=>oO (ao st1 x) λp=>oO (ch (bn tg) (λρ s=>oB (ev P tb Φ cond .T ρ s) λt s1=>O (t,s1)) (λρ s=>oV (ev P tb Φ e .V ρ s) λa s1=>O (a,s1))
  (aP x p.1 p.2) st1.S.length p.2 (bD bs ρ) {st1 with S:=st1.S++[.list []]}) λst2=>
 if loc then O (.loc st1.S.length,cR (st1.S.length+1) st2) else oO st2.S[st1.S.length]? λc=>sJ c λr=>O (.val (.lst r),cR st1.S.length st2))):=rfl
section
variable{β:Type}
theorem tv(x:LV)(s:St)(f:LV→St→Option β):o1 (O ([x],s)) f=f x s:=rfl
theorem Bg(x:AV)(s:St)(f:AV→St→Option β):oV (O ([.val x],s)) f=f x s:=rfl
theorem GW(x:Int)(s:St)(f:Int→St→Option β):oI (O ([.val (.int x)],s)) f=f x s:=rfl
theorem zW{α:Type}(x:α)(f:α→Option β):oO (O x) f=f x:=rfl
end
theorem iQ s r:ex P tb Φ (.cons s r) ρ st=(oO (ex P tb Φ s ρ st) λq=>match q.1 with
 |none=>ex P tb Φ r q.2.1 q.2.2
 |some v=>O (O v,q.2)):=rfl
theorem Ai i e:ex P tb Φ (.asc i e) ρ st=(o1 (ev P tb Φ e .V ρ st) λv st1=>if i<ρ.length then O (U,ρ.set i (O v),st1) else U):=rfl
theorem tM o i e:ex P tb Φ (.sti o i e) ρ st=(oV (ev P tb Φ e .V ρ st) λz st1=>o1 (ev P tb Φ o .V ρ st1) λx st2=>oV (ev P tb Φ i .V ρ st2) λy st3=>(ky st3 x y z).map λs=>(U,ρ,s)):=rfl
theorem Bo tg it b:ex P tb Φ (.frN tg it b) ρ st=(o1 (ev P tb Φ it .V ρ st) λx st1=>oO (ao st1 x) λp=>bB (bn tg) (ex P tb Φ b) (aP x p.1 p.2) p.2 ρ st1):=rfl
theorem BC tg n b:ex P tb Φ (.frR tg n b) ρ st=(oI (ev P tb Φ n .V ρ st) λk st1=>if 0≤k∧k<1000000 then bB (bn tg) (ex P tb Φ b) (λ_=>Z) ((JE k.toNat).map λ(i:Nat)=>AV.int (i:Int)) ρ st1 else U):=rfl
end
noncomputable abbrev zz:St:=⟨[],[]⟩
noncomputable def bc:List AV:=[(.tup [(.int 1),(.str [97,110,121])]),(.tup [(.int 1),(.str [117,110,107,110,111,119,110])]),(.tup [(.int 1),(.str [110,101,118,101,114])]),(.tup [(.int 1),(.str [118,111,105,100])]),(.tup [(.int 1),(.str [117,110,100,101,102,105,110,101,100])]),(.tup [(.int 1),(.str [110,117,108,108])]),(.tup [(.int 1),(.str [115,116,114,105,110,103])]),(.tup [(.int 1),(.str [110,117,109,98,101,114])]),(.tup [(.int 2),(.int 0),(.int 0)]),(.tup [(.int 2),(.int 1),(.int 0)]),(.tup [(.int 1),(.str [111,98,106,101,99,116])]),(.tup [(.int 8),(.tup []),(.tup []),(.tup []),(.tup []),(.tup []),(.int 0)]),(.tup [(.int 6),(.tup [(.int 8),(.int 9)])]),(.tup [(.int 1),(.str [101,114,114,111,114])]),(.tup [(.int 2),(.int 0),(.int 1)]),(.tup [(.int 2),(.int 1),(.int 1)]),(.tup [(.int 3),(.str [97]),(.int 0)]),(.tup [(.int 3),(.str [98]),(.int 0)]),(.tup [(.int 8),(.tup [(.tup [(.str [109]),(.int 7),(.int 0),(.int 0)])]),(.tup []),(.tup []),(.tup []),(.tup []),(.int 0)]),(.tup [(.int 3),(.str []),(.int 0)]),(.tup [(.int 3),(.str [97]),(.int 1)]),(.tup [(.int 3),(.str [98]),(.int 1)]),(.tup [(.int 4),(.int 0),(.int 0)]),(.tup [(.int 4),(.int 1),(.int 1)]),(.tup [(.int 4),(.int (-1)),(.int 0)]),(.tup [(.int 5),(.int 2),(.str [65]),(.int 0),(.int 0)]),(.tup [(.int 5),(.int 2),(.str [66]),(.int 1),(.int 1)]),(.tup [(.int 5),(.int 3),(.str [65]),(.str [97]),(.int 0)]),(.tup [(.int 8),(.tup [(.tup [(.str [107]),(.int 16),(.int 0),(.int 0)])]),(.tup []),(.tup []),(.tup []),(.tup []),(.int 0)]),(.tup [(.int 8),(.tup [(.tup [(.str [107]),(.int 17),(.int 0),(.int 0)])]),(.tup []),(.tup []),(.tup []),(.tup []),(.int 0)]),(.tup [(.int 9),(.int 1),(.tup [])]),(.tup [(.int 11),(.int 7),(.int 0)])]
noncomputable def l5:List (AV×AV):=[((.tup [(.int 1),(.str [97,110,121])]),(.int 0)),((.tup [(.int 1),(.str [117,110,107,110,111,119,110])]),(.int 1)),((.tup [(.int 1),(.str [110,101,118,101,114])]),(.int 2)),((.tup [(.int 1),(.str [118,111,105,100])]),(.int 3)),((.tup [(.int 1),(.str [117,110,100,101,102,105,110,101,100])]),(.int 4)),((.tup [(.int 1),(.str [110,117,108,108])]),(.int 5)),((.tup [(.int 1),(.str [115,116,114,105,110,103])]),(.int 6)),((.tup [(.int 1),(.str [110,117,109,98,101,114])]),(.int 7)),((.tup [(.int 2),(.int 0),(.int 0)]),(.int 8)),((.tup [(.int 2),(.int 1),(.int 0)]),(.int 9)),((.tup [(.int 1),(.str [111,98,106,101,99,116])]),(.int 10)),((.tup [(.int 8),(.tup []),(.tup []),(.tup []),(.tup []),(.tup []),(.int 0)]),(.int 11)),((.tup [(.int 6),(.tup [(.int 8),(.int 9)])]),(.int 12)),((.tup [(.int 1),(.str [101,114,114,111,114])]),(.int 13)),((.tup [(.int 2),(.int 0),(.int 1)]),(.int 14)),((.tup [(.int 2),(.int 1),(.int 1)]),(.int 15)),((.tup [(.int 3),(.str [97]),(.int 0)]),(.int 16)),((.tup [(.int 3),(.str [98]),(.int 0)]),(.int 17)),((.tup [(.int 8),(.tup [(.tup [(.str [109]),(.int 7),(.int 0),(.int 0)])]),(.tup []),(.tup []),(.tup []),(.tup []),(.int 0)]),(.int 18)),((.tup [(.int 3),(.str []),(.int 0)]),(.int 19)),((.tup [(.int 3),(.str [97]),(.int 1)]),(.int 20)),((.tup [(.int 3),(.str [98]),(.int 1)]),(.int 21)),((.tup [(.int 4),(.int 0),(.int 0)]),(.int 22)),((.tup [(.int 4),(.int 1),(.int 1)]),(.int 23)),((.tup [(.int 4),(.int (-1)),(.int 0)]),(.int 24)),((.tup [(.int 5),(.int 2),(.str [65]),(.int 0),(.int 0)]),(.int 25)),((.tup [(.int 5),(.int 2),(.str [66]),(.int 1),(.int 1)]),(.int 26)),((.tup [(.int 5),(.int 3),(.str [65]),(.str [97]),(.int 0)]),(.int 27)),((.tup [(.int 8),(.tup [(.tup [(.str [107]),(.int 16),(.int 0),(.int 0)])]),(.tup []),(.tup []),(.tup []),(.tup []),(.int 0)]),(.int 28)),((.tup [(.int 8),(.tup [(.tup [(.str [107]),(.int 17),(.int 0),(.int 0)])]),(.tup []),(.tup []),(.tup []),(.tup []),(.int 0)]),(.int 29)),((.tup [(.int 9),(.int 1),(.tup [])]),(.int 30)),((.tup [(.int 11),(.int 7),(.int 0)]),(.int 31))]
noncomputable def B6:List GO:=[(.rlist [(.dat .none),(.ref 10),(.ref 13),(.ref 16)]),(.con (.list [])),(.con (.list [])),(.con (.list [])),(.con (.dict .int [])),(.con (.dict .int [])),(.inst 3 [(25,(.ref 0)),(26,(.dat (.int 0))),(27,(.dat (.int 200))),(28,(.dat (.int 40))),(29,(.dat .none))]),(.inst 1 [(10,(.dat (.int 1))),(11,(.dat (.int 2))),(12,(.dat (.str [74]))),(13,(.dat (.tup []))),(14,(.dat (.int 18))),(15,(.dat (.tup []))),(16,(.dat (.int (-1)))),(17,(.dat (.int 0))),(18,(.dat (.bool N))),(19,(.ref 11)),(20,(.ref 12)),(21,(.dat (.int 0))),(22,(.dat (.int 0))),(23,(.dat (.str []))),(24,(.dat (.int 0)))]),(.con (.list [])),(.con (.list [])),(.inst 1 [(10,(.dat (.int 2))),(11,(.dat (.int 5))),(12,(.dat (.str [69]))),(13,(.dat (.tup []))),(14,(.dat (.int (-1)))),(15,(.dat (.tup []))),(16,(.dat (.int (-1)))),(17,(.dat (.int 0))),(18,(.dat (.bool N))),(19,(.ref 14)),(20,(.ref 15)),(21,(.dat (.int 0))),(22,(.dat (.int 0))),(23,(.dat (.str []))),(24,(.dat (.int 0)))]),(.con (.list [])),(.con (.list [])),(.inst 1 [(10,(.dat (.int 3))),(11,(.dat (.int 5))),(12,(.dat (.str [70]))),(13,(.dat (.tup []))),(14,(.dat (.int (-1)))),(15,(.dat (.tup []))),(16,(.dat (.int (-1)))),(17,(.dat (.int 0))),(18,(.dat (.bool N))),(19,(.ref 17)),(20,(.ref 18)),(21,(.dat (.int 0))),(22,(.dat (.int 0))),(23,(.dat (.str []))),(24,(.dat (.int 0)))]),(.con (.list [])),(.con (.list []))]
noncomputable def yx:GO:=(.inst 0 [(0,(.ref 1)),(1,(.ref 2)),(2,(.ref 3)),(3,(.ref 4)),(4,(.ref 5)),(5,(.ref 6)),(6,(.ref 7)),(7,(.ref 8)),(8,(.dat (.int 0))),(9,(.dat (.int 0)))])
noncomputable def aW:List (AV×AV):=[((.int 4),(.tup [(.int 0)])),((.int 5),(.tup [(.int 1)])),((.int 8),(.tup [(.int 2)])),((.int 9),(.tup [(.int 3)])),((.int 12),(.tup [(.int 2),(.int 3)])),((.int 14),(.tup [(.int 2)])),((.int 19),(.tup [(.int 4)])),((.int 16),(.tup [(.int 5)])),((.int 20),(.tup [(.int 5)])),((.int 21),(.tup [(.int 6)])),((.int 22),(.tup [(.int 7)])),((.int 23),(.tup [(.int 8)])),((.int 24),(.tup [(.int 9)])),((.int 25),(.tup [(.int 7)])),((.int 26),(.tup [(.int 8)])),((.int 27),(.tup [(.int 5)])),((.int 6),(.tup [(.int 4),(.int 5),(.int 6)])),((.int 7),(.tup [(.int 7),(.int 8),(.int 9),(.int 10)])),((.int 28),(.tup [(.int 11),(.int 13)])),((.int 29),(.tup [(.int 12)])),((.int 18),(.tup [(.int 13)])),((.int 30),(.tup [(.int 13)])),((.int 31),(.tup [(.int 14)])),((.int 10),(.tup [(.int 11),(.int 12),(.int 13),(.int 14),(.int 15)])),((.int 11),(.tup [(.int 2),(.int 3),(.int 4),(.int 5),(.int 6),(.int 7),(.int 8),(.int 9),(.int 10),(.int 11),(.int 12),(.int 13),(.int 14),(.int 15)])),((.int 1),(.tup [(.int 0),(.int 1),(.int 2),(.int 3),(.int 4),(.int 5),(.int 6),(.int 7),(.int 8),(.int 9),(.int 10),(.int 11),(.int 12),(.int 13),(.int 14),(.int 15)])),((.int 0),(.tup [(.int 0),(.int 1),(.int 2),(.int 3),(.int 4),(.int 5),(.int 6),(.int 7),(.int 8),(.int 9),(.int 10),(.int 11),(.int 12),(.int 13),(.int 14),(.int 15)]))]
noncomputable def cK:List AV:=[(.tup [(.int 4),(.tup [(.int 0)])]),(.tup [(.int 5),(.tup [(.int 1)])]),(.tup [(.int 8),(.tup [(.int 2)])]),(.tup [(.int 9),(.tup [(.int 3)])]),(.tup [(.int 12),(.tup [(.int 2),(.int 3)])]),(.tup [(.int 14),(.tup [(.int 2)])]),(.tup [(.int 19),(.tup [(.int 4)])]),(.tup [(.int 16),(.tup [(.int 5)])]),(.tup [(.int 20),(.tup [(.int 5)])]),(.tup [(.int 21),(.tup [(.int 6)])]),(.tup [(.int 22),(.tup [(.int 7)])]),(.tup [(.int 23),(.tup [(.int 8)])]),(.tup [(.int 24),(.tup [(.int 9)])]),(.tup [(.int 25),(.tup [(.int 7)])]),(.tup [(.int 26),(.tup [(.int 8)])]),(.tup [(.int 27),(.tup [(.int 5)])]),(.tup [(.int 6),(.tup [(.int 4),(.int 5),(.int 6)])]),(.tup [(.int 7),(.tup [(.int 7),(.int 8),(.int 9),(.int 10)])]),(.tup [(.int 28),(.tup [(.int 11),(.int 13)])]),(.tup [(.int 29),(.tup [(.int 12)])]),(.tup [(.int 18),(.tup [(.int 13)])]),(.tup [(.int 30),(.tup [(.int 13)])]),(.tup [(.int 31),(.tup [(.int 14)])]),(.tup [(.int 10),(.tup [(.int 11),(.int 12),(.int 13),(.int 14),(.int 15)])]),(.tup [(.int 11),(.tup [(.int 2),(.int 3),(.int 4),(.int 5),(.int 6),(.int 7),(.int 8),(.int 9),(.int 10),(.int 11),(.int 12),(.int 13),(.int 14),(.int 15)])]),(.tup [(.int 1),(.tup [(.int 0),(.int 1),(.int 2),(.int 3),(.int 4),(.int 5),(.int 6),(.int 7),(.int 8),(.int 9),(.int 10),(.int 11),(.int 12),(.int 13),(.int 14),(.int 15)])]),(.tup [(.int 0),(.tup [(.int 0),(.int 1),(.int 2),(.int 3),(.int 4),(.int 5),(.int 6),(.int 7),(.int 8),(.int 9),(.int 10),(.int 11),(.int 12),(.int 13),(.int 14),(.int 15)])])]
noncomputable def rI:Nat→List AV→List (AV×AV)
 |_,[]=>[]
 |n,r::l=>(r,.int (I9 n))::rI (n+1) l
noncomputable def ag(R:List AV):List GO:=yx:: .con (.list (bc++R)):: .con (.dict .tup (l5++rI 32 R))::B6
noncomputable abbrev iv(n:Nat):AV:= .int (I9 n)
noncomputable def Qs:List Nat:=[0,1,4,5,6,7,8,9,10,11,14,16,18,19,20,21,22,23,24,25,26,27,28,29,30,31]
theorem aq{α β:Type}{f g:α→β}:∀{l:List α},l.map f=l.map g→∀x∈l,f x=g x
 |[],_,_,h=>nomatch h
 |a::l,e,x,h=>by
  rw[JT,JT] at e;injection e with e1 e2
  rcases Jh.mp h with rfl|h
  ·exact e1
  ·exact aq e2 x h
noncomputable def ET(l:List (Nat×Nat))(d:Nat):Nat→Nat:=λq=>match l with
 |[]=>d
 |(a,b)::l=>if a=q then b else ET l d q
noncomputable def ah:Nat→Nat:=ET [(0,0),(1,0),(4,5),(5,4),(6,1),(7,2),(8,3),(9,3),(10,7),(11,7),(14,3),(15,3),(16,1),(17,1),(18,7),(19,1),(20,1),(21,1),(22,2),(23,2),(24,2),(25,2),(26,2),(27,1),(28,7),(29,7),(30,7),(31,7)] 0
theorem so(k:Nat)(R S):Qs.map (λq=>Fn pg ac (k+2) 22 [.ref 0,.val (iv q)] ⟨ag R,S⟩)=Qs.map (λq=>O (.val (iv (ah q)),⟨ag R,S⟩)):=by kernel_rfl
noncomputable def aN(n f:Nat)(as:List LV)(R:List AV)(r:LV)(R':List AV):Prop:=∀k S,n≤k→Fn pg ac k f as ⟨ag R,S⟩=O (r,⟨ag R',S⟩)
theorem aN.of{n f as R r R'}(h:∀k S,Fn pg ac (k+n) f as ⟨ag R,S⟩=O (r,⟨ag R',S⟩)):aN n f as R r R':=λk S e=>by
 obtain⟨k',rfl⟩:∃k',k=k'+n:=⟨k - n,by omega⟩
 exact h k' S
theorem bF{q:Nat}(hq:q∈Qs)(R):aN 2 22 [.ref 0,.val (iv q)] R (.val (iv (ah q))) R:= .of λk S=>aq (so k R S) q hq
noncomputable def Ha:List AV:=[.tup [],.tup [],.tup [],.tup [],.tup [.int 5,.int 0],.tup [.int 4,.int 0],.tup [],.tup [],.tup [.int 3,.int 0],.tup [.int 3,.int 1],.tup [],.tup [],.tup [],.tup [],.tup [.int 3,.int 0],.tup [],.tup [.int 1,.str [97]],.tup [],.tup [],.tup [.int 1,.str []],.tup [.int 1,.str [97]],.tup [.int 1,.str [98]],.tup [.int 2,.int 0],.tup [.int 2,.int 1],.tup [.int 2,.int (-1)],.tup [.int 2,.int 0],.tup [.int 2,.int 1],.tup [.int 1,.str [97]]]
noncomputable def eJ(q:Nat):AV:=Ha.getD q (.tup [])
theorem FC{P:AV→Prop}(h:∀l∈.tup []::Ha,P l)(q:Nat):P (eJ q):=by
 unfold eJ;rw[Jp];cases e:Ha[q]? with
 |none=>exact h _ (.head _)
 |some l=>exact h _ (.tail _ (Jf e))
theorem Dh(k:Nat)(R S):Qs.map (λq=>Fn pg ac (k+3) 55 [.ref 0,.val (iv q)] ⟨ag R,S⟩)=Qs.map (λq=>O (.val (eJ q),⟨ag R,S⟩)):=by kernel_rfl
theorem kX{q:Nat}(hq:q∈Qs)(R):aN 3 55 [.ref 0,.val (iv q)] R (.val (eJ q)) R:= .of λk S=>aq (Dh k R S) q hq
noncomputable def nn(q:Nat):Nat:=if q=1 then 11 else if q=4∨q=5 then 2 else q
theorem DJ(k:Nat)(R S):Qs.map (λq=>Fn pg ac (k+12) 43 [.ref 0,.val (iv q)] ⟨ag R,S⟩)=Qs.map (λq=>O (.val (iv (nn q)),⟨ag R,S⟩)):=by kernel_rfl
theorem Du{q:Nat}(hq:q∈Qs)(R):aN 12 43 [.ref 0,.val (iv q)] R (.val (iv (nn q))) R:= .of λk S=>aq (DJ k R S) q hq
noncomputable def rH(q:Nat):Nat:=if q=1 then 11 else if q=4∨q=5∨q=8∨q=14∨q=19∨q=22∨q=25 then 2 else q
theorem AB(k:Nat)(R S):Qs.map (λq=>Fn pg ac (k+13) 46 [.ref 0,.val (iv q)] ⟨ag R,S⟩)=Qs.map (λq=>O (.val (iv (rH q)),⟨ag R,S⟩)):=by kernel_rfl
theorem DY{q:Nat}(hq:q∈Qs)(R):aN 13 46 [.ref 0,.val (iv q)] R (.val (iv (rH q))) R:= .of λk S=>aq (AB k R S) q hq
noncomputable def zm(q:Nat):Nat:=if q=6 then 19 else if q∈[0,1,4,5,7,8,11,14,19,22,25] then q else 2
theorem Do(k:Nat)(R S):Qs.map (λq=>Fn pg ac (k+12) 50 [.ref 0,.val (iv q)] ⟨ag R,S⟩)=Qs.map (λq=>O (.val (iv (zm q)),⟨ag R,S⟩)):=by kernel_rfl
theorem DI{q:Nat}(hq:q∈Qs)(R):aN 12 50 [.ref 0,.val (iv q)] R (.val (iv (zm q))) R:= .of λk S=>aq (Do k R S) q hq
noncomputable def bu(q:Nat):Bool:=1≤ah q&&ah q≤6
theorem zx(k:Nat)(R S):Qs.map (λq=>Fn pg ac (k+3) 66 [.ref 0,.val (iv q)] ⟨ag R,S⟩)=Qs.map (λq=>O (.val (.bool (bu q)),⟨ag R,S⟩)):=by kernel_rfl
theorem rk{q:Nat}(hq:q∈Qs)(R):aN 3 66 [.ref 0,.val (iv q)] R (.val (.bool (bu q))) R:= .of λk S=>aq (zx k R S) q hq
noncomputable def Gx(q:Nat):Bool:=q==0||q==1||q==4||q==5
theorem BE(k:Nat)(R S):Qs.map (λq=>Fn pg ac (k+4) 42 [.ref 0,.val (iv q)] ⟨ag R,S⟩)=Qs.map (λq=>O (.val (.bool (Gx q)),⟨ag R,S⟩)):=by kernel_rfl
theorem AT{q:Nat}(hq:q∈Qs)(R):aN 4 42 [.ref 0,.val (iv q)] R (.val (.bool (Gx q))) R:= .of λk S=>aq (BE k R S) q hq
section
variable{st:St}{R:List AV}{S:List CO}
theorem Ed(a b:Int):af ac .eq st (.val (.int a)) (.val (.int b))=O (QQ (a=b)):=by
 show(if(AV.int a).dep≤8∨(AV.int b).dep≤8 then O (AV.eqv (.int a) (.int b)) else U)=_;rw[if_pos (.inl (by simp[AV.dep]))];show O (a==b)=_;rfl
theorem GQ(a b:Int):af ac .ne st (.val (.int a)) (.val (.int b))=O (!QQ (a=b)):=by
 show(if(AV.int a).dep≤8∨(AV.int b).dep≤8 then O (!AV.eqv (.int a) (.int b)) else U)=_;rw[if_pos (.inl (by simp[AV.dep]))];rfl
theorem Hm(a b:Int):af ac .lt st (.val (.int a)) (.val (.int b))=O (QQ (a<b)):=rfl
theorem Ht(a b:Int):af ac .gt st (.val (.int a)) (.val (.int b))=O (QQ (b<a)):=rfl
theorem IS(a b:Int):af ac .le st (.val (.int a)) (.val (.int b))=O (QQ (a≤b)):=rfl
theorem I6(a b:Int):af ac .ge st (.val (.int a)) (.val (.int b))=O (QQ (b≤a)):=rfl
theorem BL(a b:Int):AV.eqv (.int a) (.int b)=QQ (a=b):=rfl
theorem yN(a:Int)(l:List AV):af ac .inn st (.val (.int a)) (.val (.tup l))=O (l.any λy=>AV.eqv y (.int a)):=by
 show(if(AV.int a).dep≤8 then O (l.any λy=>AV.eqv y (.int a)) else U)=_;rw[if_pos (by simp[AV.dep])]
theorem yv(a:Int)(l:List AV):af ac .inn st (.val (.int a)) (.val (.lst l))=O (l.any λy=>AV.eqv y (.int a)):=by
 show(if(AV.int a).dep≤8 then O (l.any λy=>AV.eqv y (.int a)) else U)=_;rw[if_pos (by simp[AV.dep])]
theorem BP(a:Int)(l:List AV):af ac .nin st (.val (.int a)) (.val (.tup l))=O (!(l.any λy=>AV.eqv y (.int a))):=by
 show(fB ac st (.val (.int a)) (.val (.tup l))).map (!·)=_;have:=yN (st:=st) a l;rw[show af ac .inn st (.val (.int a)) (.val (.tup l))=fB ac st (.val (.int a)) (.val (.tup l)) from rfl] at this;rw[this];rfl
theorem Hw(a:Int)(l:List AV):af ac .nin st (.val (.int a)) (.val (.lst l))=O (!(l.any λy=>AV.eqv y (.int a))):=by
 show(fB ac st (.val (.int a)) (.val (.lst l))).map (!·)=_;have:=yv (st:=st) a l;rw[show af ac .inn st (.val (.int a)) (.val (.lst l))=fB ac st (.val (.int a)) (.val (.lst l)) from rfl] at this;rw[this];rfl
theorem G2(b:Bool):aK st (.val (.bool b))=O b:=rfl
theorem H9(l:List AV):ao st (.val (.tup l))=O (N,l):=rfl
theorem Ic(l:List AV):ao st (.val (.lst l))=O (Z,l):=rfl
theorem g0:(ag R)[0]? =O yx:=rfl
theorem g1:(ag R)[1]? =O (.con (.list (bc++R))):=rfl
theorem g2:(ag R)[2]? =O (.con (.dict .tup (l5++rI 32 R))):=rfl
theorem g9:(ag R)[9]? =O (.inst 3 [(25,(.ref 0)),(26,(.dat (.int 0))),(27,(.dat (.int 200))),(28,(.dat (.int 40))),(29,(.dat .none))]):=rfl
end
theorem IN:(0<aA)=True:=eq_true (by unfold aA;exact nc)
theorem Iy:(1<aA)=True:=eq_true (by unfold aA;exact nc)
theorem IX:(2<aA)=True:=eq_true (by unfold aA;exact nc)
theorem IF:(3<aA)=True:=eq_true (by unfold aA;exact nc)
theorem Io:(4<aA)=True:=eq_true (by unfold aA;exact nc)
theorem Ix:(5<aA)=True:=eq_true (by unfold aA;exact nc)
theorem IJ:(6<aA)=True:=eq_true (by unfold aA;exact nc)
theorem Iz:(7<aA)=True:=eq_true (by unfold aA;exact nc)
theorem Iu:(8<aA)=True:=eq_true (by unfold aA;exact nc)
theorem HF{st:St}{a b:AV}:aF ac .len st (.val (.tup [a,b]))=O (.val (.int 2)):=by
 show(if 2<aA then O (LV.val (.int 2)) else U)=_;rw[if_pos (by unfold aA;exact nc)]
theorem Ip{n m:Nat}{α:Type}{a b:α}(h:n<m):(if n<m then a else b)=a:=if_pos h
theorem I7(i:Nat){x:Str}{v:LV}(h:pg.gl[i]? =O (x,v)):pg.gl[i]? =O (x,v):=h
section
variable{Φ:ek}{m:Md}{ρ:Ρ}{st:St}{R:List AV}{S:List CO}
theorem eQ{i:Nat}{lv:LV}(h:(pg.gl[i]?).map (·.2)=O lv):ev pg ac Φ (.glb i) m ρ st=bv m (O (lv,st)):=by
 rw[AJ];cases h1:pg.gl[i]? with
 |none=>rw[h1] at h;cases h
 |some p=>obtain⟨x,v⟩:=p;rw[h1] at h;cases h;rfl
theorem IT:ev pg ac Φ (.glb 6) m ρ st=bv m (O (LV.val (.int 18),st)):=eQ (by kernel_rfl)
theorem I3:ev pg ac Φ (.glb 7) m ρ st=bv m (O (LV.val (.int 6),st)):=eQ (by kernel_rfl)
theorem Iv:ev pg ac Φ (.glb 9) m ρ st=bv m (O (LV.val (.int 7),st)):=eQ (by kernel_rfl)
theorem HX:ev pg ac Φ (.glb 24) m ρ st=bv m (O (LV.val (.int 0),st)):=eQ (by kernel_rfl)
theorem H8:ev pg ac Φ (.glb 57) m ρ st=bv m (O (LV.val (.tup [(.int 4),(.int 5),(.int 6)]),st)):=eQ (by kernel_rfl)
theorem H6:ev pg ac Φ (.glb 66) m ρ st=bv m (O (LV.val (.tup [(.str [117,110,100,101,102,105,110,101,100]),(.str [111,98,106,101,99,116]),(.str [98,111,111,108,101,97,110]),(.str [98,111,111,108,101,97,110]),(.str [115,116,114,105,110,103]),(.str [115,116,114,105,110,103]),(.str [115,116,114,105,110,103]),(.str [110,117,109,98,101,114]),(.str [110,117,109,98,101,114]),(.str [110,117,109,98,101,114]),(.str [110,117,109,98,101,114]),(.str [111,98,106,101,99,116]),(.str [111,98,106,101,99,116]),(.str [111,98,106,101,99,116]),(.str [111,98,106,101,99,116]),(.str [102,117,110,99,116,105,111,110])]),st)):=eQ (by kernel_rfl)
theorem H4:ev pg ac Φ (.glb 67) m ρ st=bv m (O (LV.val (.tup [(.int 3),(.int 5),(.int 6),(.int 8),(.int 9),(.int 11),(.int 12),(.int 13),(.int 14),(.int 15)]),st)):=eQ (by kernel_rfl)
end
section
inductive Kn where
 |v|b|c|x|s|t|l
 deriving DecidableEq
noncomputable abbrev Kn.ty:Kn→Type
 | .v=>LV| .b=>Bool| .c=>LV×St| .x=>List LV×St| .s=>Option LV×Ρ×St| .t=>St| .l=>Unit
set_option genInjectivity false in
structure En where
 n:Nat
 k:Kn
 q:Option k.ty
 a:k.ty
 h:q=O a
noncomputable abbrev eV(n:Nat){q:Option LV}{a:LV}(h:q=O a):En:=⟨n,.v,q,a,h⟩
noncomputable abbrev eB(n:Nat){q:Option Bool}{a:Bool}(h:q=O a):En:=⟨n,.b,q,a,h⟩
noncomputable abbrev eC(n:Nat){q:Option (LV×St)}{a:LV×St}(h:q=O a):En:=⟨n,.c,q,a,h⟩
noncomputable abbrev eX(n:Nat){q:Option (List LV×St)}{a:List LV×St}(h:q=O a):En:=⟨n,.x,q,a,h⟩
noncomputable abbrev eS(n:Nat){q:Option (Option LV×Ρ×St)}{a:Option LV×Ρ×St}(h:q=O a):En:=⟨n,.s,q,a,h⟩
noncomputable abbrev eT(n:Nat){q:Option St}{a:St}(h:q=O a):En:=⟨n,.t,q,a,h⟩
noncomputable abbrev eL(n:Nat):En:=⟨n,.l,O (),(),rfl⟩
noncomputable def got{α:Type}(q:Option α)(K:α→Prop):Prop:=match q with
 |some v=>K v
 |none=>False
inductive H2(k:Kn)(q:Option k.ty):Prop
noncomputable def gr(k:Kn)(q:Option k.ty)(tp:List En)(K:k.ty→List En→Prop):Prop:=match tp with
 |[]=>got q λv=>K v []
 |e::l=>match e.n with
  |0=>if h:e.k=k then q=h▸e.q∧K (h▸e.a) l else H2 k q
  |n+1=>got q λv=>K v (⟨n,e.k,e.q,e.a,e.h⟩::l)
noncomputable def allR:List En→Prop→Prop
 |[],p=>p
 |e::l,p=>e.q=e.q∧allR l p
theorem uD:∀(l:List En) {p:Prop},p→allR l p
 |[],_,h=>h
 |_::l,_,h=>⟨rfl,uD l h⟩
noncomputable def cg(l:List LV)(K:LV→Prop):Prop:=match l with
 |v::l=>match l with
  |[]=>K v
  |_=>False
 |[]=>False
noncomputable def nL(x:LV)(K:AV→Prop):Prop:=match x with
 | .val a=>K a
 |_=>False
noncomputable def yD(x:AV)(K:Bool→Prop):Prop:=match x with
 | .bool b=>K b
 |_=>False
noncomputable def EF(x:LV)(K:Nat→Prop):Prop:=match x with
 | .ref a=>K a
 |_=>False
noncomputable def CS(x:AV)(K:Int→Prop):Prop:=match x with
 | .int b=>K b
 |_=>False
noncomputable def B4(x:AV)(K:AV→AV→Prop):Prop:=match x with
 | .tup [a,b]=>K a b
 |_=>False
noncomputable def BZ(g:GO)(K:Nat→List (Nat×GV)→Prop):Prop:=match g with
 | .inst c fs=>K c fs
 |_=>False
noncomputable def tm(l:List LV)(K:Bool→Prop):Prop:=cg l λx=>nL x λa=>yD a K
noncomputable def cQ(b:Bool)(p q:Prop):Prop:=match b with
 |true=>p
 |false=>q
noncomputable def Bj(k:Kn)(tp:List En)(a:List En→Prop)(b c:Prop):Prop:=match tp with
 |[]=>c
 |e::l=>match e.n with
  |0=>if e.k= .l then e.q=e.q∧a l else if e.k=k then b else c
  |_+1=>c
noncomputable abbrev KE:=List LV→St→List En→Prop
noncomputable def gV(m:Md)(v:LV)(st:St)(tp:List En)(K:KE):Prop:=match m with
 | .V=>K [v] st tp
 | .T=>gr .b (aK st v) tp λb tp=>K [.val (.bool b)] st tp
 |_=>False
noncomputable def tR(m:Md)(b:Bool)(st:St)(tp:List En)(K:KE):Prop:=match m with
 | .V=>K [.val (.bool b)] st tp
 | .T=>K [.val (.bool b)] st tp
 |_=>False
section
variable(Φ:ek)
noncomputable def gE:X→Md→Ρ→St→List En→KE→Prop
 | .nil,m,_,st,tp,K=>match m with
  | .L=>K [] st tp
  | .C b=>K [.val (.bool b)] st tp
  |_=>False
 | .cons a b,m,ρ,st,tp,K=>match m with
  | .L=>gE a .V ρ st tp λl st1 tp=>cg l λv=>gE b .L ρ st1 tp λvs st2 tp=>K (v::vs) st2 tp
  | .B c=>cQ (k8 b) (gE a .V ρ st tp K) (gE a .V ρ st tp λl st1 tp=>cg l λv=>gr .b (aK st1 v) tp λ(t:Bool) tp=>cQ (t==c) (gE b (.B c) ρ st1 tp K) (K [v] st1 tp))
  | .C c=>gE a .T ρ st tp λl st1 tp=>tm l λt=>cQ (t==c) (gE b (.C c) ρ st1 tp K) (K [.val (.bool t)] st1 tp)
  |_=>False
 | .cst a,m,_,st,tp,K=>gV m (.val a) st tp K
 | .var i,m,ρ,st,tp,K=>got (oO ρ[i]? λo=>oO o λlv=>O (lv,st)) λp=>gV m p.1 p.2 tp K
 | .glb i,m,_,st,tp,K=>got (oO pg.gl[i]? λp=>O (p.2,st)) λp=>gV m p.1 p.2 tp K
 | .tup l,m,ρ,st,tp,K=>gE l .L ρ st tp λvs st1 tp=>gr .v (oO (eG vs) λl=>if l.length<aA then O (.val (.tup l)) else U) tp λv tp=>gV m v st1 tp K
 | .lst d l,m,ρ,st,tp,K=>gE l .L ρ st tp λvs st1 tp=>gr .c (oO (eG vs) λl=>if l.length<aA then O (rP d l st1) else U) tp λr tp=>gV m r.1 r.2 tp K
 | .bin o a b,m,ρ,st,tp,K=>gE a .V ρ st tp λl st1 tp=>cg l λx=>gE b .V ρ st1 tp λl st2 tp=>cg l λy=>gr .v (bd o st2 x y) tp λv tp=>gV m v st2 tp K
 | .nt a,m,ρ,st,tp,K=>match m with
  | .V=>gE a .V ρ st tp λl st1 tp=>cg l λx=>gr .b (aK st1 x) tp λb tp=>K [.val (.bool (!b))] st1 tp
  | .T=>gE a .T ρ st tp λl st1 tp=>tm l λb=>K [.val (.bool (!b))] st1 tp
  |_=>False
 | .cmp o a b,m,ρ,st,tp,K=>gE a .V ρ st tp λl st1 tp=>cg l λx=>gE b .V ρ st1 tp λl st2 tp=>cg l λy=>gr .b (af ac o st2 x y) tp λc tp=>tR m c st2 tp K
 | .chn o1 o2 a b c,m,ρ,st,tp,K=>gE a .V ρ st tp λl st1 tp=>cg l λx=>gE b .V ρ st1 tp λl st2 tp=>cg l λy=>gr .b (af ac o1 st2 x y) tp λd tp=>
   cQ d (gE c .V ρ st2 tp λl st3 tp=>cg l λz=>gr .b (af ac o2 st3 y z) tp λd tp=>tR m d st3 tp K) (tR m N st2 tp K)
 | .bop b l,m,ρ,st,tp,K=>match m with
  | .V=>gE l (.B b) ρ st tp K
  | .T=>gE l (.C b) ρ st tp K
  |_=>False
 | .ite c a b,m,ρ,st,tp,K=>Bj .x tp (λ_=>False) (gr .x (ev pg ac Φ (.ite c a b) m ρ st) tp λr tp=>K r.1 r.2 tp)<|match m with
  | .V=>gE c .T ρ st tp λl st1 tp=>tm l λt=>cQ t (gE a .V ρ st1 tp K) (gE b .V ρ st1 tp K)
  | .T=>gE c .T ρ st tp λl st1 tp=>tm l λt=>cQ t (gE a .T ρ st1 tp K) (gE b .T ρ st1 tp K)
  |_=>False
 | .atr i o,m,ρ,st,tp,K=>gE o .V ρ st tp λl st1 tp=>cg l λx=>got (Be x λn=>oO st1.G[n]? λg=>jG g λc fs=>if di pg.at_ c i then(kB fs i).map λg=>(sO g,st1) else U) λp=>gV m p.1 p.2 tp K
 | .sub o i,m,ρ,st,tp,K=>gE o .V ρ st tp λl st1 tp=>cg l λx=>gE i .V ρ st1 tp λl st2 tp=>cg l λy=>gr .v (aL ac st2 x y) tp λv tp=>gV m v st2 tp K
 | .fn1 f a,m,ρ,st,tp,K=>gE a .V ρ st tp λl st1 tp=>cg l λx=>gr .v (aF ac f st1 x) tp λv tp=>gV m v st1 tp K
 | .app o e,m,ρ,st,tp,K=>gE o .V ρ st tp λl st1 tp=>cg l λx=>cQ (lA st1 x) (gE e .V ρ st1 tp λl st2 tp=>cg l λy=>gr .t (iu st2 x y) tp λs tp=>gV m (.val .none) s tp K) False
 | .cal f as,m,ρ,st,tp,K=>gE as .L ρ st tp λvs st1 tp=>gr .c (Φ f vs st1) tp λr tp=>gV m r.1 r.2 tp K
 | .mth i o as,m,ρ,st,tp,K=>gE o .V ρ st tp λl st1 tp=>cg l λx=>EF x λn=>got st1.G[n]? λg=>BZ g λc fs=>got (kE pg.mt c i) λf=>got (if kB fs i=U then O () else U) λ_=>gE as .L ρ st1 tp λvs st2 tp=>gr .c (Φ f (.ref n::vs) st2) tp λr tp=>gV m r.1 r.2 tp K
 |e,m,ρ,st,tp,K=>gr .x (ev pg ac Φ e m ρ st) tp λr tp=>K r.1 r.2 tp
noncomputable abbrev KX:=Option LV→Ρ→St→List En→Prop
noncomputable def gL(asg:AV→Ρ→Option Ρ)(g:Ρ→St→List En→KX→Prop)(ok:St→Bool):List AV→Ρ→St→List En→KX→Prop
 |[],ρ,st,tp,K=>K U ρ st tp
 |x::xs,ρ,st,tp,K=>got (asg x ρ) λρ1=>g ρ1 st tp λo ρ2 st2 tp=>match o with
  |none=>cQ (ok st2) (gL asg g ok xs ρ2 st2 tp K) False
  |some v=>K (O v) ρ2 st2 tp
noncomputable def gW(gc:Ρ→St→List En→(Bool→St→List En→Prop)→Prop)(g:Ρ→St→List En→KX→Prop):Nat→Ρ→St→List En→KX→Prop
 |0,_,_,_,_=>False
 |n+1,ρ,st,tp,K=>gc ρ st tp λt st1 tp=>cQ t (g ρ st1 tp λo ρ2 st2 tp=>match o with
  |none=>gW gc g n ρ2 st2 tp K
  |some v=>K (O v) ρ2 st2 tp) (K U ρ st1 tp)
noncomputable def gX:Sx→Ρ→St→List En→KX→Prop
 | .nil,ρ,st,tp,K=>K U ρ st tp
 | .cons s r,ρ,st,tp,K=>gX s ρ st tp λo ρ1 st1 tp=>match o with
  |none=>gX r ρ1 st1 tp K
  |some v=>K (O v) ρ1 st1 tp
 | .asg i e,ρ,st,tp,K=>gE Φ e .V ρ st tp λl st1 tp=>cg l λv=>cQ (PV i ρ.length) (K U (ρ.set i (O v)) st1 tp) False
 | .asc i e,ρ,st,tp,K=>gE Φ e .V ρ st tp λl st1 tp=>cg l λv=>cQ (PV i ρ.length) (K U (ρ.set i (O v)) st1 tp) False
 | .as2 i j e,ρ,st,tp,K=>gE Φ e .V ρ st tp λl st1 tp=>cg l λv=>nL v λx=>got (l9 i j x ρ) λρ1=>K U ρ1 st1 tp
 | .exp e,ρ,st,tp,K=>gE Φ e .V ρ st tp λl st1 tp=>cg l λ_=>K U ρ st1 tp
 | .ret e,ρ,st,tp,K=>gE Φ e .V ρ st tp λl st1 tp=>cg l λv=>K (O v) ρ st1 tp
 | .ife c a b,ρ,st,tp,K=>Bj .s tp (λ_=>False) (gr .s (ex pg ac Φ (.ife c a b) ρ st) tp λr tp=>K r.1 r.2.1 r.2.2 tp)<|gE Φ c .T ρ st tp λl st1 tp=>tm l λt=>cQ t (gX a ρ st1 tp K) (gX b ρ st1 tp K)
 | .frN tg it b,ρ,st,tp,K=>Bj .s tp (λtp=>gE Φ it .V ρ st tp λl st1 tp=>cg l λx=>got (ao st1 x) λp=>gL (bn tg) (gX b) (aP x p.1 p.2) p.2 ρ st1 tp K) (gr .s (ex pg ac Φ (.frN tg it b) ρ st) tp λr tp=>K r.1 r.2.1 r.2.2 tp) (gE Φ it .V ρ st tp λl st1 tp=>cg l λx=>got (ao st1 x) λp=>gr .s (bB (bn tg) (ex pg ac Φ b) (aP x p.1 p.2) p.2 ρ st1) tp λr tp=>K r.1 r.2.1 r.2.2 tp)
 | .fr2 t1 t2 it b,ρ,st,tp,K=>Bj .s tp (λtp=>gE Φ it .V ρ st tp λl st1 tp=>cg l λx=>got (ao st1 x) λp=>gL (l9 t1 t2) (gX b) (aP x p.1 p.2) p.2 ρ st1 tp K) (gr .s (ex pg ac Φ (.fr2 t1 t2 it b) ρ st) tp λr tp=>K r.1 r.2.1 r.2.2 tp) (gE Φ it .V ρ st tp λl st1 tp=>cg l λx=>got (ao st1 x) λp=>gr .s (bB (l9 t1 t2) (ex pg ac Φ b) (aP x p.1 p.2) p.2 ρ st1) tp λr tp=>K r.1 r.2.1 r.2.2 tp)
 | .frR tg n b,ρ,st,tp,K=>Bj .s tp (λtp=>gE Φ n .V ρ st tp λl st1 tp=>cg l λx=>nL x λx=>CS x λk=>cQ (QQ (0≤k∧k<1000000)) (gL (bn tg) (gX b) (λ_=>Z) ((JE k.toNat).map λ(i:Nat)=>AV.int (i:Int)) ρ st1 tp K) False) (gr .s (ex pg ac Φ (.frR tg n b) ρ st) tp λr tp=>K r.1 r.2.1 r.2.2 tp) (gE Φ n .V ρ st tp λl st1 tp=>cg l λx=>nL x λx=>CS x λk=>cQ (QQ (0≤k∧k<1000000)) (gr .s (bB (bn tg) (ex pg ac Φ b) (λ_=>Z) ((JE k.toNat).map λ(i:Nat)=>AV.int (i:Int)) ρ st1) tp λr tp=>K r.1 r.2.1 r.2.2 tp) False)
 | .whl n c b,ρ,st,tp,K=>Bj .s tp (λtp=>gW (λρ st tp k=>gE Φ c .T ρ st tp λl st1 tp=>tm l λt=>k t st1 tp) (gX b) n ρ st tp K) (gr .s (ex pg ac Φ (.whl n c b) ρ st) tp λr tp=>K r.1 r.2.1 r.2.2 tp) (gr .s (ex pg ac Φ (.whl n c b) ρ st) tp λr tp=>K r.1 r.2.1 r.2.2 tp)
 | .asT i j e,ρ,st,tp,K=>Bj .s tp (λtp=>gE Φ e .V ρ st tp λl st1 tp=>cg l λv=>nL v λp=>B4 p λx y=>got (l9 j i (.tup [y,x]) ρ) λρ1=>K U ρ1 st1 tp) (gr .s (ex pg ac Φ (.asT i j e) ρ st) tp λr tp=>K r.1 r.2.1 r.2.2 tp) (gr .s (ex pg ac Φ (.asT i j e) ρ st) tp λr tp=>K r.1 r.2.1 r.2.2 tp)
 | .sti o i e,ρ,st,tp,K=>Bj .s tp (λtp=>gE Φ e .V ρ st tp λl st1 tp=>cg l λz=>nL z λz=>gE Φ o .V ρ st1 tp λl st2 tp=>cg l λx=>gE Φ i .V ρ st2 tp λl st3 tp=>cg l λy=>nL y λy=>got (ky st3 x y z) λs=>K U ρ s tp) (gr .s (ex pg ac Φ (.sti o i e) ρ st) tp λr tp=>K r.1 r.2.1 r.2.2 tp) (gr .s (ex pg ac Φ (.sti o i e) ρ st) tp λr tp=>K r.1 r.2.1 r.2.2 tp)
 |s,ρ,st,tp,K=>gr .s (ex pg ac Φ s ρ st) tp λr tp=>K r.1 r.2.1 r.2.2 tp
end
end
section
noncomputable def dm{β:Type}(J:β→List En→Prop)(q:Option β):Prop:=∃r tp,q=O r∧J r tp
section
variable{β:Type}{J:β→List En→Prop}
theorem cu{r:β}{tp:List En}(h:J r tp):dm J (O r):=⟨r,tp,rfl,h⟩
theorem jN{q:Option β}{tp:List En}(h:got q λr=>J r tp):dm J q:=by
 cases q with
 |none=>exact h.elim
 |some v=>exact cu h
theorem br{k:Kn}{q:Option k.ty}{tp:List En}{J:k.ty→List En→Prop}(h:gr k q tp J):dm J q:=by
 cases tp with
 |nil=>exact jN h
 |cons e l=>
  obtain⟨n,k',q',a,hq⟩:=e;cases n with
  |zero=>
   change (if h:k'=k then q=h▸q'∧J (h▸a) l else H2 k q) at h;by_cases e:k'=k
   ·subst e;rw[dif_pos rfl] at h;exact⟨a,l,h.1.trans hq,h.2⟩
   ·rw[dif_neg e] at h;exact nomatch h
  |succ n=>exact jN (tp:=⟨n,k',q',a,hq⟩::l) h
theorem fO{kk:Kn}{tp:List En}{a:List En→Prop}{b c M:Prop}(h:Bj kk tp a b c)(h1:∀l,a l→M)(h2:b→M)(h3:c→M):M:=by
 cases tp with
 |nil=>exact h3 h
 |cons e l=>
  obtain⟨n,k,q,v,hq⟩:=e;cases n with
  |succ n=>exact h3 h
  |zero=>
   change (if k= .l then q=q∧a l else if k=kk then b else c) at h;by_cases e:k= .l
   ·rw[if_pos e] at h;exact h1 l h.2
   ·rw[if_neg e] at h;by_cases e:k=kk
    ·rw[if_pos e] at h;exact h2 h
    ·rw[if_neg e] at h;exact h3 h
theorem fY{α:Type}{I:α→List En→Prop}{q:Option α}{f:α→Option β}(h:dm I q)(k:∀v tp,I v tp→dm J (f v)):dm J (oO q f):=
 h.elim λv h=>h.elim λtp h=>h.1▸k v tp h.2
theorem dl{α:Type}{q:Option α}{g:α→β}(h:dm (λv tp=>J (g v) tp) q):dm J (q.map g):=
 h.elim λ_ h=>h.elim λ_ h=>h.1▸cu h.2
theorem gK{α:Type}{q:Option α}{K:α→Prop}{f:α→Option β}(h:got q K)(k:∀v,K v→dm J (f v)):dm J (oO q f):=by
 cases q with
 |none=>exact h.elim
 |some v=>exact k v h
theorem Co{c:Prop}[Decidable c]{K:Unit→Prop}{x:Option β}(h:got (if c then O () else U) K)(k:K ()→dm J x):dm J (if c then x else U):=by
 by_cases q:c
 ·rw[if_pos q] at h ⊢;exact k h
 ·rw[if_neg q] at h;exact h.elim
theorem zJ{l:List LV}{st1:St}{K:LV→Prop}{f:LV→St→Option β}(h:cg l K)(k:∀v,K v→dm J (f v st1)):dm J (o1 (O (l,st1)) f):=by
 cases l with
 |nil=>exact h.elim
 |cons v l=>cases l with
  |nil=>exact k v h
  |cons=>exact h.elim
theorem gZ{x:LV}{K:AV→Prop}{f:AV→Option β}(h:nL x K)(k:∀v,K v→dm J (f v)):dm J (CE x f):=by
 cases x<;>first|exact h.elim|exact k _ h
theorem Bn{x:AV}{K:Bool→Prop}{f:Bool→Option β}(h:yD x K)(k:∀v,K v→dm J (f v)):dm J (wt x f):=by
 cases x<;>first|exact h.elim|exact k _ h
theorem Dp{x:LV}{K:Nat→Prop}{f:Nat→Option β}(h:EF x K)(k:∀v,K v→dm J (f v)):dm J (Be x f):=by
 cases x<;>first|exact h.elim|exact k _ h
theorem Ab{x:GO}{K:Nat→List (Nat×GV)→Prop}{f:Nat→List (Nat×GV)→Option β}(h:BZ x K)(k:∀c fs,K c fs→dm J (f c fs)):dm J (jG x f):=by
 cases x<;>first|exact h.elim|exact k _ _ h
theorem cE{b:Bool}{p q:Prop}{x y:Option β}(h:cQ b p q)(t:p→dm J x)(f:q→dm J y):dm J (if b=Z then x else y):=by
 cases b with
 |true=>exact t h
 |false=>exact f h
theorem qz{c:Prop}[Decidable c]{b:Bool}(e:b=Z→c){p:Prop}{x:Option β}(h:cQ b p False)(t:p→dm J x):dm J (if c then x else U):=by
 cases b with
 |true=>rw[if_pos (e rfl)];exact t h
 |false=>exact h.elim
end
noncomputable def RE(K:KE)(p:List LV×St)(tp:List En):Prop:=K p.1 p.2 tp
noncomputable def RF(m:Md)(K:KE)(p:LV×St)(tp:List En):Prop:=gV m p.1 p.2 tp K
theorem cx{m:Md}{K:KE}{q:Option (LV×St)}(h:dm (RF m K) q):dm (RE K) (bv m q):=
 h.elim λv h=>h.elim λtp h=>h.1▸(show dm (RE K) (bv m (O v)) by
  have h:=h.2;cases m<;>first|exact h.elim|exact cu (tp:=tp) h|skip
  exact dl (br (k:= .b) h))
theorem lx{m:Md}{b:Bool}{st:St}{tp:List En}{K:KE}(h:tR m b st tp K):dm (RE K) (sj m b st):=by
 cases m<;>first|exact h.elim|exact cu (tp:=tp) h
noncomputable def Gs(Φ:ek)(e:X):Prop:=∀m ρ st tp (K:KE),gE Φ e m ρ st tp K→dm (RE K) (ev pg ac Φ e m ρ st)
variable{Φ:ek}{β:Type}{J:β→List En→Prop}{ρ:Ρ}{st:St}{tp:List En}
theorem xP{a:X}(ha:Gs Φ a){f:List LV→St→Option β}{K:KE}(h:gE Φ a .L ρ st tp K)(k:∀v st1 tp,K v st1 tp→dm J (f v st1)):dm J (oL (ev pg ac Φ a .L ρ st) f):=
 (ha _ _ _ _ _ h).elim λ_ h=>h.elim λtp h=>h.1▸k _ _ tp h.2
theorem aJ{a:X}{m:Md}(ha:Gs Φ a){K:LV→St→List En→Prop}{f:LV→St→Option β}(h:gE Φ a m ρ st tp λl st1 tp=>cg l λv=>K v st1 tp)(k:∀v st1 tp,K v st1 tp→dm J (f v st1)):dm J (o1 (ev pg ac Φ a m ρ st) f):=
 (ha _ _ _ _ _ h).elim λ_ h=>h.elim λtp h=>h.1▸zJ h.2 λv h=>k v _ tp h
theorem f7{a:X}{m:Md}(ha:Gs Φ a){K:Bool→St→List En→Prop}{f:Bool→St→Option β}(h:gE Φ a m ρ st tp λl st1 tp=>tm l λv=>K v st1 tp)(k:∀v st1 tp,K v st1 tp→dm J (f v st1)):dm J (oB (ev pg ac Φ a m ρ st) f):=
 aJ (K:=λx st1 tp=>nL x λa=>yD a λv=>K v st1 tp) ha h λ_ st1 tp h=>gZ h λ_ h=>Bn h λv h=>k v st1 tp h
theorem Aj{vs:List LV}{m:Md}{K:KE}(h:gr .v (oO (eG vs) λl=>if l.length<aA then O (.val (.tup l)) else U) tp λv tp=>gV m v st tp K):dm (RF m K) (oO (eG vs) λl=>if l.length<aA then O (.val (.tup l),st) else U):=
 (br (k:= .v) h).elim λv h=>h.elim λtp h=>aI (q:=eG vs) h.1 λl h1 h2=>by
  rw[h1];refine bH h2 λq h2=> ?_
  exact⟨(LV.val (.tup l),st),tp,if_pos q,J0 (motive:=λw=>gV m w st tp K) (Jt h2).symm h.2⟩
theorem cP(e:X):Gs Φ e:=by
 induction e with
 |nil=>
  intro m ρ st tp K h;cases m<;>first|exact h.elim|exact cu (tp:=tp) h
 |cons a b ha hb=>
  intro m ρ st tp K h;cases m with
  |L=>exact aJ (K:=λv st1 tp=>gE Φ b .L ρ st1 tp λvs st2 tp=>K (v::vs) st2 tp) ha h λv st1 tp h=>xP hb h λvs st2 tp h=>cu (tp:=tp) h
  |B c=>exact cE h (ha _ _ _ _ _) λh=>aJ (K:=λv st1 tp=>gr .b (aK st1 v) tp λ(t:Bool) tp=>cQ (t==c) (gE Φ b (.B c) ρ st1 tp K) (K [v] st1 tp)) ha h λv st1 tp h=>fY (br (k:= .b) h) λt tp h=>cE h (hb _ _ _ _ _) λh=>cu (tp:=tp) h
  |C c=>exact f7 (K:=λt st1 tp=>cQ (t==c) (gE Φ b (.C c) ρ st1 tp K) (K [.val (.bool t)] st1 tp)) ha h λt st1 tp h=>cE h (hb _ _ _ _ _) λh=>cu (tp:=tp) h
  |V=>exact h.elim
  |T=>exact h.elim
 |cst a=>intro m ρ st tp K h;exact cx (cu (tp:=tp) h)
 |var i=>intro m ρ st tp K h;exact cx (jN (tp:=tp) h)
 |glb i=>intro m ρ st tp K h;exact cx (jN (tp:=tp) h)
 |tup l hl=>
  intro m ρ st tp K h;exact cx (xP hl h λvs st1 tp h=>Aj h)
 |bin o a b ha hb=>intro m ρ st tp K h;exact cx (aJ ha h λx st1 tp h=>aJ hb h λy st2 tp h=>dl (br (k:= .v) h))
 |nt a ha=>
  intro m ρ st tp K h;cases m with
  |V=>exact aJ ha h λx st1 tp h=>dl (br (k:= .b) h)
  |T=>exact f7 ha h λb st1 tp h=>cu (tp:=tp) h
  |_=>exact h.elim
 |cmp o a b ha hb=>intro m ρ st tp K h;exact aJ ha h λx st1 tp h=>aJ hb h λy st2 tp h=>fY (br (k:= .b) h) λ_ tp h=>lx (tp:=tp) h
 |chn p q a b c ha hb hc=>
  intro m ρ st tp K h;exact aJ ha h λx st1 tp h=>aJ hb h λy st2 tp h=>fY (br (k:= .b) h) λd tp h=>cE h (λh=>aJ hc h λz st3 tp h=>fY (br (k:= .b) h) λ_ tp h=>lx (tp:=tp) h) λh=>lx (tp:=tp) h
 |bop b l hl=>
  intro m ρ st tp K h;cases m with
  |V=>exact hl _ _ _ _ _ h
  |T=>exact hl _ _ _ _ _ h
  |_=>exact h.elim
 |ite c a b hc ha hb=>
  intro m ρ st tp K h;refine fO h (λ_ h=>h.elim) (br (k:= .x)) λh=> ?_
  cases m with
  |V=>exact f7 hc h λt st1 tp h=>cE h (ha _ _ _ _ _) (hb _ _ _ _ _)
  |T=>exact f7 hc h λt st1 tp h=>cE h (ha _ _ _ _ _) (hb _ _ _ _ _)
  |_=>exact h.elim
 |atr i o ho=>intro m ρ st tp K h;exact cx (aJ ho h λx st1 tp h=>jN (tp:=tp) h)
 |sub o i ho hi=>intro m ρ st tp K h;exact cx (aJ ho h λx st1 tp h=>aJ hi h λy st2 tp h=>dl (br (k:= .v) h))
 |fn1 f a ha=>intro m ρ st tp K h;exact cx (aJ ha h λx st1 tp h=>dl (br (k:= .v) h))
 |app o e ho he=>intro m ρ st tp K h;exact cx (aJ ho h λx st1 tp h=>cE h (λh=>aJ he h λy st2 tp h=>dl (br (k:= .t) h)) False.elim)
 |lst d l hl=>intro m ρ st tp K h;exact cx (xP hl h λvs st1 tp h=>br (k:= .c) h)
 |cal f as has=>intro m ρ st tp K h;exact cx (xP has h λvs st1 tp h=>br (k:= .c) h)
 |mth i o as ho has=>
  intro m ρ st tp K h;exact cx (aJ ho h λx st1 tp h=>Dp h λn h=>gK h λg h=>Ab h λc fs h=>gK h λf h=>Co h λh=>xP has h λvs st2 tp h=>br (k:= .c) h)
 |_=>intro m ρ st tp K h;exact br (k:= .x) h
end
section
variable{Φ:ek}
noncomputable def RX(K:KX)(r:Option LV×Ρ×St)(tp:List En):Prop:=K r.1 r.2.1 r.2.2 tp
theorem zj{asg:AV→Ρ→Option Ρ}{g:Ρ→St→List En→KX→Prop}{body:Ρ→St→Option (Option LV×Ρ×St)}{ok:St→Bool}(hg:∀ρ st tp K,g ρ st tp K→dm (RX K) (body ρ st))(xs:List AV):
  ∀ρ st tp K,gL asg g ok xs ρ st tp K→dm (RX K) (bB asg body ok xs ρ st):=by
 induction xs with
 |nil=>intro ρ st tp K h;exact cu (tp:=tp) h
 |cons x xs ih=>
  intro ρ st tp K h;exact gK h λρ1 h=>fY (hg _ _ _ _ h) λv tp h=>by
   obtain⟨o,ρ2,st2⟩:=v;cases o with
   |none=>exact qz id h λh=>ih _ _ _ _ h
   |some v=>exact cu (tp:=tp) h
theorem xx{β:Type}{J:β→List En→Prop}{x:AV}{K:Int→Prop}{f:Int→Option β}(h:CS x K)(k:∀v,K v→dm J (f v)):dm J (A8 x f):=by
 cases x<;>first|exact h.elim|exact k _ h
theorem z9{β:Type}{J:β→List En→Prop}{x:AV}{K:AV→AV→Prop}{f:AV→AV→Option β}(h:B4 x K)(k:∀a b,K a b→dm J (f a b)):dm J (xZ x f):=by
 cases x with
 |tup l=>
  cases l with
  |nil=>exact h.elim
  |cons a l=>cases l with
   |nil=>exact h.elim
   |cons b l=>cases l with
    |nil=>exact k a b h
    |cons=>exact h.elim
 |_=>exact h.elim
theorem Ep{gc:Ρ→St→List En→(Bool→St→List En→Prop)→Prop}{g:Ρ→St→List En→KX→Prop}{c:Ρ→St→Option (Bool×St)}{body:Ρ→St→Option (Option LV×Ρ×St)}(hc:∀ρ st tp k,gc ρ st tp k→dm (λp tp=>k p.1 p.2 tp) (c ρ st))(hg:∀ρ st tp K,g ρ st tp K→dm (RX K) (body ρ st))(n:Nat):
  ∀ρ st tp K,gW gc g n ρ st tp K→dm (RX K) (Cv c body n ρ st):=by
 induction n with
 |zero=>intro ρ st tp K h;exact h.elim
 |succ n ih=>
  intro ρ st tp K h;exact fY (hc _ _ _ _ h) λp tp h=>cE h (λh=>fY (hg _ _ _ _ h) λv tp h=>by
   obtain⟨o,ρ2,st2⟩:=v;cases o with
   |none=>exact ih _ _ _ _ h
   |some v=>exact cu (tp:=tp) h) λh=>cu (tp:=tp) h
theorem yR(s:Sx):∀ρ st tp (K:KX),gX Φ s ρ st tp K→dm (RX K) (ex pg ac Φ s ρ st):=by
 induction s with
 |nil=>intro ρ st tp K h;exact cu (tp:=tp) h
 |cons s r hs hr=>
  intro ρ st tp K h;exact fY (hs _ _ _ _ h) λv tp h=>by
   obtain⟨o,ρ1,st1⟩:=v;cases o with
   |none=>exact hr _ _ _ _ h
   |some v=>exact cu (tp:=tp) h
 |asg i e=>intro ρ st tp K h;exact aJ (cP e) h λv st1 tp h=>qz Qw.mp h λh=>cu (tp:=tp) h
 |asc i e=>intro ρ st tp K h;exact aJ (cP e) h λv st1 tp h=>qz Qw.mp h λh=>cu (tp:=tp) h
 |as2 i j e=>intro ρ st tp K h;exact aJ (cP e) h λv st1 tp h=>gZ h λx h=>dl (jN (tp:=tp) h)
 |exp e=>intro ρ st tp K h;exact aJ (cP e) h λv st1 tp h=>cu (tp:=tp) h
 |ret e=>intro ρ st tp K h;exact aJ (cP e) h λv st1 tp h=>cu (tp:=tp) h
 |ife c a b ha hb=>intro ρ st tp K h;exact fO h (λ_ h=>h.elim) (br (k:= .s)) λh=>f7 (cP c) h λt st1 tp h=>cE h (ha _ _ _ _) (hb _ _ _ _)
 |frN tg it b hb=>intro ρ st tp K h;exact fO h (λl h=>aJ (cP it) h λx st1 tp h=>gK h λp h=>zj hb _ _ _ _ _ h) (br (k:= .s)) λh=>aJ (cP it) h λx st1 tp h=>gK h λp h=>br (k:= .s) h
 |fr2 t1 t2 it b hb=>intro ρ st tp K h;exact fO h (λl h=>aJ (cP it) h λx st1 tp h=>gK h λp h=>zj hb _ _ _ _ _ h) (br (k:= .s)) λh=>aJ (cP it) h λx st1 tp h=>gK h λp h=>br (k:= .s) h
 |frR tg n b hb=>intro ρ st tp K h;exact fO h (λl h=>aJ (cP n) h λx st1 tp h=>gZ h λx h=>xx h λk h=>qz of_decide_eq_true h λh=>zj hb _ _ _ _ _ h) (br (k:= .s)) λh=>aJ (cP n) h λx st1 tp h=>gZ h λx h=>xx h λk h=>qz of_decide_eq_true h λh=>br (k:= .s) h
 |whl n c b hb=>intro ρ st tp K h;exact fO h (λl h=>Ep (λρ st tp k h=>f7 (cP c) h λt st1 tp h=>cu (tp:=tp) h) hb _ _ _ _ _ h) (br (k:= .s)) (br (k:= .s))
 |asT i j e=>intro ρ st tp K h;exact fO h (λl h=>aJ (cP e) h λv st1 tp h=>gZ h λp h=>z9 h λx y h=>dl (jN (tp:=tp) h)) (br (k:= .s)) (br (k:= .s))
 |sti o i e=>intro ρ st tp K h;exact fO h (λl h=>aJ (cP e) h λz st1 tp h=>gZ h λz h=>aJ (cP o) h λx st2 tp h=>aJ (cP i) h λy st3 tp h=>gZ h λy h=>dl (jN (tp:=tp) h)) (br (k:= .s)) (br (k:= .s))
 |_=>intro ρ st tp K h;exact br (k:= .s) h
theorem nG{p:Prop}{l:List En}{c:Prop}(h:p=allR l c)(hc:c):p:=h▸uD l hc
section
variable{e:X}{s:Sx}{m:Md}{ρ ρ':Ρ}{st st':St}{vs:List LV}{o:Option LV}(l:List En)
theorem bz(h:gE Φ e m ρ st l (λv1 s1 _=>v1=vs∧s1=st')=allR l (vs=vs∧st'=st')):ev pg ac Φ e m ρ st=O (vs,st'):=by
 obtain⟨_,_,h1,rfl,rfl⟩:=cP e _ _ _ _ _ (nG h ⟨rfl,rfl⟩);exact h1
theorem dw(h:gX Φ s ρ st l (λo1 r1 s1 _=>o1=o∧r1=ρ'∧s1=st')=allR l (o=o∧ρ'=ρ'∧st'=st')):ex pg ac Φ s ρ st=O (o,ρ',st'):=by
 obtain⟨_,_,h1,rfl,rfl,rfl⟩:=yR s _ _ _ _ (nG h ⟨rfl,rfl,rfl⟩);exact h1
theorem gu(h:gX Φ s ρ st l (λo1 _ s1 _=>o1=o∧s1=st')=allR l (o=o∧st'=st')):∃ρ',ex pg ac Φ s ρ st=O (o,ρ',st'):=by
 obtain⟨_,_,h1,rfl,rfl⟩:=yR s _ _ _ _ (nG h ⟨rfl,rfl⟩);exact⟨_,h1⟩
noncomputable def sn(x:Option (Option LV×Ρ×St))(v:AV)(G:List GO):Prop:=match x with
 |some (O (.val w),_,st)=>w=v∧st.G=G
 |_=>False
theorem aC{v:AV}{G:List GO}(h:gX Φ s ρ st l (λo1 _ s1 _=>o1=O (.val v)∧s1.G=G)=allR l (O (LV.val v)=O (LV.val v)∧G=G)):sn (ex pg ac Φ s ρ st) v G:=by
 obtain⟨⟨o,ρ',st'⟩,_,h1,h2,h3⟩:=yR s _ _ _ _ (nG h ⟨rfl,rfl⟩);have h2:o=O (.val v):=h2;subst h2;rw[h1];exact⟨rfl,h3⟩
end
theorem ie{e o i:X}{ρ:Ρ}{st:St}{x:LV}{y z:AV}{k:KD}{es:List (AV×AV)}(h1:ev pg ac Φ e .V ρ st=O ([.val z],st))(h2:ev pg ac Φ o .V ρ st=O ([x],st))(h3:ev pg ac Φ i .V ρ st=O ([.val y],st))(h4:cC st x=O (.dict k es))(h5:aU k y=Z)(h6:es.length<aA):
  ex pg ac Φ (.sti o i e) ρ st=O (U,ρ,bU st x (.dict k (jT es y z))):=by
 rw[tM,h1,Bg,h2,tv,h3,Bg];show(ky st x y z).map _=_;unfold ky;rw[h4,zW];show(if aU k y=Z∧es.length<aA then _ else _:Option St).map _=_;rw[if_pos ⟨h5,h6⟩];rfl
theorem bS{asg:AV→Ρ→Option Ρ}{body:Ρ→St→Option (Option LV×Ρ×St)}{ok:St→Bool}{x:AV}{xs:List AV}{ρ ρ1 ρ2:Ρ}{st st2:St}(h1:asg x ρ=O ρ1)(h2:body ρ1 st=O (U,ρ2,st2))(h3:ok st2=Z):bB asg body ok (x::xs) ρ st=bB asg body ok xs ρ2 st2:=by
 show oO (asg x ρ) _=_;rw[h1];show oO (body ρ1 st) _=_;rw[h2];exact if_pos h3
theorem lL{it:X}{tg:Nat}{b:Sx}{ρ:Ρ}{st st1:St}{x:LV}{c:Bool}{l:List AV}{r:Option (Option LV×Ρ×St)}(h:ev pg ac Φ it .V ρ st=O ([x],st1))(h2:ao st1 x=O (c,l))(lo:bB (bn tg) (ex pg ac Φ b) (aP x c l) l ρ st1=r):ex pg ac Φ (.frN tg it b) ρ st=r:=by
 rw[Bo,h,tv,h2];exact lo
end
section
variable{st:St}
theorem et{a:Nat}{l:List AV}{b:Bool}(h:(l.any λy=>AV.eqv y (iv a))=b):af ac .inn st (.val (iv a)) (.val (.tup l))=O b:=by rw[yN,h]
theorem Cy{a:Nat}{l:List AV}{b:Bool}(h:(l.any λy=>AV.eqv y (iv a))=b):af ac .nin st (.val (iv a)) (.val (.tup l))=O (!b):=by rw[BP,h]
theorem az(a c:Nat):QQ ((I9 c)=I9 a)=(a==c):=by
 by_cases h:a=c
 ·subst h;simp
 ·have:¬(I9 c=I9 a):=λe=>h (L6 e).symm
  rw[decide_eq_false this];simp[h]
noncomputable def ew(a:Nat):Bool:=a==4||a==5||a==6
noncomputable def ue(a:Nat):Bool:=a==1||a==2||a==3
theorem lU(a:Nat):af ac .inn st (.val (iv a)) (.val (.tup [.int 4,.int 5,.int 6]))=O (ew a):=et (by
 show(QQ (I9 4=I9 a)||(QQ (I9 5=I9 a)||(QQ (I9 6=I9 a)||false)))=_;rw[az,az,az,JQ,←L7];rfl)
theorem pB(a:Nat):af ac .inn st (.val (iv a)) (.val (.tup [.int 1,.int 2,.int 3]))=O (ue a):=et (by
 show(QQ (I9 1=I9 a)||(QQ (I9 2=I9 a)||(QQ (I9 3=I9 a)||false)))=_;rw[az,az,az,JQ,←L7];rfl)
theorem AL(a b:Nat):af ac .nin st (.val (.int 4)) (.val (.tup [iv a,iv b]))=O (!(a==4||b==4)):=by
 have:(([iv a,iv b]:List AV).any λy=>AV.eqv y (iv 4))=(a==4||b==4):=by
  show(QQ (I9 a=I9 4)||(QQ (I9 b=I9 4)||false))=_;rw[az,az,JQ]
  congr 1<;>exact L8
 exact Cy this
theorem fi(a c:Nat):af ac .eq st (.val (iv a)) (.val (iv c))=O (a==c):=by
 rw[Ed];rw[show QQ (I9 a=I9 c)=(c==a) from az c a,L8]
theorem qN{x y:AV}(h:y.dep≤8):af ac .eq st (.val x) (.val y)=O (AV.eqv x y):=by
 show(if x.dep≤8∨y.dep≤8 then O (AV.eqv x y) else U)=_;rw[if_pos (.inr h)]
theorem r7{x y:AV}(h:y.dep≤8):af ac .ne st (.val x) (.val y)=O (!AV.eqv x y):=by
 show(if x.dep≤8∨y.dep≤8 then O (!AV.eqv x y) else U)=_;rw[if_pos (.inr h)]
end
theorem js{a:Nat}(c:Nat):∀st,af ac .eq st (.val (iv a)) (.val (iv c))=O (a==c):=λst=>fi a c
theorem ES{a:Nat}(c:Nat):∀st,af ac .ne st (.val (iv a)) (.val (iv c))=O (!(a==c)):=λst=>by
 rw[GQ];rw[show QQ (I9 a=I9 c)=(c==a) from az c a,L8]
theorem Au{a c:Nat}(h:a≠c):∀st,af ac .eq st (.val (iv a)) (.val (iv c))=O N:=λst=>by rw[js c st,show(a==c)=N by simpa using h]
theorem yj{asg:AV→Ρ→Option Ρ}{body:Ρ→St→Option (Option LV×Ρ×St)}{ok:St→Bool}{x:AV}{xs:List AV}{ρ ρ1 ρ2:Ρ}{v:LV}{st st2:St}(h1:asg x ρ=O ρ1)(h2:body ρ1 st=O (O v,ρ2,st2)):bB asg body ok (x::xs) ρ st=O (O v,ρ2,st2):=by
 show oO (asg x ρ) _=_;rw[h1];show oO (body ρ1 st) _=_;rw[h2];rfl
theorem tQ{k f:Nat}{fd:FD}{as:List LV}{G:List GO}{S:List CO}(hf:pg.fd[f]? =O fd)(hn:as.length+fd.dv.length=fd.np)(hl:dU as=Z){v:AV}{ρ':Ρ}{G':List GO}{S':List CO}
  (h:ex pg ac (Fn pg ac k) fd.body (aM fd.nm.length as fd.dv) ⟨G,[]⟩=O (O (.val v),ρ',⟨G',S'⟩)):Fn pg ac (k+1) f as ⟨G,S⟩=O (.val v,⟨G',S⟩):=by
 show(match pg.fd[f]? with
  |some fd=>if as.length+fd.dv.length=fd.np then
    (if dU as then oO (ex pg ac (Fn pg ac k) fd.body (aM fd.nm.length as fd.dv) ⟨G,[]⟩) λp=>(uh 0 p.2.2 (p.1.getD (.val .none))).map (ij S) else _)
   else U
  |none=>U)=_
 rw[hf];show(if as.length+fd.dv.length=fd.np then _ else _)=_;rw[if_pos hn,if_pos hl,h];rfl
theorem sn.to{x:Option (Option LV×Ρ×St)}{v:AV}{G:List GO}(h:sn x v G):∃ρ' S',x=O (O (.val v),ρ',⟨G,S'⟩):=by
 match x,h with
 |some (O (.val w),ρ,⟨G',S'⟩),⟨e1,e2⟩=>exact⟨ρ,S',by rw[e1];exact congrArg (λg=>O (O (LV.val v),ρ,(⟨g,S'⟩:St))) e2⟩
theorem aN.body{n f:Nat}{fd:FD}{as:List LV}{R R':List AV}{v:AV}(hf:pg.fd[f]? =O fd)(hn:as.length+fd.dv.length=fd.np)(hl:dU as=Z)
  (h:∀k,n≤k→sn (ex pg ac (Fn pg ac k) fd.body (aM fd.nm.length as fd.dv) ⟨ag R,[]⟩) v (ag R')):aN (n+1) f as R (.val v) R':=λk S e=>by
 obtain⟨k',rfl⟩:∃k',k=k'+1:=⟨k - 1,nq e⟩
 obtain⟨ρ',S',h⟩:=(h k' (by exact JJ e)).to;exact tQ hf hn hl h
noncomputable def bO(R:List AV):List (AV×AV):=l5++rI 32 R
theorem dE:∀(a b:List AV) (n:Nat),rI n (a++b)=rI n a++rI (n+a.length) b
 |[],b,n=>rfl
 |x::a,b,n=>by
  show(x,AV.int (I9 n))::rI (n+1) (a++b)=_;rw[dE a b (n+1),JH,show n+1+a.length=n+(a.length+1) by omega];rfl
theorem n8(R:List AV):bO R=rI 0 (bc++R):=by
 rw[dE];have h1:l5=rI 0 bc:=by kernel_rfl
 have h2:0+bc.length=32:=by kernel_rfl
 rw[h2,←h1];rfl
theorem ci:∀(a b:List (AV×AV)) (x:AV),aE (a++b) x=(aE a x).or (aE b x)
 |[],b,x=>rfl
 |(k,v)::a,b,x=>by
  show(if AV.beq k x then O v else aE (a++b) x)=((if AV.beq k x then O v else aE a x)).or (aE b x);by_cases h:AV.beq k x=Z
  ·rw[if_pos h,if_pos h];rfl
  ·rw[if_neg h,if_neg h];exact ci a b x
theorem jR:∀(a:List (AV×AV)) (x y:AV),aE a x=U→jT a x y=a++[(x,y)]
 |[],x,y,_=>rfl
 |(k,v)::a,x,y,h=>by
  change (if AV.beq k x then O v else aE a x)=U at h;show(if AV.beq k x then(k,y)::a else(k,v)::jT a x y)=_;by_cases q:AV.beq k x=Z
  ·rw[if_pos q] at h;exfalso;cases h
  ·rw[if_neg q] at h;rw[if_neg q,jR a x y h];rfl
theorem kl:∀(l:List AV) (n:Nat) (r v:AV),aE (rI n l) r=O v→∃i,v=iv (n+i)∧l[i]? =O r
 |[],_,_,_,h=>by cases h
 |x::l,n,r,v,h=>by
  change (if AV.beq x r then O (AV.int (I9 n)) else aE (rI (n+1) l) r)=O v at h;by_cases q:AV.beq x r=Z
  ·rw[if_pos q] at h;cases h;exact⟨0,rfl,by rw[AV.beq_iff.mp q];rfl⟩
  ·rw[if_neg q] at h;refine ak (kl l (n+1) r v h) λi e h=> ?_
   exact⟨i+1,by rw[e,show n+1+i=n+(i+1) by omega],by simpa using h⟩
theorem tE{R:List AV}{r v:AV}(h:aE (bO R) r=O v):∃i,v=iv i∧(bc++R)[i]? =O r:=by
 rw[n8] at h;refine ak (kl _ _ _ _ h) λi e h=> ?_
 exact⟨i,by rw[e,Ll],h⟩
theorem zS{R X:List AV}{r v:AV}(h:aE (bO R) r=O v):aE (bO (R++X)) r=O v:=by
 rw[n8] at h ⊢;rw[←Jy,dE,ci,h];rfl
theorem xC{R:List AV}{r:AV}(h:aE (bO R) r=U):aE (bO (R++[r])) r=O (iv (32+R.length)):=by
 rw[n8] at h ⊢;rw[←Jy,dE,ci,h];have h2:bc.length=32:=by kernel_rfl
 show(if AV.beq r r then O (AV.int (I9 (0+(bc++R).length))) else _)=_;rw[if_pos (AV.beq_iff.mpr rfl),Jk,h2,Ll]
theorem vf(R:List AV)(r:AV):bO (R++[r])=bO R++[(r,iv (32+R.length))]:=by
 unfold bO;rw[dE,Jy];rfl
noncomputable def jD:AV→Bool
 | .tup (.int 6::_)=>Z
 | .tup (.int 7::_)=>Z
 |_=>N
structure Bd(c:Nat)(R:List AV):Prop where
 len:R.length+c≤900000
 ok:∀r∈R,jD r=Z
noncomputable def bQ(c:Nat)(R R':List AV):Prop:=∃X,R'=R++X∧X.length≤c∧∀r∈X,jD r=Z
theorem bQ.rfl'{R:List AV}(c:Nat):bQ c R R:=⟨[],by simp,KG _,λ_ h=>nomatch h⟩
theorem bQ.trans{a b c:Nat}{R R' R'':List AV}(x:bQ a R R')(y:bQ b R' R'')(h:a+b≤c):bQ c R R'':=by
 refine cG x λX oz6 hX oX=> ?_
 subst oz6;refine cG y λY oz7 hY oY=> ?_
 subst oz7;exact⟨X++Y,by rw[Jy],by rw[Jk];omega,λr hr=>(Ju.mp hr).elim (oX r) (oY r)⟩
theorem bQ.mono{a b:Nat}{R R':List AV}(x:bQ a R R')(h:a≤b):bQ b R R':=by
 refine cG x λX e hX oX=> ?_
 exact⟨X,e,by exact JD hX h,oX⟩
theorem bQ.len{a:Nat}{R R':List AV}(x:bQ a R R'):R'.length≤R.length+a:=by
 refine cG x λX oz8 hX _=> ?_
 subst oz8;rw[Jk];exact J8 hX _
theorem bQ.ix{a:Nat}{R R':List AV}(x:bQ a R R'){r v:AV}(h:aE (bO R) r=O v):aE (bO R') r=O v:=by
 refine cG x λX oz9 hX _=> ?_
 subst oz9;exact zS h
noncomputable def wb(R R':List AV):Prop:=∃c,bQ c R R'
theorem wb.refl(R:List AV):wb R R:=⟨0,.rfl' _⟩
theorem wb.step{c:Nat}{R0 R R':List AV}(x:wb R0 R)(y:bQ c R R'):wb R0 R':=by
 refine aG x λd x=> ?_
 exact⟨d+c,x.trans y (JC _)⟩
theorem Bd.mono{a b:Nat}{R:List AV}(x:Bd a R)(h:b≤a):Bd b R:=⟨by have:=x.len;omega,x.ok⟩
theorem Bd.ext{a b c:Nat}{R R':List AV}(x:Bd c R)(y:bQ a R R')(h:a+b≤c):Bd b R':=by
 refine cG y λX oz10 hX oX=> ?_
 subst oz10;exact⟨by rw[Jk];have:=x.len;omega,λr hr=>(Ju.mp hr).elim (x.ok r) (oX r)⟩
theorem Bd.le{c:Nat}{R:List AV}(x:Bd c R):R.length≤900000:=by have:=x.len;exact JD (JX _ _) this
theorem rh:∀{R:List AV} {n:Nat} {r:AV},(∀r∈R,jD r=Z)→jD r=N→aE (rI n R) r=U
 |[],_,_,_,_=>rfl
 |x::R,n,r,h,hr=>by
  show(if AV.beq x r then O (AV.int (I9 n)) else aE (rI (n+1) R) r)=U;have h1:¬AV.beq x r=Z:=λe=>by
   have e:=AV.beq_iff.mp e;subst e;rw[h x (.head _)] at hr;cases hr
  rw[if_neg h1];exact rh (λr hr=>h r (.tail _ hr)) hr
theorem uo{R:List AV}{r:AV}(h:∀r∈R,jD r=Z)(hr:jD r=N)(hp:aE l5 r=U):aE (bO R) r=U:=by
 unfold bO;rw[ci,hp,rh h hr];rfl
theorem Cg{R:List AV}{S:List CO}{row:AV}(hk:aU .tup row=Z):af ac .inn ⟨ag R,S⟩ (.val row) (.ref 2)=O (aE (bO R) row).isSome:=by
 show(match dictOf? ac (⟨ag R,S⟩:St) (.ref 2) with
  |some (k,es)=>if aU k row then O (aE es row).isSome else U
  |none=>U)=_
 show(if aU .tup row then O (aE (bO R) row).isSome else U)=_;rw[hk];rfl
theorem D2{R:List AV}{S:List CO}{row:AV}(hk:aU .tup row=Z):aL ac ⟨ag R,S⟩ (.ref 2) (.val row)=(aE (bO R) row).map .val:=by
 show(if aU .tup row then(aE (bO R) row).map LV.val else U)=_;rw[hk];rfl
theorem yP{R:List AV}{S:List CO}(h:R.length≤900000):aF ac .len ⟨ag R,S⟩ (.ref 1)=O (.val (iv (32+R.length))):=by
 show(if(bc++R).length<aA then O (LV.val (.int ((bc++R).length:Nat))) else U)=_;have h2:bc.length=32:=by kernel_rfl
 rw[Jk,h2,if_pos (by unfold aA;omega)];rfl
noncomputable def D7(rows:List AV)(ix:List (AV×AV)):List GO:=yx:: .con (.list rows):: .con (.dict .tup ix)::B6
theorem Am(R:List AV):D7 (bc++R) (bO R)=ag R:=rfl
theorem t6{R:List AV}{row v:AV}(hk:aU .tup row=Z)(h:aE (bO R) row=O v):aN 1 1 [.ref 0,.val row] R (.val v) R:=by
 refine aN.body (n:=0) (fd:=db) (by kernel_rfl) rfl rfl λk _=> ?_
 have e1:af ac .inn ⟨ag R,[]⟩ (.val row) (.ref 2)=O Z:=by rw[Cg hk,h];rfl
 have e2:aL ac ⟨ag R,[]⟩ (.ref 2) (.val row)=O (.val v):=by rw[D2 hk,h];rfl
 exact aC [eB 0 e1,eV 0 e2] (by kernel_rfl)
theorem xS{R:List AV}{S:List CO}{row:AV}(h:R.length≤900000):iu ⟨ag R,S⟩ (.ref 1) (.val row)=O ⟨D7 (bc++(R++[row])) (bO R),S⟩:=by
 show(if(bc++R).length<aA then O (bU (⟨ag R,S⟩:St) (.ref 1) (.list ((bc++R)++[row]))) else U)=_;have h2:bc.length=32:=by kernel_rfl
 rw[Jk,h2,if_pos (by unfold aA;omega),Jy];rfl
theorem Bh{rows:List AV}{ix:List (AV×AV)}{S:List CO}:cC ⟨D7 rows ix,S⟩ (.ref 2)=O (.dict .tup ix):=rfl
theorem Bu{rows:List AV}{ix y:List (AV×AV)}{S:List CO}:bU ⟨D7 rows ix,S⟩ (.ref 2) (.dict .tup y)=⟨D7 rows y,S⟩:=rfl
theorem uG{R:List AV}{row:AV}(hk:aU .tup row=Z)(h:aE (bO R) row=U)(hR:R.length≤900000):aN 1 1 [.ref 0,.val row] R (.val (iv (32+R.length))) (R++[row]):=by
 refine aN.body (n:=0) (fd:=db) (by kernel_rfl) rfl rfl λk _=> ?_
 have hl:(bO R).length<aA:=by
  have h2:(rI 32 R).length=R.length:=by
   have:∀(l:List AV) (n:Nat),(rI n l).length=l.length:=λl=>by
    induction l with
    |nil=>exactλ_=>rfl
    |cons x l ih=>exactλn=>congrArg (·+1) (ih (n+1))
   exact this R 32
  have h3:l5.length=32:=by kernel_rfl
  unfold bO aA;rw[Jk,h2,h3];omega
 have e1:af ac .inn ⟨ag R,[]⟩ (.val row) (.ref 2)=O N:=by rw[Cg hk,h];rfl
 have e2:=yP (S:=[]) hR;have e3:=xS (S:=[]) (row:=row) hR;have e4:=ie (Φ:=Fn pg ac k) (e:= .var 2) (o:= .atr 1 (.var 0)) (i:= .var 1) (ρ:=[O (.ref 0),O (.val row),O (.val (iv (32+R.length)))]) (st:=⟨D7 (bc++(R++[row])) (bO R),[]⟩) (x:= .ref 2) (y:=row) (z:=iv (32+R.length)) rfl rfl rfl Bh hk hl;rw[jR _ _ _ h,Bu,←vf,Am] at e4;exact aC [eB 0 e1,eV 0 e2,eT 0 e3,eS 0 e4] (by kernel_rfl)
inductive gy{α:Type}(Q:List AV→α→Option AV→List AV→Prop):List AV→List α→List AV→List AV→Prop
 |nil (R):gy Q R [] [] R
 |cons {R R1 R2 y l o out}:Q R y o R1→gy Q R1 l out R2→gy Q R (y::l) (o.toList++out) R2
theorem ju{G:List GO}{S:List CO}{x:CO}{n:Nat}(h:S.length=n):cR (n+1) ⟨G,S++[x]⟩=⟨G,S++[x]⟩:=by
 unfold cR;rw[K3 (by simp[h])]
theorem jk{G:List GO}{S:List CO}{acc:List AV}{a:AV}{n:Nat}(h:S.length=n)(hl:acc.length<aA):gI n a ⟨G,S++[.list acc]⟩=O ⟨G,S++[.list (acc++[a])]⟩:=by
 subst h;show oO (S++[CO.list acc])[S.length]? _=_;rw[JS];refine(if_pos hl).trans ?_;show O (cR _ ⟨G,(S++[CO.list acc]).set S.length _⟩)=_;rw[LU _ _ (JC _),Oo];exact congrArg O (ju rfl)
section
variable{asg:AV→Ρ→Option Ρ}{tst:Ρ→St→Option (Bool×St)}{elt:Ρ→St→Option (AV×St)}{ok:St→Bool}{n:Nat}{x:AV}{xs:List AV}{ρ ρ1:Ρ}{st st1 st2 st3:St}{a:AV}
theorem wu(h1:asg x ρ=O ρ1)(h2:tst ρ1 st=O (N,st1))(h3:ok (cR (n+1) st1)=Z):ch asg tst elt ok n (x::xs) ρ st=ch asg tst elt ok n xs ρ1 (cR (n+1) st1):=by
 show oO (asg x ρ) _=_;rw[h1];show oO (tst ρ1 st) _=_;rw[h2];exact if_pos h3
theorem jj(h1:asg x ρ=O ρ1)(h2:tst ρ1 st=O (Z,st1))(h3:elt ρ1 st1=O (a,st2))(h4:gI n a st2=O st3)(h5:ok st3=Z):ch asg tst elt ok n (x::xs) ρ st=ch asg tst elt ok n xs ρ1 st3:=by
 show oO (asg x ρ) _=_;rw[h1];show oO (tst ρ1 st) _=_;rw[h2];show oO (elt ρ1 st1) _=_;rw[h3];show oO (gI n a st2) _=_;rw[h4];exact if_pos h5
theorem ux{tg:Nat}{o:Option LV}(ht:tg<ρ.length):bn tg x (ρ.set tg o)=O (ρ.set tg (O (.val x))):=by
 show(if _ then _ else _)=_;rw[if_pos (by rw[Mh];exact ht),PW]
end
noncomputable abbrev EE{α:Type}(en:α→AV)(Q:List AV→α→Option AV→List AV→Prop)(c tg:Nat)(tst:Nat→Ρ→St→Option (Bool×St))(elt:Nat→Ρ→St→Option (AV×St))(ρ0:Ρ)(PS:Nat→List CO→Prop)(y:α)(R:List AV):Prop:=
 ∃o R0 R1,Q R y o R1∧bQ c R R1∧(o=U→R0=R1)∧∀k S',PS k S'→tst k (ρ0.set tg (O (.val (en y)))) ⟨ag R,S'⟩=O (o.isSome,⟨ag R0,S'⟩)∧∀a,o=O a→elt k (ρ0.set tg (O (.val (en y)))) ⟨ag R0,S'⟩=O (a,⟨ag R1,S'⟩)
noncomputable abbrev GP{α:Type}(en:α→AV)(Q:List AV→α→Option AV→List AV→Prop)(c tg:Nat)(tst:Nat→Ρ→St→Option (Bool×St))(elt:Nat→Ρ→St→Option (AV×St))(ok:St→Bool)(ρ0:Ρ)(PS:Nat→List CO→Prop)(l:List α)(R acc:List AV)(x:Option LV):Prop:=
 ∃out R',gy Q R l out R'∧bQ (c*l.length) R R'∧out.length≤l.length∧∀k S n,S.length=n→(∀acc,PS k (S++[.list acc]))→ch (bn tg) (tst k) (elt k) ok n (l.map en) (ρ0.set tg x) ⟨ag R,S++[.list acc]⟩=O ⟨ag R',S++[.list (acc++out)]⟩
theorem rN{α:Type}{en:α→AV}{Q:List AV→α→Option AV→List AV→Prop}{c tg:Nat}{tst:Nat→Ρ→St→Option (Bool×St)}{elt:Nat→Ρ→St→Option (AV×St)}{ok:St→Bool}(hok:∀s,ok s=Z){ρ0:Ρ}(ht:tg<ρ0.length){PS:Nat→List CO→Prop}{B0:List AV}(l:List α):
  (∀y∈l,∀R,Bd c R→wb B0 R→EE en Q c tg tst elt ρ0 PS y R)→∀R acc x,Bd (c*l.length) R→wb B0 R→acc.length+l.length<aA→GP en Q c tg tst elt ok ρ0 PS l R acc x:=by
 induction l with
 |nil=>exactλ_ R acc x _ _ _=>⟨[],R,.nil R,.rfl' _,JC _,λk S n _ _=>by rw[Je];rfl⟩
 |cons y l ih=>
  refineλh R acc x hR hF hl=>vj (h y (.head _) R (hR.mono (Nd _ (c*l.length))) hF) λo R0 R1 hQ hE hn hev=> ?_
  have h1:=ih (λz hz=>h z (.tail _ hz)) R1 (acc++o.toList) (O (.val (en y))) (hR.ext hE (K5 (Kh c (c*l.length)))) (hF.step hE) (by rw[Jk];cases o;exact Op hl;exact nz hl);refine vB h1 λout R' hC hE' hol hcl=>⟨o.toList++out,R',.cons hQ hC,hE.trans hE' (K5 (Kh c (c*l.length))),by cases o;exact MJ hol;exact Lp hol,λk S n hS hP=> ?_⟩
  have e:=hev k (S++[.list acc]) (hP acc);have hcl:=hcl k S n hS hP;cases o with
  |none=>
   rw[hn rfl] at e;rw[show acc++(U:Option AV).toList=acc from Je acc] at hcl;exact(wu (ux ht) e.1 (hok _)).trans (by rw[ju hS];exact hcl)
  |some a=>exact(jj (ux ht) e.1 (e.2 a rfl) (jk hS (JA (JX _ _) hl)) (hok _)).trans (hcl.trans (by rw[Jy]))
noncomputable def qA(Φ:ek)(cond:X):Ρ→St→Option (Bool×St):=λρ s=>oB (ev pg ac Φ cond .T ρ s) λt s1=>O (t,s1)
noncomputable def qb(Φ:ek)(e:X):Ρ→St→Option (AV×St):=λρ s=>oV (ev pg ac Φ e .V ρ s) λa s1=>O (a,s1)
theorem xW{Φ:ek}{c:X}{ρ:Ρ}{s s1:St}{t:Bool}(h:ev pg ac Φ c .T ρ s=O ([.val (.bool t)],s1)):qA Φ c ρ s=O (t,s1):=by
 show oB _ _=_;rw[h];rfl
theorem s9{Φ:ek}{c:X}{ρ:Ρ}{s s1:St}{a:AV}(h:ev pg ac Φ c .V ρ s=O ([.val a],s1)):qb Φ c ρ s=O (a,s1):=by
 show oV _ _=_;rw[h];rfl
noncomputable def ph(n:Nat)(o:Option St):Option (LV×St):=oO o λst2=>oO st2.S[n]? λc=>sJ c λr=>O (.val (.lst r),cR n st2)
theorem jy{Φ:ek}{tg:Nat}{bs:List Bool}{e it cond:X}{ρ:Ρ}{st st1:St}{x:LV}{b:Bool}{l:List AV}(h1:ev pg ac Φ it .V ρ st=O ([x],st1))(h2:ao st1 x=O (b,l))(m:Md):
  ev pg ac Φ (.comp N tg bs e it cond) m ρ st=bv m (ph st1.S.length (ch (bn tg) (qA Φ cond) (qb Φ e) (aP x b l) st1.S.length l (bD bs ρ) {st1 with S:=st1.S++[.list []]})):=by
 rw[qi,h1,tv,h2];rfl
theorem ia{α:Type}{en:α→AV}{Q:List AV→α→Option AV→List AV→Prop}{c tg:Nat}{bs:List Bool}{e it cond:X}{ρ:Ρ}{R:List AV}{l:List α}{v:AV}{b:Bool}(PS:Nat→List CO→Prop)
  (hv:ao ⟨ag R,[]⟩ (.val v)=O (b,l.map en)) (ht:tg<(bD bs ρ).length) (hl:l.length<aA) (hR:Bd (c*l.length) R)
  (hit:∀k S,(∀acc,PS k (S++[.list acc]))→ev pg ac (Fn pg ac k) it .V ρ ⟨ag R,S⟩=O ([.val v],⟨ag R,S⟩))
  (h:∀y∈l,∀R2,Bd c R2→wb R R2→∃o R0 R1,Q R2 y o R1∧bQ c R2 R1∧(o=U→R0=R1)∧∀k S',PS k S'→ev pg ac (Fn pg ac k) cond .T ((bD bs ρ).set tg (O (.val (en y)))) ⟨ag R2,S'⟩=O ([.val (.bool o.isSome)],⟨ag R0,S'⟩)∧
    ∀a,o=O a→ev pg ac (Fn pg ac k) e .V ((bD bs ρ).set tg (O (.val (en y)))) ⟨ag R0,S'⟩=O ([.val a],⟨ag R1,S'⟩)):
  ∃out R1,gy Q R l out R1∧bQ (c*l.length) R R1∧out.length≤l.length∧∀k S m,(∀acc,PS k (S++[.list acc]))→ev pg ac (Fn pg ac k) (.comp N tg bs e it cond) m ρ ⟨ag R,S⟩=bv m (O (.val (.lst out),⟨ag R1,S⟩)):=by
 have hsame:(bD bs ρ).set tg ((bD bs ρ)[tg])=bD bs ρ:=Nl _;have hcc:=rN (en:=en) (Q:=Q) (c:=c) (PS:=PS) (B0:=R) (ok:=aP (.val v) b (l.map en))
  (tst:=λk=>qA (Fn pg ac k) cond) (elt:=λk=>qb (Fn pg ac k) e) (λs=>rfl) ht l (λy hy R hR hF=>by
   refine vj (h y hy R hR hF) λo R0 R1 h1 h2 h3 h4=> ?_
   exact⟨o,R0,R1,h1,h2,h3,λk S' hS'=>⟨xW (h4 k S' hS').1,λa ha=>s9 ((h4 k S' hS').2 a ha)⟩⟩) R [] ((bD bs ρ)[tg]) hR (.refl R) (by simpa using hl)
 refine vB hcc λout R1 hC hE hol hcl=> ?_
 refine⟨out,R1,hC,hE,hol,λk S m hP=> ?_⟩;have hv':ao ⟨ag R,S⟩ (.val v)=O (b,l.map en):=by
  cases v<;>first|exact hv|cases hv
 have hcl:=hcl k S S.length rfl hP;rw[hsame] at hcl;rw[jy (hit k S hP) hv' m,hcl,K8];have h2:(S++[CO.list out])[S.length]? =O (.list out):=by rw[Jx (JC _)];simp
 have h3:cR S.length ⟨ag R1,S++[CO.list out]⟩=⟨ag R1,S⟩:=by
  unfold cR;rw[MA]
 show bv m (oO (S++[CO.list out])[S.length]? λc=>sJ c λr=>O (.val (.lst r),cR S.length ⟨ag R1,S++[CO.list out]⟩))=_;rw[h2,zW];show bv m (O (.val (.lst out),cR S.length ⟨ag R1,S++[CO.list out]⟩))=_;rw[h3]
noncomputable abbrev BW{α:Type}(en:α→AV)(Q:List AV→α→Option AV→List AV→Prop)(c:Nat)(asg:AV→Ρ→Option Ρ)(body:Nat→Ρ→St→Option (Option LV×Ρ×St))(J:Nat→Ρ→Prop)(S0:List CO)(y:α)(R:List AV):Prop:=
 ∃o R1,Q R y o R1∧bQ c R R1∧∀k ρ acc,J k ρ→acc.length<10000→∃ρ1 ρ',asg (en y) ρ=O ρ1∧J k ρ'∧body k ρ1 ⟨ag R,S0++[.list acc]⟩=O (U,ρ',⟨ag R1,S0++[.list (acc++o.toList)]⟩)
noncomputable abbrev Hc{α:Type}(en:α→AV)(Q:List AV→α→Option AV→List AV→Prop)(c:Nat)(asg:AV→Ρ→Option Ρ)(body:Nat→Ρ→St→Option (Option LV×Ρ×St))(ok:St→Bool)(J:Nat→Ρ→Prop)(S0:List CO)(l:List α)(R:List AV):Prop:=
 ∃out R',gy Q R l out R'∧bQ (c*l.length) R R'∧out.length≤l.length∧∀k ρ acc,J k ρ→acc.length+l.length<10000→∃ρ',J k ρ'∧bB asg (body k) ok (l.map en) ρ ⟨ag R,S0++[.list acc]⟩=O (U,ρ',⟨ag R',S0++[.list (acc++out)]⟩)
theorem gi{α:Type}{en:α→AV}{Q:List AV→α→Option AV→List AV→Prop}{c:Nat}{asg:AV→Ρ→Option Ρ}{body:Nat→Ρ→St→Option (Option LV×Ρ×St)}{ok:St→Bool}(hok:∀s,ok s=Z){J:Nat→Ρ→Prop}{S0:List CO}{B0:List AV}(l:List α):
  (∀y∈l,∀R,Bd c R→wb B0 R→BW en Q c asg body J S0 y R)→∀R,Bd (c*l.length) R→wb B0 R→Hc en Q c asg body ok J S0 l R:=by
 induction l with
 |nil=>exactλ_ R _ _=>⟨[],R,.nil R,.rfl' _,JC _,λk ρ acc hJ _=>⟨ρ,hJ,by rw[Je];rfl⟩⟩
 |cons y l ih=>
  exactλh R hR hF=>aX (h y (.head _) R (hR.mono (Nd _ (c*l.length))) hF) λo R1 hQ hE hb=>
   vB (ih (λz hz=>h z (.tail _ hz)) R1 (hR.ext hE (K5 (Kh c (c*l.length)))) (hF.step hE)) λout R' hC hE' hol hf=>
    ⟨o.toList++out,R',.cons hQ hC,hE.trans hE' (K5 (Kh c (c*l.length))),by cases o;exact MJ hol;exact Lp hol,λk ρ acc hJ hl=>
     aX (hb k ρ acc hJ (JA (JX _ _) hl)) λρ1 ρ' ha hJ' hb=>
      ak (hf k ρ' (acc++o.toList) hJ' (by rw[Jk];cases o;exact Op hl;exact nz hl)) λρ2 hJ2 hf=>⟨ρ2,hJ2,(bS ha hb (hok _)).trans (by rw[hf,Jy])⟩⟩
noncomputable abbrev pv(ps:List Nat):List AV:=ps.map iv
noncomputable def lX(ps:List Nat):AV:= .tup [.int 6,.tup (pv ps)]
noncomputable def aR(R:List AV)(t:Nat):List Nat→Prop
 |[]=>t=2
 |[p]=>t=p
 |p::q::ps=>aE (bO R) (lX (p::q::ps))=O (iv t)
theorem aR.ext{c:Nat}{R R':List AV}(x:bQ c R R'){t:Nat}{ps:List Nat}(h:aR R t ps):aR R' t ps:=by
 match ps,h with
 |[],h=>exact h
 |[p],h=>exact h
 |p::q::ps,h=>exact x.ix h
theorem aR.uniq{R:List AV}{t t':Nat}{ps:List Nat}(h:aR R t ps)(h':aR R t' ps):t=t':=by
 match ps,h,h' with
 |[],h,h'=>exact h.trans h'.symm
 |[p],h,h'=>exact h.trans h'.symm
 |p::q::ps,h,h'=>
  have:=h.symm.trans h';injection this with e
  injection e with e
  exact L6 e
theorem iY{a b:Nat}(h:iv a=iv b):a=b:=by
 injection h with e
 exact L6 e
theorem uq:∀ps:List Nat,AV.keyL (pv ps)=Z
 |[]=>rfl
 |p::ps=>by
  show(AV.key (iv p)&&AV.keyL (pv ps))=Z;rw[uq ps];rfl
theorem tV:∀ps:List Nat,AV.depL (pv ps)=0
 |[]=>rfl
 |p::ps=>by
  show max (AV.dep (iv p)) (AV.depL (pv ps))=0;rw[tV ps];rfl
theorem ql(ps:List Nat):aU .tup (lX ps)=Z:=by
 show(AV.keyL [.int 6,.tup (pv ps)]&&QQ ((AV.tup [.int 6,.tup (pv ps)]).dep≤8))=Z;rw[I8];constructor
 ·show(AV.key (.int 6)&&(AV.key (.tup (pv ps))&&Z))=Z;show(Z&&(AV.keyL (pv ps)&&Z))=Z;rw[uq];rfl
 ·rw[decide_eq_true_eq];show max 0 (max (AV.depL (pv ps)+1) 0)+1≤8;rw[tV];decide
theorem cU{R:List AV}{S:List CO}{t:Nat}{row:AV}(ht:t<1000000000)(h:(bc++R)[t]? =O row):aL ac ⟨ag R,S⟩ (.ref 1) (.val (iv t))=O (.val row):=by
 show(if t<1000000000 then((bc++R)[t]?).map LV.val else U)=_;rw[if_pos ht,h];rfl
theorem D5{st:St}{a:AV}{l:List AV}:aL ac st (.val (.tup (a::l))) (.val (.int 0))=O (.val a):=rfl
theorem aR.row{R:List AV}{t p q:Nat}{ps:List Nat}(h:aR R t (p::q::ps))(hR:R.length≤900000):t<1000000000∧(bc++R)[t]? =O (lX (p::q::ps))∧t≠2:=by
 refine ak (tE h) λi e hi=> ?_
 have:=iY e;subst this;have h2:bc.length=32:=by kernel_rfl
 have hl:=(Ji.mp hi).1;rw[Jk,h2] at hl;refine⟨by omega,hi,?_⟩;rintro rfl;have h3:(bc++R)[2]? =O (.tup [.int 1,.str [110,101,118,101,114]]):=rfl;rw[h3] at hi;cases hi
theorem eE(k:Nat)(R S):Qs.map (λq=>Fn pg ac (k+1) 10 [.ref 0,.val (iv q)] ⟨ag R,S⟩)=Qs.map (λq=>O (.val (.tup [iv q]),⟨ag R,S⟩)):=by kernel_rfl
theorem tB(k:Nat)(R S):Fn pg ac (k+1) 10 [.ref 0,.val (iv 2)] ⟨ag R,S⟩=O (.val (.tup []),⟨ag R,S⟩):=by kernel_rfl
theorem kR{n:Nat}(h:n<1000000):n<aA:=by unfold aA;exact nr h
theorem be{R:List AV}{t:Nat}{ps:List Nat}(h:aR R t ps)(hq:∀p∈ps,p∈Qs)(hR:R.length≤900000):aN 1 10 [.ref 0,.val (iv t)] R (.val (.tup (pv ps))) R:=by
 match ps,h with
 |[],h=>
  have h:t=2:=h;subst h;exact .of λk S=>tB k R S
 |[p],h=>
  have h:t=p:=h;subst h;exact .of λk S=>aq (eE k R S) t (hq t (.head _))
 |p::q::ps,h=>
  refine cI (h.row hR) λh1 h2 h3=> ?_
  have hi:af ac .eq ⟨ag R,[]⟩ (.val (iv t)) (.val (.int 2))=O N:=Au h3 _;have hr:=cU (S:=[]) h1 h2;refine aN.body (n:=0) (fd:=g7) (by kernel_rfl) rfl rfl λk _=> ?_
  exact aC [eB 0 hi,eV 0 hr] (by kernel_rfl)
noncomputable def gd(got:List Nat):List (AV×AV):=got.map λp=>(iv p,AV.int 1)
noncomputable def ins(got:List Nat)(p:Nat):List Nat:=if p∈got then got else got++[p]
theorem s5:∀(got:List Nat) (p:Nat),(aE (gd got) (iv p)).isSome=QQ (p∈got)
 |[],p=>by simp[gd,aE]
 |q::got,p=>by
  show(if AV.beq (iv q) (iv p) then O (AV.int 1) else aE (gd got) (iv p)).isSome=_;by_cases h:q=p
  ·subst h;rw[if_pos (AV.beq_iff.mpr rfl)];simp
  ·have h1:¬AV.beq (iv q) (iv p)=Z:=λe=>h (iY (AV.beq_iff.mp e))
   rw[if_neg h1,s5 got p];have:p≠q:=λe=>h e.symm
   simp[this]
theorem om:∀(got:List Nat),aE (gd got) (.int (-1))=U
 |[]=>rfl
 |q::got=>by
  show(if AV.beq (iv q) (.int (-1)) then O (AV.int 1) else aE (gd got) (.int (-1)))=_;have h1:¬AV.beq (iv q) (.int (-1))=Z:=λe=>by
   have:=AV.beq_iff.mp e;injection this with e
   cases e
  rw[if_neg h1,om got]
theorem oJ:∀(got:List Nat) (p:Nat),jT (gd got) (iv p) (.int 1)=gd (ins got p)
 |[],p=>rfl
 |q::got,p=>by
  show(if AV.beq (iv q) (iv p) then(iv q,AV.int 1)::gd got else(iv q,AV.int 1)::jT (gd got) (iv p) (.int 1))=_;by_cases h:q=p
  ·subst h;rw[if_pos (AV.beq_iff.mpr rfl)];simp[ins,gd]
  ·have h1:¬AV.beq (iv q) (iv p)=Z:=λe=>h (iY (AV.beq_iff.mp e))
   rw[if_neg h1,oJ got p];have h2:p≠q:=λe=>h e.symm
   unfold ins;by_cases hm:p∈got
   ·simp[hm,gd]
   ·simp[hm,h2,gd]
noncomputable def nE(got:List Nat):Prop:=got.Nodup∧∀p∈got,p<32
theorem nE.ins{got:List Nat}(h:nE got){p:Nat}(hp:p<32):nE (ins got p):=by
 unfold Mine.ins;split
 ·exact h
 ·rename_i hn;refine⟨Kb.mpr ⟨h.1,by simp,λa ha b hb=> ?_⟩,λq hq=> ?_⟩
  ·simp only[Ja] at hb;subst hb;rintro rfl;exact hn ha
  ·rcases Ju.mp hq with hq|hq
   ·exact h.2 q hq
   ·simp only[Ja] at hq;omega
theorem eU{got:List Nat}{p q:Nat}:q∈ins got p↔q∈got∨q=p:=by
 unfold ins;split
 ·rename_i h;exact⟨.inl,λx=>x.elim id λe=>e▸h⟩
 ·simp
noncomputable def bh(P:Nat→Bool):List Nat:=(JE 32).filter P
theorem bG{P:Nat→Bool}{q:Nat}:q∈bh P↔q<32∧P q=Z:=by
 unfold bh;rw[Jm,J6]
theorem jF(P:Nat→Bool):(bh P).Nodup:=(List.nodup_range).sublist List.filter_sublist
theorem dp(P:Nat→Bool):(bh P).length≤32:=by
 have:=JV P (JE 32);rw[Lf] at this;exact this
theorem rq{got:List Nat}(h:nE got):got.Perm (bh λq=>QQ (q∈got)):=
 (List.perm_ext_iff_of_nodup h.1 (jF _)).mpr λa=>by
  rw[bG,decide_eq_true_eq];exact⟨λx=>⟨h.2 a x,x⟩,λx=>x.2⟩
theorem oj{got:List Nat}(h:nE got):got.length≤32:=by
 rw[(rq h).length_eq];exact dp _
theorem qe:∀got:List Nat,jJ (gd got)=got.map I9
 |[]=>rfl
 |p::got=>by
  show I9 p::jJ (gd got)=_;rw[qe got];rfl
theorem Ao{got:List Nat}(h:nE got):dy .int (gd got)=O (pv (bh λq=>QQ (q∈got))):=by
 show(if(gd got).length<64 then O ((nk (jJ (gd got))).map AV.int) else U)=_;have hl:=oj h;rw[if_pos (by unfold gd;rw[Jj];exact ny hl),qe];have h1:nk (got.map I9)=(bh λq=>QQ (q∈got)).map I9:=by
  refine ej ((gS _).trans ((rq h).map _)) (eW _) ?_;rw[List.pairwise_map];refine QE (λ{a b} (hab:a<b)=> ?_) ((List.pairwise_lt_range (n:=32)).filter _);show I9 a≤I9 b;exact Ol.mpr (JB hab)
 rw[h1,Mq];rfl
theorem qt{st:St}{a b:LV}:af ac .inn st a b=fB ac st a b:=rfl
theorem ub{st:St}{a b:LV}:af ac .nin st a b=(fB ac st a b).map (!·):=rfl
section
variable{R:List AV}{S0:List CO}{n:Nat}(hn:S0.length=n){got:List Nat}{T:List CO}
include hn
theorem Dz{x:CO}:(S0++x::T)[n]? =O x:=by
 rw[←hn,Jx (JC _)];simp
theorem nM(a:Int):af ac .inn ⟨ag R,S0++ .dict .int (gd got)::T⟩ (.val (.int a)) (.loc n)=O (aE (gd got) (.int a)).isSome:=by
 rw[qt];unfold fB ao dictOf?;simp only[Dz hn];rfl
theorem yQ(a:Int):af ac .nin ⟨ag R,S0++ .dict .int (gd got)::T⟩ (.val (.int a)) (.loc n)=O (!(aE (gd got) (.int a)).isSome):=by
 have:=nM (R:=R) (T:=T) (got:=got) hn a;rw[qt] at this;rw[ub,this];rfl
theorem wi{x:CO}:cC ⟨ag R,S0++x::T⟩ (.loc n)=O x:=Dz hn
theorem zd{x y:CO}:bU ⟨ag R,S0++x::T⟩ (.loc n) y=⟨ag R,S0++y::T⟩:=by
 show(⟨ag R,(S0++x::T).set n y⟩:St)=_;rw[←hn,LU _ _ (JC _)];simp
theorem Ek(h:nE got):aF ac .srt ⟨ag R,S0++ .dict .int (gd got)::T⟩ (.loc n)=O (.val (.lst (pv (bh λq=>QQ (q∈got))))):=by
 show(match dictOf? ac _ (.loc n) with
  |some (k,es)=>(dy k es).map λl=>LV.val (.lst l)
  |none=>U)=_
 unfold dictOf?;simp only[Dz hn,Ao h,Ni]
end
theorem cV{k f:Nat}{fd:FD}{as:List LV}{st:St}(hf:pg.fd[f]? =O fd)(hn:as.length+fd.dv.length=fd.np)(hl:dU as=N){o:Option LV}{v:AV}{ρ':Ρ}{G':List GO}{S':List CO}
  (h:ex pg ac (Fn pg ac k) fd.body (aM fd.nm.length as fd.dv) st=O (o,ρ',⟨G',S'⟩)) (ho:o.getD (.val .none)= .val v):Fn pg ac (k+1) f as st=O (.val v,⟨G',S'.take st.S.length⟩):=by
 show(match pg.fd[f]? with
  |some fd=>if as.length+fd.dv.length=fd.np then
    (if dU as then _ else oO (ex pg ac (Fn pg ac k) fd.body (aM fd.nm.length as fd.dv) st) λp=>uh st.S.length p.2.2 (p.1.getD (.val .none)))
   else U
  |none=>U)=_
 rw[hf];show(if as.length+fd.dv.length=fd.np then(if dU as=Z then _ else _) else _)=_;rw[if_pos hn,hl,if_neg Jd,h,zW];rw[ho];rfl
theorem xK{k f:Nat}{fd:FD}{as:List LV}{st:St}(hf:pg.fd[f]? =O fd)(hn:as.length+fd.dv.length=fd.np)(hl:dU as=N){o:Option LV}{v:AV}{G':List GO}{S':List CO}
  (h:∃ρ',ex pg ac (Fn pg ac k) fd.body (aM fd.nm.length as fd.dv) st=O (o,ρ',⟨G',S'⟩)) (ho:o.getD (.val .none)= .val v) (hS:S'.length=st.S.length):Fn pg ac (k+1) f as st=O (.val v,⟨G',S'⟩):=
 h.elim λ_ h=>by rw[cV hf hn hl h ho,←hS,Kw]
section
variable{R:List AV}{S0:List CO}{n:Nat}(hn:S0.length=n){got:List Nat}{T:List CO}
include hn
noncomputable def ve(b0 b1 b2:Bool):Int:=if b0 then 0 else if b1 then 13 else if b2 then 1 else -1
noncomputable def r6(got:List Nat):Int:=ve (QQ (0∈got)) (QQ (13∈got)) (QQ (1∈got))
theorem iG(c:Nat):af ac .inn ⟨ag R,S0++ .dict .int (gd got)::T⟩ (.val (iv c)) (.loc n)=O (QQ (c∈got)):=by rw[←s5];exact nM hn _
noncomputable def AY:Sx:= .cons (.ife (.cmp .inn (.var 1) (.var 0)) %[.ret (.var 1)|_] .nil) .nil
theorem xL{Φ:ek}{b:Bool}{c:Nat}{x1:Option LV}{xs:List AV}{ok:St→Bool}(hok:∀s,ok s=Z)(h:QQ (c∈got)=b):
  bB (bn 1) (ex pg ac Φ AY) ok (iv c::xs) [O (.loc n),x1] ⟨ag R,S0++ .dict .int (gd got)::T⟩=
   if b then O (O (.val (iv c)),[O (.loc n),O (.val (iv c))],⟨ag R,S0++ .dict .int (gd got)::T⟩) else bB (bn 1) (ex pg ac Φ AY) ok xs [O (.loc n),O (.val (iv c))] ⟨ag R,S0++ .dict .int (gd got)::T⟩:=by
 have q:=iG (R:=R) (T:=T) (got:=got) hn c;rw[h] at q;induction b with
 |true=>exact yj rfl (dw [eB 0 q] (by kernel_rfl))
 |false=>exact bS rfl (dw [eB 0 q] (by kernel_rfl)) (hok _)
theorem tN(k:Nat):Fn pg ac (k+1) 15 [.loc n] ⟨ag R,S0++ .dict .int (gd got)::T⟩=O (.val (.int (r6 got)),⟨ag R,S0++ .dict .int (gd got)::T⟩):=by
 have lo:∃o ρ',bB (bn 1) (ex pg ac (Fn pg ac k) AY) (aP (.val (.tup (pv [0,13,1]))) N (pv [0,13,1])) (pv [0,13,1]) [O (.loc n),U] ⟨ag R,S0++ .dict .int (gd got)::T⟩=O (o,ρ',⟨ag R,S0++ .dict .int (gd got)::T⟩)∧o.getD (.val (.int (-1)))= .val (.int (r6 got)):=by
  have z:=λ{b:Bool} {c:Nat} {x1:Option LV} {xs:List AV} h=>xL (R:=R) (T:=T) hn (Φ:=Fn pg ac k) (ok:=aP (.val (.tup (pv [0,13,1]))) N (pv [0,13,1])) (λ_=>rfl) (b:=b) (c:=c) (x1:=x1) (xs:=xs) (got:=got) h
  delta r6 ve;cases q0:QQ (0∈got) with
  |true=>exact⟨_,_,z q0,rfl⟩
  |false=>cases q1:QQ (13∈got) with
   |true=>exact⟨_,_,(z q0).trans (z q1),rfl⟩
   |false=>cases q2:QQ (1∈got) with
    |true=>exact⟨_,_,(z q0).trans ((z q1).trans (z q2)),rfl⟩
    |false=>exact⟨U,_,(z q0).trans ((z q1).trans (z q2)),rfl⟩
 refine b9 lo λo ρ' lo ho=> ?_
 have e:=lL (Φ:=Fn pg ac k) (it:= .tup %[.cst (.int 0),.cst (.int 13),.cst (.int 1)|_]) (tg:=1) (b:=AY) (ρ:=[O (.loc n),U]) rfl rfl lo;have h:∃ρ',ex pg ac (Fn pg ac k) iA.body (aM iA.nm.length [.loc n] iA.dv) ⟨ag R,S0++ .dict .int (gd got)::T⟩=O (O (.val (.int (r6 got))),ρ',⟨ag R,S0++ .dict .int (gd got)::T⟩):=by
  rw[←ho];induction o with
  |none=>exact gu [eS 0 e] (by kernel_rfl)
  |some v=>exact gu [eS 0 e] (by kernel_rfl)
 refine aG h λρ' h=> ?_
 have:=cV (f:=15) (by kernel_rfl) rfl rfl h rfl;rw[this];rw[Kw]
noncomputable def jb(got:List Nat):List Nat:=if((QQ (8∈got)||decide (14∈got))&&(QQ (9∈got)||decide (15∈got)))=Z then ins (ins got 8) 9 else got
theorem re(k:Nat)(ho:got.length≤100):Fn pg ac (k+1) 13 [.loc n] ⟨ag R,S0++ .dict .int (gd got)::T⟩=O (.val .none,⟨ag R,S0++ .dict .int (gd (jb got))::T⟩):=by
 have a0:=iG (R:=R) (T:=T) (got:=got) hn 8;have a1:=iG (R:=R) (T:=T) (got:=got) hn 14;have a2:=iG (R:=R) (T:=T) (got:=got) hn 9;have a3:=iG (R:=R) (T:=T) (got:=got) hn 15;have l0:(gd got).length<aA:=by delta gd aA;rw[Jj];exact ny ho
 have l1:(gd (ins got 8)).length<aA:=by
  have:(ins got 8).length≤got.length+1:=by delta ins;split<;>simp
  delta gd aA;rw[Jj];omega
 have s0:=ie (Φ:=Fn pg ac k) (e:= .cst (.int 1)) (o:= .var 0) (i:= .cst (.int 8)) (ρ:=[O (.loc n)]) (st:=⟨ag R,S0++ .dict .int (gd got)::T⟩) (x:= .loc n) (y:=iv 8) (z:= .int 1) rfl rfl rfl (wi hn) rfl l0;rw[zd hn,oJ] at s0;have s1:=ie (Φ:=Fn pg ac k) (e:= .cst (.int 1)) (o:= .var 0) (i:= .cst (.int 9)) (ρ:=[O (.loc n)]) (st:=⟨ag R,S0++ .dict .int (gd (ins got 8))::T⟩) (x:= .loc n) (y:=iv 9) (z:= .int 1) rfl rfl rfl (wi hn) rfl l1;rw[zd hn,oJ] at s1;have h:∃ρ',ex pg ac (Fn pg ac k) dh.body (aM dh.nm.length [.loc n] dh.dv) ⟨ag R,S0++ .dict .int (gd got)::T⟩=O (U,ρ',⟨ag R,S0++ .dict .int (gd (jb got))::T⟩):=by
  delta jb;generalize QQ (8∈got)=b0 at a0 ⊢;generalize QQ (14∈got)=b1 at a1 ⊢;generalize QQ (9∈got)=b2 at a2 ⊢;generalize QQ (15∈got)=b3 at a3 ⊢;cases b0<;>cases b1<;>cases b2<;>cases b3
  ·exact gu [eB 0 a0,eB 0 a1] (by kernel_rfl)
  ·exact gu [eB 0 a0,eB 0 a1] (by kernel_rfl)
  ·exact gu [eB 0 a0,eB 0 a1] (by kernel_rfl)
  ·exact gu [eB 0 a0,eB 0 a1] (by kernel_rfl)
  ·exact gu [eB 0 a0,eB 0 a1,eB 0 a2,eB 0 a3] (by kernel_rfl)
  ·exact gu [eB 0 a0,eB 0 a1,eB 0 a2,eB 0 a3,eS 0 s0,eS 0 s1] (by kernel_rfl)
  ·exact gu [eB 0 a0,eB 0 a1,eB 0 a2,eS 0 s0,eS 0 s1] (by kernel_rfl)
  ·exact gu [eB 0 a0,eB 0 a1,eB 0 a2,eS 0 s0,eS 0 s1] (by kernel_rfl)
  ·exact gu [eB 0 a0,eB 0 a2,eB 0 a3] (by kernel_rfl)
  ·exact gu [eB 0 a0,eB 0 a2,eB 0 a3,eS 0 s0,eS 0 s1] (by kernel_rfl)
  ·exact gu [eB 0 a0,eB 0 a2,eS 0 s0,eS 0 s1] (by kernel_rfl)
  ·exact gu [eB 0 a0,eB 0 a2,eS 0 s0,eS 0 s1] (by kernel_rfl)
  ·exact gu [eB 0 a0,eB 0 a2,eB 0 a3] (by kernel_rfl)
  ·exact gu [eB 0 a0,eB 0 a2,eB 0 a3,eS 0 s0,eS 0 s1] (by kernel_rfl)
  ·exact gu [eB 0 a0,eB 0 a2,eS 0 s0,eS 0 s1] (by kernel_rfl)
  ·exact gu [eB 0 a0,eB 0 a2,eS 0 s0,eS 0 s1] (by kernel_rfl)
 refine aG h λρ' h=> ?_
 have:=cV (f:=13) (v:= .none) (by kernel_rfl) rfl rfl h rfl;rw[this];have e:(S0++CO.dict KD.int (gd (jb got))::T).length=(S0++CO.dict KD.int (gd got)::T).length:=by simp
 rw[show(⟨ag R,S0++CO.dict KD.int (gd got)::T⟩:St).S.length=(S0++CO.dict KD.int (gd (jb got))::T).length from e.symm,Kw]
end
noncomputable def nj(q:Nat):Nat:=if q=14 then 8 else if q=20 then 16 else if q=21 then 17 else 99
noncomputable def wc(q:Nat):Nat:=if q∈[16,19,20,21,27] then 6 else if q∈[22,23,24,25,26] then 7 else 99
noncomputable def nI(n:Nat):AV:=if n=99 then .int (-1) else iv n
noncomputable def Qt:List Nat:=[0,1,4,5,6,7,8,9,10,11,14,16,18,19,20,21,22,24,25,27,28,29,30,31]
theorem Cj(k:Nat)(R S):Qt.map (λq=>Fn pg ac (k+1) 12 [.ref 0,.val (iv q)] ⟨ag R,S⟩)=Qt.map (λq=>O (.val (nI (nj q)),⟨ag R,S⟩)):=by kernel_rfl
theorem xO(k:Nat)(R S):[23,26].map (λq=>Fn pg ac (k+1) 12 [.ref 0,.val (iv q)] ⟨ag R,S⟩)=[AV.tup [.int 4,.int 1,.int 0],AV.tup [.int 5,.int 2,.str [66],.int 1,.int 0]].map (λr=>O (.val ((aE (bO R) r).getD (.int (-1))),⟨ag R,S⟩)):=by kernel_rfl
theorem rO{R:List AV}(h:∀r∈R,jD r=Z){q:Nat}(hq:q∈Qs)(k:Nat)(S):Fn pg ac (k+1) 12 [.ref 0,.val (iv q)] ⟨ag R,S⟩=O (.val (nI (nj q)),⟨ag R,S⟩):=by
 have h2:q∈Qt∨q=23∨q=26:=by
  have:∀q∈Qs,q∈Qt∨q=23∨q=26:=by decide
  exact this q hq
 have h3:=xO k R S;simp only[JT,Mr,Nf,and_true] at h3;rcases h2 with h2|rfl|rfl
 ·exact aq (Cj k R S) q h2
 ·rw[h3.1,uo h rfl (by kernel_rfl)];rfl
 ·rw[h3.2,uo h rfl (by kernel_rfl)];rfl
theorem Dr(k:Nat)(R S):Qs.map (λq=>Fn pg ac (k+1) 11 [.val (bc.getD q .none)] ⟨ag R,S⟩)=Qs.map (λq=>O (.val (nI (wc q)),⟨ag R,S⟩)):=by kernel_rfl
theorem wn(R:List AV):Qs.map (λq=>(bc++R)[q]?)=Qs.map (λq=>O (bc.getD q .none)):=by kernel_rfl
theorem xV{q:Nat}(hq:q∈Qs)(R:List AV):(bc++R)[q]? =O (bc.getD q .none):=aq (wn R) q hq
theorem yH{q:Nat}(hq:q∈Qs):q<32:=by
 have:∀q∈Qs,q<32:=by decide
 exact this q hq
noncomputable def sb(P:Nat→Bool)(q:Nat):Bool:= !P (nj q)&& !P (wc q)
theorem BX{got:List Nat}(h:nE got)(n:Nat):∃i:Int,nI n= .int i∧(aE (gd got) (.int i)).isSome=QQ (n∈got):=by
 delta nI;by_cases e:n=99
 ·subst e;refine⟨-1,rfl,?_⟩;rw[om];have:99∉got:=λm=>by have:=h.2 99 m;exact absurd this (by decide)
  simp[this]
 ·exact(if_neg e)▸(⟨_,rfl,s5 got n⟩)
theorem vv{R:List AV}(hR:∀r∈R,jD r=Z){S0:List CO}{n:Nat}(hn:S0.length=n){got:List Nat}{T:List CO}(ho:nE got){q:Nat}(hq:q∈Qs)(k:Nat):
  Fn pg ac (k+2) 14 [.ref 0,.loc n,.val (iv q)] ⟨ag R,S0++ .dict .int (gd got)::T⟩=O (.val (.bool (sb (λp=>QQ (p∈got)) q)),⟨ag R,S0++ .dict .int (gd got)::T⟩):=by
 have h1:=rO hR hq k (S0++ .dict .int (gd got)::T);have h2:=aq (Dr k R (S0++ .dict .int (gd got)::T)) q hq;refine ak (BX ho (nj q)) λi e1 g1=> ?_
 refine ak (BX ho (wc q)) λj e2 g2=> ?_
 rw[e1] at h1;rw[e2] at h2;have hr:=cU (R:=R) (S:=S0++ .dict .int (gd got)::T) (by have:=yH hq;exact nr this) (xV hq R);have h:∃ρ',ex pg ac (Fn pg ac (k+1)) bq.body (aM bq.nm.length [.ref 0,.loc n,.val (iv q)] bq.dv) ⟨ag R,S0++ .dict .int (gd got)::T⟩=O (O (.val (.bool (sb (λp=>QQ (p∈got)) q))),ρ',⟨ag R,S0++ .dict .int (gd got)::T⟩):=by
  show∃ρ',_=O (O (LV.val (AV.bool (!QQ (nj q∈got)&& !QQ (wc q∈got)))),ρ',_)
  generalize QQ (nj q∈got)=b1 at g1 ⊢;have m1:=nM (R:=R) (T:=T) (got:=got) hn i;have m2:=yQ (R:=R) (T:=T) (got:=got) hn j;rw[g1] at m1;rw[g2] at m2;cases b1
  ·exact gu [eC 0 h1,eB 0 m1,eV 0 hr,eC 0 h2,eB 0 m2] (by kernel_rfl)
  ·exact gu [eC 0 h1,eB 0 m1] (by kernel_rfl)
 refine aG h λρ' h=> ?_
 have:=cV (f:=14) (by kernel_rfl) rfl rfl h rfl;rw[this];rw[Kw]
inductive cT(R:List AV):List Nat→List (List Nat)→Prop
 |nil:cT R [] []
 |cons {t ps ts pss}:aR R t ps→(∀p∈ps,p∈Qs)→cT R ts pss→cT R (t::ts) (ps::pss)
noncomputable def av(pss:List (List Nat))(q:Nat):Bool:=QQ (∃ps∈pss,q∈ps)
noncomputable def aZ(P:Nat→Bool):Nat→Bool:=
 if P 0 then(·==0) else if P 13 then(·==13) else if P 1 then(·==1) else
  λq=>(P q||((P 8||P 14)&&(P 9||P 15)&&(q==8||q==9)))&&sb (λq=>P q||((P 8||P 14)&&(P 9||P 15)&&(q==8||q==9))) q
theorem pW:∀(ps got:List Nat) (q:Nat),q∈ps.foldl ins got↔q∈got∨q∈ps
 |[],got,q=>by simp
 |p::ps,got,q=>by
  rw[LA,pW ps,eU,Jh,or_assoc]
theorem ly:∀(ps got:List Nat),nE got→(∀p∈ps,p<32)→nE (ps.foldl ins got)
 |[],_,h,_=>h
 |p::ps,got,h,hp=>ly ps (ins got p) (h.ins (hp p (.head _))) λq hq=>hp q (.tail _ hq)
theorem nf:∀(pss:List (List Nat)) (got:List Nat) (q:Nat),q∈pss.foldl (λg ps=>ps.foldl ins g) got↔q∈got∨∃ps∈pss,q∈ps
 |[],got,q=>by simp
 |ps::pss,got,q=>by
  rw[LA,nf pss,pW];simp only[Jh,exists_eq_or_imp,or_assoc]
theorem mX:∀(pss:List (List Nat)) (got:List Nat),nE got→(∀ps∈pss,∀p∈ps,p<32)→nE (pss.foldl (λg ps=>ps.foldl ins g) got)
 |[],_,h,_=>h
 |ps::pss,got,h,hp=>mX pss _ (ly ps got h (hp ps (.head _))) λq hq=>hp q (.tail _ hq)
section
variable{R:List AV}{S0:List CO}{n:Nat}(hn:S0.length=n){Φ:ek}{a:LV}
include hn
theorem pQ{ok:St→Bool}(hok:∀s,ok s=Z){r0 x3:Option LV}:∀(ps got:List Nat) (x6:Option LV),nE got→(∀p∈ps,p<32)→∃y6,bB (bn 6) (ex pg ac Φ %[.sti (.var 2) (.var 6) (.cst (.int 1))|_]) ok (pv ps) [r0,O a,O (.loc n),x3,U,U,x6] ⟨ag R,S0++[.dict .int (gd got)]⟩=
  O (U,[r0,O a,O (.loc n),x3,U,U,y6],⟨ag R,S0++[.dict .int (gd (ps.foldl ins got))]⟩)
 |[],got,x6,_,_=>⟨x6,rfl⟩
 |p::ps,got,x6,h,hp=>by
  obtain⟨y6,e⟩:=pQ hok ps (ins got p) (O (.val (iv p))) (h.ins (hp p (.head _))) λq hq=>hp q (.tail _ hq)
  refine⟨y6,?_⟩;have k0:aU .int (iv p)=Z:=rfl;have l0:(gd got).length<aA:=by unfold gd aA;rw[Jj];have:=oj h;exact ny this
  rw[LA,←e];show bB (bn 6) _ ok (iv p::pv ps) _ _=_;have s:=ie (Φ:=Φ) (e:= .cst (.int 1)) (o:= .var 2) (i:= .var 6) (ρ:=[r0,O a,O (.loc n),x3,U,U,O (.val (iv p))]) (st:=⟨ag R,S0++[.dict .int (gd got)]⟩) (x:= .loc n) (y:=iv p) (z:= .int 1) rfl rfl rfl (wi hn) k0 l0;rw[zd hn,oJ] at s;exact bS rfl (dw [eS 0 s] (by kernel_rfl)) (hok _)
noncomputable def jo:Sx:= .cons (.frN 6 (.cal 10 %[.var 0,.var 3|_]) %[.sti (.var 2) (.var 6) (.cst (.int 1))|_]) .nil
theorem xB{k:Nat}(hk:1≤k)(hR:R.length≤900000){ok:St→Bool}(hok:∀X,ok ⟨ag R,S0++X⟩=Z){ts:List Nat}{pss:List (List Nat)}(H:cT R ts pss):∀(got:List Nat) (x3 x6:Option LV),nE got→∃y3 y6,
  bB (bn 3) (ex pg ac (Fn pg ac k) jo) ok (pv ts) [O (.ref 0),O a,O (.loc n),x3,U,U,x6] ⟨ag R,S0++[.dict .int (gd got)]⟩=
  O (U,[O (.ref 0),O a,O (.loc n),y3,U,U,y6],⟨ag R,S0++[.dict .int (gd (pss.foldl (λg ps=>ps.foldl ins g) got))]⟩):=by
 induction H with
 |nil=>exactλgot x3 x6 _=>⟨x3,x6,rfl⟩
 | @cons t ps ts pss h1 h2 _ ih=>
  intro got x3 x6 hg;have h32:∀p∈ps,p<32:=λp hp=>yH (h2 p hp)
  refine aG (pQ (R:=R) (Φ:=Fn pg ac k) (a:=a) hn (ok:=aP (.val (.tup (pv ps))) N (pv ps)) (λ_=>rfl) (r0:=O (.ref 0)) (x3:=O (.val (iv t))) ps got x6 hg h32) λy6 e1=> ?_
  refine te (ih (ps.foldl ins got) (O (.val (iv t))) y6 (ly ps got hg h32)) λz3 z6 e2=> ?_
  refine⟨z3,z6,?_⟩;have hp:=be h1 h2 hR k (S0++[.dict .int (gd got)]) hk;rw[LA,←e2];show bB (bn 3) _ ok (iv t::pv ts) _ _=_;exact bS rfl (dw [eC 0 hp,eS 0 e1] (by kernel_rfl)) (hok _)
end
theorem yB{st:St}{l:List AV}(h:l.length<aA):aF ac .tup st (.val (.lst l))=O (.val (.tup l)):=by
 show(if l.length<aA then O (LV.val (.tup l)) else U)=_;rw[if_pos h]
theorem gk{st:St}{l:List AV}(h:l.length<aA):aF ac .len st (.val (.lst l))=O (.val (.int (l.length:Nat))):=by
 show(if l.length<aA then O (LV.val (.int (l.length:Nat))) else U)=_;rw[if_pos h]
theorem jO{st:St}{l:List AV}(h:l.length<aA):aK st (.val (.lst l))=O (!l.isEmpty):=by
 show(if l.length<aA then O (!l.isEmpty) else U)=_;rw[if_pos h]
theorem dk{α:Type}{f:α→Bool}{g:α→AV}{R R':List AV}{l:List α}{out:List AV}(h:gy (λR y o R1=>R1=R∧o=if f y then O (g y) else U) R l out R'):R'=R∧out=(l.filter f).map g:=by
 induction h with
 |nil R=>exact⟨rfl,rfl⟩
 | @cons R R1 R2 y l o out h1 _ ih=>
  obtain⟨e1,e2⟩:=h1;refine aO ih λi1 i2=> ?_
  subst e1;refine⟨i1,?_⟩;rw[i2,e2,M1];by_cases q:f y=Z
  ·rw[if_pos q,if_pos q];rfl
  ·rw[if_neg q,if_neg q];rfl
theorem CK{got:List Nat}{q:Nat}:QQ (q∈jb got)=(QQ (q∈got)||((QQ (8∈got)||decide (14∈got))&&(QQ (9∈got)||decide (15∈got))&&(q==8||q==9))):=by
 delta jb;cases h:((QQ (8∈got)||decide (14∈got))&&(QQ (9∈got)||decide (15∈got))) with
 |false=>
  simp
 |true=>
  rw[if_pos rfl,K9];by_cases h1:q∈got
  ·simp[eU,h1]
  ·by_cases h2:q=8
   ·subst h2;simp[eU]
   ·by_cases h3:q=9
    ·subst h3;simp[eU]
    ·simp[eU,h1,h2,h3]
theorem Ch{got:List Nat}(h:nE got):nE (jb got):=by
 delta jb;split
 ·exact(h.ins (nc)).ins (nc)
 ·exact h
theorem eH(n:Nat)(h:n<32):bh (·==n)=[n]:=by
 have:∀n<32,bh (·==n)=[n]:=by decide+kernel
 exact this n h
theorem Bx{k:Nat}(hk:2≤k){R:List AV}(hR:Bd 1 R){S0:List CO}{n:Nat}(hn:S0.length=n){got:List Nat}(ho:nE got)(hq:∀q∈got,q∈Qs){a:LV}{x3 x4 x6:Option LV}{P:Nat→Bool}(hP:(λq=>QQ (q∈got))=P)(m:Md):
  ev pg ac (Fn pg ac k) (.comp N 3 [Z,N,Z] (.var 3) (.fn1 .srt (.var 2)) (.cal 14 %[.var 0,.var 2,.var 3|_])) m [O (.ref 0),O a,O (.loc n),x3,x4,U,x6] ⟨ag R,S0++[.dict .int (gd got)]⟩=
   bv m (O (.val (.lst (pv (bh λq=>P q&&sb P q))),⟨ag R,S0++[.dict .int (gd got)]⟩)):=by
 obtain⟨k,rfl⟩:∃k',k=k'+2:=⟨k - 2,nq hk⟩
 obtain⟨out,R1,hC,hE,hol,hev⟩:=ia (α:=Nat) (en:=iv) (Q:=λR y o R1=>R1=R∧o=if sb P y then O (iv y) else U) (c:=0) (tg:=3) (bs:=[Z,N,Z]) (e:= .var 3) (it:= .fn1 .srt (.var 2))
  (cond:= .cal 14 %[.var 0,.var 2,.var 3|_]) (ρ:=[O (.ref 0),O a,O (.loc n),x3,x4,U,x6]) (R:=R) (l:=bh λq=>QQ (q∈got)) (v:= .lst (pv (bh λq=>QQ (q∈got)))) (b:=Z)
  (λk S'=>2≤k∧∃T,S'=S0++ .dict .int (gd got)::T) rfl (by show 3<7;decide) (by have:=dp λq=>QQ (q∈got);unfold aA;exact ny this) (hR.mono (by omega)) (λk S hS=>by
   refine aG ((hS []).2) λT hT=> ?_
   have:∃T,S=S0++ .dict .int (gd got)::T:=by
    rcases List.eq_nil_or_concat T with rfl|⟨T',x,rfl⟩
    ·have:=List.append_inj_right' (show S++[CO.list []]=S0++[CO.dict .int (gd got)] from hT) rfl;simp at this
    ·refine⟨T',?_⟩;have h2:S++[CO.list []]=(S0++CO.dict .int (gd got)::T')++[x]:=by rw[hT];simp
     exact Nm h2 rfl
   obtain⟨T,rfl⟩:=this;exact bz [eV 0 (Ek (R:=R) (T:=T) hn ho)] (by kernel_rfl)) (λq hqm R2 hR2 _=>by
   have hm:=(bG.mp hqm).2;rw[decide_eq_true_eq] at hm;refine⟨if sb P q then O (iv q) else U,R2,R2,⟨rfl,rfl⟩,.rfl' _,λ_=>rfl,λk S' hS'=> ?_⟩;obtain⟨hk,T,rfl⟩:=hS';obtain⟨k,rfl⟩:∃k',k=k'+2:=⟨k - 2,nq hk⟩
   have hs:=vv (T:=T) hR2.ok hn ho (hq q hm) k;rw[hP] at hs;constructor
   ·cases hsb:sb P q<;>rw[hsb] at hs<;>exact bz [eC 0 hs] (by kernel_rfl)
   ·intro a ha;have:a=iv q:=by
     cases h:sb P q<;>rw[h] at ha
     ·exfalso;cases ha
     ·simpa using ha.symm
    subst this;exact bz [] (by kernel_rfl))
 obtain⟨e1,e2⟩:=dk hC;subst e1;rw[hev (k+2) _ m λacc=>⟨by exact nc,[.list acc],by simp⟩,e2];have:(bh λq=>QQ (q∈got)).filter (sb P)=bh λq=>P q&&sb P q:=by
  unfold bh;rw[K6];refine J3 λq _=> ?_
  rw[Py,←hP]
 rw[this]
theorem Bf{R:List AV}(hR:Bd 1 R){p q:Nat}{ps:List Nat}:∃R' r,bQ 1 R R'∧aR R' r (p::q::ps)∧aN 1 1 [.ref 0,.val (lX (p::q::ps))] R (.val (iv r)) R':=by
 cases h:aE (bO R) (lX (p::q::ps)) with
 |some v=>
  refine ak (tE h) λi e _=> ?_
  subst e;exact⟨R,i,.rfl' _,h,t6 (ql _) h⟩
 |none=>exact⟨_,_,⟨[_],rfl,JC _,λr hr=>by rw[Ja.mp hr];rfl⟩,xC h,uG (ql _) h hR.le⟩
theorem iL{k:Nat}(hk:1≤k){R:List AV}(hR:Bd 1 R){S0:List CO}{a:LV}{b:Bool}{ts:List Nat}{pss:List (List Nat)}(H:cT R ts pss)(hq:∀ps∈pss,∀p∈ps,p∈Qs)
  (hok:∀X,aP a b (pv ts) ⟨ag R,S0++X⟩=Z):
  ∃y3 y6 got,bB (bn 3) (ex pg ac (Fn pg ac (k+1)) jo) (aP a b (pv ts)) (pv ts) [O (.ref 0),O a,O (.loc S0.length),U,U,U,U] ⟨ag R,S0++[.dict .int []]⟩=
    O (U,[O (.ref 0),O a,O (.loc S0.length),y3,U,U,y6],⟨ag R,S0++[.dict .int (gd got)]⟩)∧
   Fn pg ac (k+1) 15 [.loc S0.length] ⟨ag R,S0++[.dict .int (gd got)]⟩=O (.val (.int (ve (av pss 0) (av pss 13) (av pss 1))),⟨ag R,S0++[.dict .int (gd got)]⟩)∧
   Fn pg ac (k+1) 13 [.loc S0.length] ⟨ag R,S0++[.dict .int (gd got)]⟩=O (.val .none,⟨ag R,S0++[.dict .int (gd (jb got))]⟩)∧
   ((av pss 0||av pss 13||av pss 1)=N→∀m x4,ev pg ac (Fn pg ac (k+1)) (.comp N 3 [Z,N,Z] (.var 3) (.fn1 .srt (.var 2)) (.cal 14 %[.var 0,.var 2,.var 3|_])) m [O (.ref 0),O a,O (.loc S0.length),y3,x4,U,y6] ⟨ag R,S0++[.dict .int (gd (jb got))]⟩=
    bv m (O (.val (.lst (pv (bh (aZ (av pss))))),⟨ag R,S0++[.dict .int (gd (jb got))]⟩))):=by
 have hmm:∀q,q∈pss.foldl (λg ps=>ps.foldl ins g) []↔∃ps∈pss,q∈ps:=λq=>by rw[nf];simp
 have hog:nE (pss.foldl (λg ps=>ps.foldl ins g) []):=mX pss [] ⟨.nil,λ_ h=>nomatch h⟩ λps hp p hpp=>yH (hq ps hp p hpp)
 refine te (xB (k:=k+1) (R:=R) (S0:=S0) (a:=a) rfl (nc) hR.le hok H [] U U ⟨.nil,λ_ h=>nomatch h⟩) λy3 y6 e1=> ?_
 have hP:(λq=>QQ (q∈pss.foldl (λg ps=>ps.foldl ins g) []))=av pss:=by
  funext q;delta av;rw[decide_eq_decide];exact hmm q
 have hQ:∀q∈pss.foldl (λg ps=>ps.foldl ins g) [],q∈Qs:=λq h=>by
  refine ak ((hmm q).mp h) λps h1 h2=> ?_
  exact hq ps h1 q h2
 generalize pss.foldl (λg ps=>ps.foldl ins g) []=got at e1 hog hP hQ;have ht:=tN (R:=R) (S0:=S0) (T:=[]) (got:=got) rfl k;have hj:=re (R:=R) (S0:=S0) (T:=[]) (got:=got) rfl k (by have:=oj hog;exact nr this);have d0:QQ (0∈got)=av pss 0:=congrFun hP 0;have d13:QQ (13∈got)=av pss 13:=congrFun hP 13;have d1:QQ (1∈got)=av pss 1:=congrFun hP 1;unfold r6 at ht;rw[d0,d13,d1] at ht;refine⟨y3,y6,got,e1,ht,hj,λh0 m x4=> ?_⟩;simp only[KA] at h0;refine aO h0 λoz4 q2=> ?_
 refine aO oz4 λq0 q1=> ?_
 have hP2:(λq=>QQ (q∈jb got))=λq=>av pss q||((av pss 8||av pss 14)&&(av pss 9||av pss 15)&&(q==8||q==9)):=by
  funext q
  rw[CK,congrFun hP q,show QQ (8∈got)=av pss 8 from congrFun hP 8,show QQ (14∈got)=av pss 14 from congrFun hP 14,show QQ (9∈got)=av pss 9 from congrFun hP 9,show QQ (15∈got)=av pss 15 from congrFun hP 15]
 have hQ2:∀q∈jb got,q∈Qs:=λq h=>by
  delta jb at h;split at h
  ·rcases eU.mp h with h|rfl
   ·rcases eU.mp h with h|rfl
    ·exact hQ q h
    ·decide
   ·decide
  ·exact hQ q h
 have hN:aZ (av pss)=λq=>(λq=>av pss q||((av pss 8||av pss 14)&&(av pss 9||av pss 15)&&(q==8||q==9))) q&&sb (λq=>av pss q||((av pss 8||av pss 14)&&(av pss 9||av pss 15)&&(q==8||q==9))) q:=by
  delta aZ;rw[q0,q1,q2];rfl
 have hc:=Bx (k:=k+1) (Lp hk) hR (S0:=S0) rfl (Ch hog) hQ2 (a:=a) (x3:=y3) (x4:=x4) (x6:=y6) hP2 m;rw[←hN] at hc;exact hc
theorem AG{R:List AV}(hR:Bd 1 R){ts:List Nat}{pss:List (List Nat)}(H:cT R ts pss)(hq:∀ps∈pss,∀p∈ps,p∈Qs):
  ∃R' r,bQ 1 R R'∧aR R' r (bh (aZ (av pss)))∧∀k S0 a b,2≤k→(∀X,ao ⟨ag R,S0++X⟩ a=O (b,pv ts))→(∀X,aP a b (pv ts) ⟨ag R,S0++X⟩=Z)→
   ∃ρ' X,ex pg ac (Fn pg ac k) kw [O (.ref 0),O a,U,U,U,U,U] ⟨ag R,S0⟩=O (O (.val (iv r)),ρ',⟨ag R',S0++[X]⟩):=by
 by_cases h0:(av pss 0||av pss 13||av pss 1)=Z
 ·have key:∃r:Nat,ve (av pss 0) (av pss 13) (av pss 1)=I9 r∧r<32∧bh (aZ (av pss))=[r]:=by
   delta ve aZ;cases q0:av pss 0
   ·cases q1:av pss 13
    ·cases q2:av pss 1
     ·rw[q0,q1,q2] at h0;cases h0
     ·exact⟨1,rfl,by exact nc,eH 1 (nc)⟩
    ·exact⟨13,rfl,by exact nc,eH 13 (nc)⟩
   ·exact⟨0,rfl,by exact nc,eH 0 (nc)⟩
  refine cG key λr k1 k2 k3=> ?_
  refine⟨R,r,.rfl' _,by rw[k3];exact rfl,λk S0 a b hk hs hok=> ?_⟩;obtain⟨k,rfl⟩:∃k',k=k'+1:=⟨k - 1,nq hk⟩
  obtain⟨y3,y6,got,e1,ht,_,_⟩:=iL (k:=k) (by exact JJ hk) hR H hq hok;unfold jo at e1;rw[k1] at ht;have hsq:=hs [.dict .int []];have hge:QQ ((0:Int)≤I9 r)=Z:=decide_eq_true (Ky r);have lo:=lL (it:= .var 1) (st:=⟨ag R,S0++[.dict .int []]⟩) (bz [] (by kernel_rfl)) hsq e1;have hge':af ac .ge ⟨ag R,S0++[.dict .int (gd got)]⟩ (.val (.int (I9 r))) (.val (.int 0))=O Z:=congrArg O hge;exact(gu (st':=⟨ag R,S0++[.dict .int (gd got)]⟩) [eS 1 lo,eC 0 ht,eB 0 hge'] (by kernel_rfl)).imp λ_ e=>⟨_,e⟩
 ·rw[JN] at h0;have htop:ve (av pss 0) (av pss 13) (av pss 1)= -1:=by
   simp only[KA] at h0;rw[h0.1.1,h0.1.2,h0.2];rfl
  have hl:=dp (aZ (av pss));have L1:(pv (bh (aZ (av pss)))).length<aA:=by unfold aA;rw[Jj];exact ny hl
  match hkept:bh (aZ (av pss)) with
  |[]=>
   refine⟨R,2,.rfl' _,rfl,λk S0 a b hk hs hok=> ?_⟩;obtain⟨k,rfl⟩:∃k',k=k'+1:=⟨k - 1,nq hk⟩
   obtain⟨y3,y6,got,e1,ht,hj,hc⟩:=iL (k:=k) (by exact JJ hk) hR H hq hok;have hc:=hc h0;unfold jo at e1;rw[htop] at ht;rw[hkept] at hc L1;have hsq:=hs [.dict .int []];have lo:=lL (it:= .var 1) (st:=⟨ag R,S0++[.dict .int []]⟩) (bz [] (by kernel_rfl)) hsq e1;have hcv:=hc .V (O (.val (.int (-1))));have tl:aK (⟨ag R,S0++[.dict .int (gd (jb got))]⟩:St) (.val (.lst []))=O N:=jO L1;exact(gu (st':=⟨ag R,S0++[.dict .int (gd (jb got))]⟩) [eS 1 lo,eC 0 ht,eC 1 hj,eX 0 hcv,eB 0 tl] (by kernel_rfl)).imp λ_ e=>⟨_,e⟩
  |[r]=>
   refine⟨R,r,.rfl' _,rfl,λk S0 a b hk hs hok=> ?_⟩;obtain⟨k,rfl⟩:∃k',k=k'+1:=⟨k - 1,nq hk⟩
   obtain⟨y3,y6,got,e1,ht,hj,hc⟩:=iL (k:=k) (JJ hk) hR H hq hok;have hc:=hc h0;unfold jo at e1;rw[htop] at ht;rw[hkept] at hc L1;have hsq:=hs [.dict .int []];have t1:∀st,aK st (.val (.lst [iv r]))=O Z:=λst=>jO L1
   have t2:∀st,aF ac .len st (.val (.lst [iv r]))=O (.val (.int 1)):=λst=>gk L1
   have t3:∀st,aL ac st (.val (.lst [iv r])) (.val (.int 0))=O (.val (iv r)):=λst=>rfl
   have lo:=lL (it:= .var 1) (st:=⟨ag R,S0++[.dict .int []]⟩) (bz [] (by kernel_rfl)) hsq e1;have hcv:=hc .V (O (.val (.int (-1))));exact(gu (st':=⟨ag R,S0++[.dict .int (gd (jb got))]⟩) [eS 1 lo,eC 0 ht,eC 1 hj,eX 0 hcv,eB 0 (t1 ⟨ag R,S0++[.dict .int (gd (jb got))]⟩),eV 0 (t2 ⟨ag R,S0++[.dict .int (gd (jb got))]⟩),eV 1 (t3 ⟨ag R,S0++[.dict .int (gd (jb got))]⟩)] (by kernel_rfl)).imp λ_ e=>⟨_,e⟩
  |p::q::ps=>
   refine aX (Bf hR (p:=p) (q:=q) (ps:=ps)) λR' r hE hT hp=> ?_
   refine⟨R',r,hE,hT,λk S0 a b hk hs hok=> ?_⟩;obtain⟨k,rfl⟩:∃k',k=k'+1:=⟨k - 1,nq hk⟩
   obtain⟨y3,y6,got,e1,ht,hj,hc⟩:=iL (k:=k) (by exact JJ hk) hR H hq hok;have hc:=hc h0;unfold jo at e1;rw[htop] at ht;rw[hkept] at hc L1 hl;have hsq:=hs [.dict .int []];have hp:=hp (k+1) (S0++[CO.dict .int (gd (jb got))]) (nc);have t1:∀st,aK st (.val (.lst (iv p::iv q::KF iv ps)))=O Z:=λst=>jO L1
   have t2:∀st,aF ac .len st (.val (.lst (iv p::iv q::KF iv ps)))=O (.val (.int (((ps.length+2:Nat):Int)))):=λst=>(gk L1).trans (by rw[show(pv (p::q::ps)).length=ps.length+2 from by rw[Jj];rfl])
   have t3:∀st,aF ac .tup st (.val (.lst (iv p::iv q::KF iv ps)))=O (.val (.tup (iv p::iv q::KF iv ps))):=λst=>yB L1
   have d2:QQ ((400:Int)<(((ps.length+2:Nat):Int)))=N:=by
    refine decide_eq_false ?_;simp only[JH] at hl;omega
   have lo:=lL (it:= .var 1) (st:=⟨ag R,S0++[.dict .int []]⟩) (bz [] (by kernel_rfl)) hsq e1;have hcv:=hc .V (O (.val (.int (-1))));have q1:af ac .eq ⟨ag R,S0++[.dict .int (gd (jb got))]⟩ (.val (.int (((ps.length+2:Nat):Int)))) (.val (.int 1))=O N:=Au (a:=ps.length+2) (c:=1) (by omega) _;have q2:af ac .gt ⟨ag R,S0++[.dict .int (gd (jb got))]⟩ (.val (.int (((ps.length+2:Nat):Int)))) (.val (.int 400))=O N:=congrArg O d2;exact(gu (st':=⟨ag R',S0++[.dict .int (gd (jb got))]⟩) [eS 1 lo,eC 0 ht,eC 1 hj,eX 0 hcv,eB 0 (t1 ⟨ag R,S0++[.dict .int (gd (jb got))]⟩),eV 0 (t2 ⟨ag R,S0++[.dict .int (gd (jb got))]⟩),eB 0 q1,eV 0 (t2 ⟨ag R,S0++[.dict .int (gd (jb got))]⟩),eB 0 q2,eV 0 (t3 ⟨ag R,S0++[.dict .int (gd (jb got))]⟩),eC 1 hp] (by kernel_rfl)).imp λ_ e=>⟨_,e⟩
theorem aQ{R:List AV}(hR:Bd 1 R){ts:List Nat}{pss:List (List Nat)}(H:cT R ts pss)(hq:∀ps∈pss,∀p∈ps,p∈Qs):
  ∃R' r,bQ 1 R R'∧aR R' r (bh (aZ (av pss)))∧aN 3 16 [.ref 0,.val (.lst (pv ts))] R (.val (iv r)) R'∧aN 3 16 [.ref 0,.val (.tup (pv ts))] R (.val (iv r)) R'∧
   ∀k S,3≤k→Fn pg ac k 16 [.ref 0,.loc S.length] ⟨ag R,S++[.list (pv ts)]⟩=O (.val (iv r),⟨ag R',S++[.list (pv ts)]⟩):=by
 refine aX (AG hR H hq) λR' r h1 h2 h3=> ?_
 refine⟨R',r,h1,h2,?_,?_,?_⟩
 ·refine aN.body (n:=2) (fd:=iz) (by kernel_rfl) rfl rfl λk hk=> ?_
  refine te (h3 k [] (.val (.lst (pv ts))) Z hk (λ_=>rfl) (λ_=>rfl)) λρ' X e=> ?_
  show sn (ex pg ac (Fn pg ac k) kw [O (.ref 0),O (.val (.lst (pv ts))),U,U,U,U,U] ⟨ag R,[]⟩) _ _;rw[e];exact⟨rfl,rfl⟩
 ·refine aN.body (n:=2) (fd:=iz) (by kernel_rfl) rfl rfl λk hk=> ?_
  refine te (h3 k [] (.val (.tup (pv ts))) N hk (λ_=>rfl) (λ_=>rfl)) λρ' X e=> ?_
  show sn (ex pg ac (Fn pg ac k) kw [O (.ref 0),O (.val (.tup (pv ts))),U,U,U,U,U] ⟨ag R,[]⟩) _ _;rw[e];exact⟨rfl,rfl⟩
 ·intro k S hk;obtain⟨k,rfl⟩:∃k',k=k'+1:=⟨k - 1,nq hk⟩
  have hseq:∀X,ao ⟨ag R,(S++[.list (pv ts)])++X⟩ (.loc S.length)=O (Z,pv ts):=λX=>by
   show(match((S++[CO.list (pv ts)])++X)[S.length]? with
    |some (.list l)=>O (Z,l)
    |_=>U)=_
   rw[Jy,Jx (JC _)];simp
  obtain⟨ρ',X,e⟩:=h3 k (S++[.list (pv ts)]) (.loc S.length) Z (JJ hk) hseq (λX=>by
   show(match ao ⟨ag R,(S++[.list (pv ts)])++X⟩ (.loc S.length) with
    |some (c,m)=>c==Z&&beqL m (pv ts)
    |none=>N)=Z
   rw[hseq];simp[beqL])
  have:=cV (f:=16) (fd:=iz) (as:=[.ref 0,.loc S.length]) (st:=⟨ag R,S++[.list (pv ts)]⟩) (by kernel_rfl) rfl rfl e rfl;rw[this,MA]
theorem aB(x:LV)(st:St):bv .V (O (x,st))=O ([x],st):=rfl
section
variable{n tg:Nat}{bs:List Bool}{e it cond:X}{ρ:Ρ}{R:List AV}{l:List Nat}{v:AV}{b:Bool}
theorem cZ{g:Nat→AV}(hv:ao ⟨ag R,[]⟩ (.val v)=O (b,pv l))(ht:tg<(bD bs ρ).length)(hl:l.length<1000000)(hR:Bd 0 R)
  (hit:∀k S,n≤k→ev pg ac (Fn pg ac k) it .V ρ ⟨ag R,S⟩=O ([.val v],⟨ag R,S⟩))
  (h:∀y∈l,∀R,Bd 0 R→∀k S,n≤k→ev pg ac (Fn pg ac k) e .V ((bD bs ρ).set tg (O (.val (iv y)))) ⟨ag R,S⟩=O ([.val (g y)],⟨ag R,S⟩)):
  ∀k S m,n≤k→ev pg ac (Fn pg ac k) (.comp N tg bs e it (.cst (.bool Z))) m ρ ⟨ag R,S⟩=bv m (O (.val (.lst (l.map g)),⟨ag R,S⟩)):=by
 refine aw λMz kz1=> ?_
 obtain⟨out,R1,hC,_,_,hev⟩:=ia (α:=Nat) (en:=iv) (Q:=λR y o R1=>R1=R∧o=if(λ_=>Z) y=Z then O (g y) else U) (c:=0) (λk _=>n≤k) hv ht (kR hl) (by rw[Ke];exact hR) (λk S hS=>hit k S (hS [])) (cond:= .cst (.bool Z)) (e:=e)
  (λy hy R2 hR2 _=>⟨O (g y),R2,R2,⟨rfl,rfl⟩,.rfl' _,λ_=>rfl,λk S hk=>⟨rfl,λa ha=>by cases ha;exact h y hy R2 hR2 k S hk⟩⟩)
 refine aO (dk (f:=λ_=>Z) hC) λe1 e2=> ?_
 cases e1;refine kz1 ?_;intro k S m hk;rw[hev k S m λ_=>hk,e2,KT.mpr (λ_ _=>rfl)]
theorem lN{c:Nat}{f:Nat→List Nat}(hv:ao ⟨ag R,[]⟩ (.val v)=O (b,pv l))(ht:tg<(bD bs ρ).length)(hl:l.length<1000000)(hR:Bd (c*l.length) R)(hf:∀y∈l,∀p∈f y,p∈Qs)
  (hit:∀k S,n≤k→ev pg ac (Fn pg ac k) it .V ρ ⟨ag R,S⟩=O ([.val v],⟨ag R,S⟩))
  (h:∀y∈l,∀R2,Bd c R2→wb R R2→∃R1 t,bQ c R2 R1∧aR R1 t (f y)∧∀k S,n≤k→ev pg ac (Fn pg ac k) e .V ((bD bs ρ).set tg (O (.val (iv y)))) ⟨ag R2,S⟩=O ([.val (iv t)],⟨ag R1,S⟩)):
  ∃R1 ts,bQ (c*l.length) R R1∧cT R1 ts (l.map f)∧∀k S m,n≤k→ev pg ac (Fn pg ac k) (.comp N tg bs e it (.cst (.bool Z))) m ρ ⟨ag R,S⟩=bv m (O (.val (.lst (pv ts)),⟨ag R1,S⟩)):=by
 refine aw λMz kz3=> ?_
 obtain⟨out,R1,hC,hE,_,hev⟩:=ia (α:=Nat) (en:=iv) (Q:=λR y o R1=>bQ c R R1∧∃t,o=O (iv t)∧aR R1 t (f y)) (c:=c) (λk _=>n≤k) hv ht (kR hl) hR (λk S hS=>hit k S (hS [])) (cond:= .cst (.bool Z)) (e:=e)
  (λy hy R2 hR2 hF=>by
   refine aX (h y hy R2 hR2 hF) λR3 t h1 h2 h3=> ?_
   exact⟨O (iv t),R2,R3,⟨h1,t,rfl,h2⟩,h1,(λq=>nomatch q),λk S hk=>⟨rfl,λa ha=>by cases ha;exact h3 k S hk⟩⟩)
 have key:∀{l:List Nat} {R out R1},(∀y∈l,∀p∈f y,p∈Qs)→gy (λR y o R1=>bQ c R R1∧∃t,o=O (iv t)∧aR R1 t (f y)) R l out R1→(∃c',bQ c' R R1)∧∃ts,out=pv ts∧cT R1 ts (l.map f):=by
  intro l R out R1 hf hC;induction hC with
  |nil R=>exact⟨⟨0,.rfl' _⟩,[],rfl,.nil⟩
  | @cons R R1 R2 y l o out h1 _ ih=>
   obtain⟨e1,t,rfl,h2⟩:=h1;obtain⟨⟨c',e2⟩,ts,rfl,h3⟩:=ih λz hz=>hf z (.tail _ hz)
   exact⟨⟨c+c',e1.trans e2 (JC _)⟩,t::ts,rfl,.cons (h2.ext e2) (hf y (.head _)) h3⟩
 obtain⟨_,ts,rfl,hT⟩:=key hf hC;refine kz3 ?_;exact⟨R1,ts,hE,hT,λk S m hk=>hev k S m λ_=>hk⟩
theorem eI{c:Nat}{p:Nat→Bool}(hv:ao ⟨ag R,[]⟩ (.val v)=O (b,pv l))(ht:tg<(bD bs ρ).length)(hl:l.length<1000000)(hR:Bd (c*l.length) R)
  (hit:∀k S,n≤k→ev pg ac (Fn pg ac k) it .V ρ ⟨ag R,S⟩=O ([.val v],⟨ag R,S⟩))
  (h:∀y∈l,∀R,Bd c R→∃R1,bQ c R R1∧∀k S,n≤k→ev pg ac (Fn pg ac k) cond .T ((bD bs ρ).set tg (O (.val (iv y)))) ⟨ag R,S⟩=O ([.val (.bool (p y))],⟨ag R1,S⟩)):
  ∃R1,bQ (c*l.length) R R1∧∀k S m,n≤k→ev pg ac (Fn pg ac k) (.comp N tg bs (.var tg) it cond) m ρ ⟨ag R,S⟩=bv m (O (.val (.lst (pv (l.filter p))),⟨ag R1,S⟩)):=by
 obtain⟨out,R1,hC,hE,_,hev⟩:=ia (α:=Nat) (en:=iv) (Q:=λR y o R1=>o=if p y then O (iv y) else U) (c:=c) (λk _=>n≤k) hv ht (kR hl) hR (λk S hS=>hit k S (hS [])) (cond:=cond) (e:= .var tg)
  (λy hy R2 hR2 _=>by
   refine ak (h y hy R2 hR2) λR3 h1 h2=> ?_
   refine⟨if p y then O (iv y) else U,R3,R3,rfl,h1,λ_=>rfl,λk S hk=>⟨?_,λa ha=> ?_⟩⟩
   ·rw[h2 k S hk];cases p y<;>rfl
   ·have:a=iv y:=by
     cases h:p y<;>rw[h] at ha
     ·exfalso;contradiction
     ·simpa using ha.symm
    subst this;rw[im,Kc (ht)];rfl)
 have key:∀{l:List Nat} {R out R1},gy (λR y o R1=>o=if p y then O (iv y) else U) R l out R1→out=pv (l.filter p):=by
  intro l R out R1 hC;induction hC with
  |nil R=>rfl
  | @cons R R1 R2 y l o out h1 _ ih=>
   rw[ih,h1,M1];cases p y<;>rfl
 rw[key hC] at hev;exact⟨R1,hE,λk S m hk=>hev k S m λ_=>hk⟩
end
noncomputable def one(n:Nat):List Nat:=if n=2 then[] else[n]
theorem qh(R:List AV)(n:Nat):aR R n (one n):=by
 delta one;by_cases h:n=2
 ·rw[if_pos h];exact h
 ·rw[if_neg h];exact rfl
noncomputable def un(pss:List (List Nat)):List Nat:=bh (aZ (av pss))
structure Kd(R:List AV)(t:Nat)(ps:List Nat):Prop where
 ty:aR R t ps
 q:∀p∈ps,p∈Qs
 l:ps.length≤32
theorem Kd.ext{c:Nat}{R R':List AV}(x:bQ c R R'){t:Nat}{ps:List Nat}(h:Kd R t ps):Kd R' t ps:=⟨h.ty.ext x,h.q,h.l⟩
theorem jl{P:Nat→Bool}{q:Nat}(h:aZ P q=Z):P q=Z∨q=8∨q=9:=by
 delta aZ at h;by_cases h0:P 0=Z
 ·rw[if_pos h0] at h;have:q=0:=by simpa using h
  subst this;exact .inl h0
 ·rw[if_neg h0] at h;by_cases h1:P 13=Z
  ·rw[if_pos h1] at h;have:q=13:=by simpa using h
   subst this;exact .inl h1
  ·rw[if_neg h1] at h;by_cases h2:P 1=Z
   ·rw[if_pos h2] at h;have:q=1:=by simpa using h
    subst this;exact .inl h2
   ·rw[if_neg h2] at h;simp only[I8,JL,beq_iff_eq] at h;rcases h.1 with h|h
    ·exact .inl h
    ·exact .inr h.2
theorem dO{pss:List (List Nat)}(h:∀ps∈pss,∀p∈ps,p∈Qs):∀p∈un pss,p∈Qs:=λp hp=>by
 rcases jl (bG.mp hp).2 with q|rfl|rfl
 ·delta av at q;rw[decide_eq_true_eq] at q;refine ak q λps h1 h2=> ?_
  exact h ps h1 p h2
 ·decide
 ·decide
theorem dS{R:List AV}{r:Nat}{pss:List (List Nat)}(h:∀ps∈pss,∀p∈ps,p∈Qs)(ht:aR R r (bh (aZ (av pss)))):Kd R r (un pss):=⟨ht,dO h,dp _⟩
theorem kA{fn n f:Nat}{g:Nat→Nat}(fd:FD)(hfd:pg.fd[fn]? =O fd)
  (hb:fd.body= %[.ret (.cal 16 %[.var 0,.comp N 2 [Z] (.cal f %[.var 0,.var 2|_]) (.cal 10 %[.var 0,.var 1|_]) (.cst (.bool Z))|_])|_]) (hnp:fd.np=2) (hdv:fd.dv=[]) (hnm:fd.nm.length=3)
  (hn:3≤n) (hg:∀q∈Qs,∀p∈one (g q),p∈Qs) (hr:∀q∈Qs,∀R,aN n f [.ref 0,.val (iv q)] R (.val (iv (g q))) R)
  {R:List AV} {t:Nat} {ps:List Nat} (h:Kd R t ps) (hR:Bd 1 R):
  ∃R' r,bQ 1 R R'∧Kd R' r (un (ps.map λq=>one (g q)))∧aN (n+1) fn [.ref 0,.val (iv t)] R (.val (iv r)) R':=by
 have hp:=be h.ty h.q hR.le;have hq:∀ps'∈ps.map (λq=>one (g q)),∀p∈ps',p∈Qs:=λps' hps p hpp=>by
  refine ak (Jv.mp hps) λq hq oz6=> ?_
  subst oz6;exact hg q (h.q q hq) p hpp
 have hc:=cZ (n:=n) (tg:=2) (bs:=[Z]) (e:= .cal f %[.var 0,.var 2|_]) (it:= .cal 10 %[.var 0,.var 1|_]) (ρ:=[O (.ref 0),O (.val (iv t)),U]) (R:=R) (l:=ps) (v:= .tup (pv ps)) (b:=N) (g:=λq=>iv (g q)) rfl (nc) (by have:=h.l;exact ny this) (hR.mono (nc))
  (λk S hk=>bz [eC 0 (hp k S (by lia))] (by kernel_rfl))
  (λy hy R2 hR2 k S hk=>bz [eC 0 (hr y (h.q y hy) R2 k S hk)] (by kernel_rfl))
 have hT:cT R (ps.map g) (ps.map λq=>one (g q)):=by
  have:∀l:List Nat,(∀q∈l,q∈Qs)→cT R (l.map g) (l.map λq=>one (g q)):=λl=>by
   induction l with
   |nil=>exactλ_=> .nil
   |cons q l ih=>exactλhl=> .cons (qh R _) (hg q (hl q (.head _))) (ih λz hz=>hl z (.tail _ hz))
  exact this ps h.q
 refine vH (aQ hR hT hq) λR' r h1 h2 h3 _ _=> ?_
 refine⟨R',r,h1,dS hq h2,aN.body (n:=n) hfd (by rw[hdv,hnp];rfl) rfl λk hk=> ?_⟩;rw[hb,hdv,hnm];have h3:=h3 k [] (JD hn hk);have hc:=hc k [] .V (hk);have hmap:ps.map (λq=>iv (g q))=pv (ps.map g):=by simp only[Mq];rfl
 rw[hmap] at hc;exact aC [eX 0 (hc.trans (aB _ _)),eC 0 h3] (by kernel_rfl)
theorem j2{R:List AV}{t:Nat}{ps:List Nat}(h:Kd R t ps)(hR:Bd 1 R):∃R' r,bQ 1 R R'∧Kd R' r (un (ps.map λq=>one (rH q)))∧aN 14 47 [.ref 0,.val (iv t)] R (.val (iv r)) R':=
 kA gD (by kernel_rfl) rfl rfl rfl rfl (nc) (by decide) (λq hq R=>DY hq R) h hR
theorem lE{R:List AV}{t:Nat}{ps:List Nat}(h:Kd R t ps)(hR:Bd 1 R):∃R' r,bQ 1 R R'∧Kd R' r (un (ps.map λq=>one (zm q)))∧aN 13 51 [.ref 0,.val (iv t)] R (.val (iv r)) R':=
 kA il (by kernel_rfl) rfl rfl rfl rfl (nc) (by decide) (λq hq R=>DI hq R) h hR
theorem dD{R:List AV}{t:Nat}{ps:List Nat}(h:Kd R t ps)(hR:Bd 1 R):∃R' r,bQ 1 R R'∧Kd R' r (un (ps.map λq=>one (nn q)))∧aN 13 44 [.ref 0,.val (iv t)] R (.val (iv r)) R':=
 kA eF (by kernel_rfl) rfl rfl rfl rfl (nc) (by decide) (λq hq R=>Du hq R) h hR
noncomputable def wd(w:Nat):List Nat:=match w with
 |0=>[115,116,114,105,110,103]
 |1=>[111,98,106,101,99,116]
 |2=>[117,110,100,101,102,105,110,101,100]
 |3=>[110,117,109,98,101,114]
 |4=>[102,117,110,99,116,105,111,110]
 |_=>[98,111,111,108,101,97,110]
noncomputable def GJ(f:Nat):Nat:=match f with
 |1=>0|2=>3|3=>5|4=>1|5=>2|_=>1
noncomputable def zo(q w:Nat)(y:Bool):Nat:=
 if q=0∨q=1∨q=11 then(if y then[6,q,if q=11 then 2 else 4,7,q,12].getD w 0 else q)
 else if q=10 then(if y then(if w=1∨w=4 then 10 else 2) else 10)
 else if(GJ (ah q)==w)==y then q else 2
noncomputable def Tq:List (Nat×Nat×Bool):=(Qs.flatMap λq=>[0,1,2,3,4,5].flatMap λw=>[(q,w,Z),(q,w,N)]).filter λx=> !(x.1==1&&x.2.1==1&&x.2.2)
theorem Ap(k:Nat)(R S):Tq.map (λx=>Fn pg ac (k+14) 74 [.ref 9,.val (iv x.1),.val (.str (wd x.2.1)),.val (.bool x.2.2),.val (.int 0)] ⟨ag R,S⟩)=Tq.map (λx=>O (.val (iv (zo x.1 x.2.1 x.2.2)),⟨ag R,S⟩)):=by kernel_rfl
noncomputable def g5(q w:Nat)(y:Bool):List Nat:=if q=1∧w=1∧y=Z then[5,10] else if zo q w y=12 then[8,9] else one (zo q w y)
theorem Ib(R:List AV):aR R 12 [8,9]:=by
 show aE (bO R) (lX [8,9])=O (iv 12);unfold bO;rw[ci];have:aE l5 (lX [8,9])=O (iv 12):=by kernel_rfl
 rw[this];rfl
theorem aR.ne{R:List AV}{t c:Nat}{ps:List Nat}(h:aR R t ps)(hc:c∈[0,1,4,5,13])(hq:∀p∈ps,p∈Qs)(hR:R.length≤900000):(t=c↔ps=[c]):=by
 match ps,h with
 |[],h=>
  have h:t=2:=h;subst h;simp only[Jh,JO,or_false] at hc;rcases hc with rfl|rfl|rfl|rfl|rfl<;>simp
 |[p],h=>
  have h:t=p:=h;subst h;simp
 |p::q::ps,h=>
  refine⟨λe=> ?_,λe=>nomatch e⟩;exfalso;refine cI (h.row hR) λ_ h2 _=> ?_
  subst e;have h3:(bc++R)[t]? =bc[t]? :=by
   have h4:bc.length=32:=by kernel_rfl
   refine Jz ?_;simp only[Jh,JO,or_false] at hc;omega
  rw[h3] at h2;simp only[Jh,JO,or_false] at hc;rcases hc with rfl|rfl|rfl|rfl|rfl<;>cases h2
theorem vm(n k:Nat)(R S):Fn pg ac (k+3) 39 [.ref 0,.val (.tup [iv 1,iv (n+32)])] ⟨ag R,S⟩=O (.val (iv (n+32)),⟨ag R,S⟩):=by kernel_rfl
theorem BB{R:List AV}(hR:Bd 1 R){q w:Nat}(hq:q∈Qs)(hw:w<6)(y:Bool):∃R1 t,bQ 1 R R1∧aR R1 t (g5 q w y)∧aN 15 74 [.ref 9,.val (iv q),.val (.str (wd w)),.val (.bool y),.val (.int 0)] R (.val (iv t)) R1:=by
 by_cases h:q=1∧w=1∧y=Z
 ·refine cI h λoz4 oz5 oz6=> ?_
  subst oz4;subst oz5;subst oz6;obtain⟨R1,t,h1,h2,_,h3,_⟩:=aQ hR (ts:=[10,5]) (pss:=[[10],[5]]) (.cons rfl (by decide) (.cons rfl (by decide) .nil)) (by decide);have hun:bh (aZ (av [[10],[5]]))=[5,10]:=by decide+kernel
  rw[hun] at h2;obtain⟨n,rfl⟩:∃n,t=n+32:=by
   have h4:aE (bO R1) (lX [5,10])=O (iv t):=h2;unfold bO at h4;rw[ci] at h4;have h5:aE l5 (lX [5,10])=U:=by kernel_rfl
   rw[h5] at h4;refine ak (kl _ _ _ _ h4) λi e _=> ?_
   exact⟨i,by rw[iY e];exact Kh _ _⟩
  refine⟨R1,n+32,h1,h2,?_⟩;refine aN.body (n:=14) (fd:=gF) (by kernel_rfl) rfl rfl λk hk=> ?_
  have hpt:aN 5 65 [.ref 0,.val (iv 1),.val (.str (wd 1)),.val (.bool Z)] R (.val (iv (n+32))) R1:=by
   refine aN.body (n:=4) (fd:=dg) (by kernel_rfl) rfl rfl λk hk=> ?_
   obtain⟨k,rfl⟩:∃k',k=k'+3:=⟨k - 3,nq hk⟩
   have e2:=vm n k R1 [];have e3:Fn pg ac (k+3) 16 [.ref 0,.val (.tup [.int 10,.int 5])] ⟨ag R,[]⟩=O (.val (iv (n+32)),⟨ag R1,[]⟩):=h3 (k+3) [] (nc);refine aC [eC 7 e3,eC 1 e2] ?_;kernel_rfl
  obtain⟨k,rfl⟩:∃k',k=k'+2:=⟨k - 2,nq hk⟩
  have e3:=hpt (k+2) [] (nl hk);refine aC [eC 4 e3] ?_;kernel_rfl
 ·have hx:(q,w,y)∈Tq:=by
   have:∀q∈Qs,∀w∈[0,1,2,3,4,5],∀y∈[Z,N],¬(q=1∧w=1∧y=Z)→(q,w,y)∈Tq:=by decide+kernel
   refine this q hq w (by simp only[Jh,JO,or_false];exact HJ hw) y (by cases y<;>decide) h
  refine⟨R,zo q w y,.rfl' _,?_,.of λk S=>aq (Ap (k+1) R S) (q,w,y) hx⟩;unfold g5;rw[if_neg h];by_cases h12:zo q w y=12
  ·rw[if_pos h12,h12];exact Ib R
  ·rw[if_neg h12];exact qh R _
theorem gb(k:Nat)(v:AV)(R S):Fn pg ac (k+1) 4 [.ref 9,.val v] ⟨ag R,S⟩=O (.val v,⟨ag R,S⟩):=by kernel_rfl
theorem E3(st:St):∀w,w<6→af ac .inn st (.val (.str (wd w))) (.val (.tup [.str [117,110,100,101,102,105,110,101,100],.str [111,98,106,101,99,116]]))=O (w==2||w==1)
 |0,_=>by kernel_rfl
 |1,_=>by kernel_rfl
 |2,_=>by kernel_rfl
 |3,_=>by kernel_rfl
 |4,_=>by kernel_rfl
 |5,_=>by kernel_rfl
 |_+6,h=>by rfl
theorem HD(st:St):∀w,w<6→af ac .eq st (.val (.str (wd w))) (.val (.str [117,110,100,101,102,105,110,101,100]))=O (w==2)
 |0,_=>by kernel_rfl
 |1,_=>by kernel_rfl
 |2,_=>by kernel_rfl
 |3,_=>by kernel_rfl
 |4,_=>by kernel_rfl
 |5,_=>by kernel_rfl
 |_+6,h=>by rfl
theorem oa{q w:Nat}(hq:q∈Qs)(hw:w<6)(y:Bool):∀p∈g5 q w y,p∈Qs:=by
 have:∀q∈Qs,∀w∈[0,1,2,3,4,5],∀y∈[Z,N],∀p∈g5 q w y,p∈Qs:=by decide+kernel
 exact this q hq w (by simp only[Jh,JO,or_false];exact HJ hw) y (by cases y<;>decide)
noncomputable def uZ(ps:List Nat)(w:Nat)(y:Bool):List Nat:=
 if ps=[1]∧y=N∧(w=2∨w=1) then un [[11],[if w=2 then 5 else 4]] else un (ps.map λq=>g5 q w y)
theorem bp{ps:List Nat}{f:Nat→List Nat}(h:∀q∈ps,∀p∈f q,p∈Qs):∀ps'∈ps.map f,∀p∈ps',p∈Qs:=λps' hps p hpp=>by
 refine ak (Jv.mp hps) λq hq oz3=> ?_
 subst oz3;exact h q hq p hpp
theorem r5{R:List AV}{t:Nat}{ps:List Nat}(h:Kd R t ps)(hR:Bd 33 R){w:Nat}(hw:w<6)(y:Bool):
  ∃R' r,bQ 33 R R'∧Kd R' r (uZ ps w y)∧aN 16 75 [.ref 9,.val (iv t),.val (.str (wd w)),.val (.bool y),.val (.int 0)] R (.val (iv r)) R':=by
 have h1:=h.ty.ne (c:=1) (by decide) h.q hR.le;by_cases hA:ps=[1]∧y=N∧(w=2∨w=1)
 ·obtain⟨hp,rfl,hw2⟩:=hA;have ht:t=1:=h1.mpr hp;subst ht;obtain⟨R',r,e1,e2,_,e3,_⟩:=aQ (hR.mono (nc)) (ts:=[11,if w=2 then 5 else 4]) (pss:=[[11],[if w=2 then 5 else 4]]) (.cons rfl (by decide) (.cons rfl (by split<;>decide) .nil)) (by split<;>decide);refine⟨R',r,e1.mono (nc),?_,?_⟩
  ·unfold uZ;rw[if_pos ⟨hp,rfl,hw2⟩];exact dS (by split<;>decide) e2
  ·refine aN.body (n:=15) (fd:=da) (by kernel_rfl) rfl rfl λk hk=> ?_
   obtain⟨k,rfl⟩:∃k',k=k'+1:=⟨k - 1,nq hk⟩
   have f1:=gb k (iv 1) R [];have i1:(I9 1=(1:Int))=True:=eq_true rfl;have g1:=E3 ⟨ag R,[]⟩ w hw;have g2:=HD ⟨ag R,[]⟩ w hw;rcases hw2 with rfl|rfl
   ·have e3:Fn pg ac (k+1) 16 [.ref 0,.val (.tup [.int 11,.int 5])] ⟨ag R,[]⟩=O (.val (iv r),⟨ag R',[]⟩):=e3 (k+1) [] (nl hk);have b1:((2:Nat)==2||(2:Nat)==1)=Z:=rfl;have b2:((2:Nat)==2)=Z:=rfl;rw[b1] at g1;rw[b2] at g2
    (refine aC [eC 0 f1,eB 3 g1,eB 0 g2,eC 1 e3] ?_;kernel_rfl)
   ·have e3:Fn pg ac (k+1) 16 [.ref 0,.val (.tup [.int 11,.int 4])] ⟨ag R,[]⟩=O (.val (iv r),⟨ag R',[]⟩):=e3 (k+1) [] (nl hk);have b1:((1:Nat)==2||(1:Nat)==1)=Z:=rfl;have b2:((1:Nat)==2)=N:=rfl;rw[b1] at g1;rw[b2] at g2
    (refine aC [eC 0 f1,eB 3 g1,eB 0 g2,eC 1 e3] ?_;kernel_rfl)
 ·have hp:=be h.ty h.q hR.le;have hl:=h.l;obtain⟨R1,ts,e1,e2,e3⟩:=lN (n:=15) (c:=1) (tg:=6) (bs:=[Z,N,Z,Z,Z]) (e:= .cal 74 %[.var 0,.var 6,.var 2,.var 3,.var 4|_]) (it:= .var 5)
   (ρ:=[O (.ref 9),O (.val (iv t)),O (.val (.str (wd w))),O (.val (.bool y)),O (.val (.int 0)),O (.val (.tup (pv ps))),U]) (R:=R) (l:=ps) (v:= .tup (pv ps)) (b:=N) (f:=λq=>g5 q w y) rfl (by show 6<7;exact nc) (ny hl) (hR.mono (BN hl)) (λq hq=>oa (h.q q hq) hw y)
   (λk S hk=>by(refine bz [] ?_;kernel_rfl))
   (λq hq R2 hR2 _=>by
    obtain⟨R3,t3,a1,a2,a3⟩:=BB hR2 (h.q q hq) hw y;refine⟨R3,t3,a1,a2,λk S hk=> ?_⟩;have a3:=a3 k S hk
    (refine bz [eC 0 a3] ?_;kernel_rfl))
  have hq:=bp (ps:=ps) (f:=λq=>g5 q w y) λq hq=>oa (h.q q hq) hw y
  obtain⟨R',r,u1,u2,u3,_,_⟩:=aQ (hR.ext e1 (b:=1) (nx hl)) e2 hq;refine⟨R',r,e1.trans u1 (nx hl),?_,?_⟩
  ·unfold uZ;rw[if_neg hA];exact dS hq u2
  ·refine aN.body (n:=15) (fd:=da) (by kernel_rfl) rfl rfl λk hk=> ?_
   have f1:Fn pg ac k 4 [.ref 9,.val (iv t)] ⟨ag R,[]⟩=O (.val (iv t),⟨ag R,[]⟩):=by
    obtain⟨k,rfl⟩:∃k',k=k'+1:=⟨k - 1,nq hk⟩
    exact gb k _ R []
   have p1:=hp k [] (nl hk);have c1:=e3 k [] .V hk;have u3:=u3 k [] (nl hk);have g1:=E3 ⟨ag R,[]⟩ w hw;by_cases ht:t=1
   ·have hps:=h1.mp ht;subst ht;have i1:(I9 1=(1:Int))=True:=eq_true rfl;cases y with
    |true=>
     (refine aC [eC 0 f1,eC 2 p1,eX 0 ((c1).trans (aB _ _)),eC 0 u3] ?_;kernel_rfl)
    |false=>
     have b1:(w==2||w==1)=N:=by
      cases hb:(w==2||w==1)
      ·rfl
      ·exact absurd ⟨hps,rfl,by simpa using hb⟩ hA
     rw[b1] at g1
     (refine aC [eC 0 f1,eB 3 g1,eC 0 p1,eX 0 ((c1).trans (aB _ _)),eC 0 u3] ?_;kernel_rfl)
   ·have i1:(I9 t=(1:Int))=False:=eq_false λe=>ht (by injection e)
    (refine aC [eC 0 f1,eB 0 ((Au ht) zz),eC 0 p1,eX 0 ((c1).trans (aB _ _)),eC 0 u3] ?_;kernel_rfl)
theorem sd{R:List AV}{t:Nat}{ps:List Nat}(h:Kd R t ps)(hR:Bd 33 R){w:Nat}(hw:w<6)(y:Bool):
  ∃R' r,bQ 33 R R'∧Kd R' r (uZ ps w y)∧aN 17 76 [.ref 9,.val (iv t),.val (.str (wd w)),.val (.bool y)] R (.val (iv r)) R':=by
 refine aX (r5 h hR hw y) λR' r h1 h2 h3=> ?_
 refine⟨R',r,h1,h2,aN.body (n:=16) (fd:=fk) (by kernel_rfl) rfl rfl λk hk=> ?_⟩;have h3:=h3 k [] hk
 (refine aC [eC 0 h3] ?_;kernel_rfl)
noncomputable def xT(ps:List Nat)(y:Bool):List Nat:=if y then un ((un (ps.map λq=>one (rH q))).map λq=>one (nn q)) else un (ps.map λq=>one (zm q))
theorem tq{R:List AV}{t:Nat}{ps:List Nat}(h:Kd R t ps)(hR:Bd 2 R)(y:Bool):
  ∃R' r,bQ 2 R R'∧Kd R' r (xT ps y)∧aN 16 73 [.ref 9,.val (iv t),.val (.bool y)] R (.val (iv r)) R':=by
 have key:∃R' r,bQ 2 R R'∧Kd R' r (xT ps y)∧aN 15 59 [.ref 0,.val (iv t),.val (.bool y)] R (.val (iv r)) R':=by
  cases y with
  |false=>
   refine aX (lE h (hR.mono (nc))) λR' r h1 h2 h3=> ?_
   refine⟨R',r,h1.mono (nc),h2,aN.body (n:=14) (fd:=bW) (by kernel_rfl) rfl rfl λk hk=> ?_⟩;have h3:=h3 k [] (nl hk)
   (refine aC [eC 1 h3] ?_;kernel_rfl)
  |true=>
   refine aX (j2 h (hR.mono (nc))) λR1 r1 h1 h2 h3=> ?_
   refine aX (dD h2 (hR.ext h1 (b:=1) (nc))) λR' r g1 g2 g3=> ?_
   refine⟨R',r,h1.trans g1 (nc),g2,aN.body (n:=14) (fd:=bW) (by kernel_rfl) rfl rfl λk hk=> ?_⟩;have h3:=h3 k [] (by exact hk);have g3:=g3 k [] (nl hk)
   (refine aC [eC 1 h3,eC 0 g3] ?_;kernel_rfl)
 refine aX key λR' r h1 h2 h3=> ?_
 refine⟨R',r,h1,h2,aN.body (n:=15) (fd:=fh) (by kernel_rfl) rfl rfl λk hk=> ?_⟩;obtain⟨k,rfl⟩:∃k',k=k'+1:=⟨k - 1,nq hk⟩
 have h3:=h3 (k+1) [] (by exact hk);have f1:=gb k (iv t) R []
 (refine aC [eC 0 f1,eC 0 h3] ?_;kernel_rfl)
theorem wy:∀q,(eJ q).dep≤8:=FC (P:=λa=>a.dep≤8) (by decide+kernel)
noncomputable def HZ(a b:Nat)(va vb:AV)(st:Bool):Bool:=
 if a==0 then Z else if b==0 then Z else if a==b then(AV.eqv va (.tup [])||(AV.eqv vb (.tup [])||AV.eqv va vb))
 else if ew a&&ew b then(!st|| !(a==4||b==4)) else(!st&&(ue a&&ue b))
noncomputable def pm(q o:Nat)(st:Bool):Bool:=HZ (ah q) (ah o) (eJ q) (eJ o) st
theorem si{q o:Nat}(hq:q∈Qs)(ho:o∈Qs)(R)(st:Bool):aN 5 56 [.ref 0,.val (iv q),.val (iv o),.val (.bool st)] R (.val (.bool (pm q o st))) R:=by
 refine aN.body (n:=4) (fd:=gG) (by kernel_rfl) rfl rfl λk hk=> ?_
 have h1:=bF hq R k [] (nl hk);have h2:=bF ho R k [] (nl hk);have h3:=kX hq R k [] (nl hk);have h4:=kX ho R k [] (nl hk);have d1:=wy o;have z0:∀st a,af ac .eq st (.val (iv a)) (.val (.int 0))=O (a==0):=λst a=>fi a 0
 have z1:∀st a,af ac .eq st (.val a) (.val (.tup []))=O (AV.eqv a (.tup [])):=λst a=>qN (by decide)
 have z2:∀st a,af ac .eq st (.val a) (.val (eJ o))=O (AV.eqv a (eJ o)):=λst a=>qN d1
 have z3:∀st,af ac .eq st (.val (iv (ah q))) (.val (iv (ah o)))=O (ah q==ah o):=λst=>fi _ _
 have z4:∀st,af ac .nin st (.val (.int 4)) (.val (.tup [iv (ah q),iv (ah o)]))=O (!(ah q==4||ah o==4)):=λst=>AL _ _
 unfold pm HZ;generalize ah q=a at h1 z3 z4 ⊢;generalize ah o=b at h2 z3 z4 ⊢;generalize eJ q=va at h3 ⊢;generalize eJ o=vb at h4 z2 ⊢;have z5:∀st,af ac .inn st (.val (iv a)) (.val (.tup [.int 4,.int 5,.int 6]))=O (ew a):=λst=>lU a
 have z6:∀st,af ac .inn st (.val (iv b)) (.val (.tup [.int 4,.int 5,.int 6]))=O (ew b):=λst=>lU b
 have z7:∀st,af ac .inn st (.val (iv a)) (.val (.tup [.int 1,.int 2,.int 3]))=O (ue a):=λst=>pB a
 have z8:∀st,af ac .inn st (.val (iv b)) (.val (.tup [.int 1,.int 2,.int 3]))=O (ue b):=λst=>pB b
 have z0a:=λst=>z0 st a
 have z0b:=λst=>z0 st b
 have z1a:=λst=>z1 st va
 have z1b:=λst=>z1 st vb
 have z2a:=λst=>z2 st va
 clear z0 z1 z2;generalize(a==0)=a0 at z0a ⊢;generalize(b==0)=b0 at z0b ⊢;generalize(a==b)=ab at z3 ⊢;generalize(a==4||b==4)=a4 at z4 ⊢;generalize ew a=na at z5 ⊢;generalize ew b=nb at z6 ⊢;generalize ue a=ca at z7 ⊢;generalize ue b=cb at z8 ⊢;generalize AV.eqv va (.tup [])=e1 at z1a ⊢;generalize AV.eqv vb (.tup [])=e2 at z1b ⊢;generalize AV.eqv va vb=e3 at z2a ⊢;cases a0 with
 |true=>(refine aC [eC 0 h1,eC 0 h2,eB 0 (z0a zz)] ?_;kernel_rfl)
 |false=>
  cases b0 with
  |true=>(refine aC [eC 0 h1,eC 0 h2,eB 0 (z0a zz),eB 0 (z0b zz)] ?_;kernel_rfl)
  |false=>
   cases ab with
   |true=>
    cases e1<;>cases e2
    ·(refine aC [eC 0 h1,eC 0 h2,eB 0 (z0a zz),eB 0 (z0b zz),eB 0 (z3 zz),eC 0 h3,eC 0 h4,eB 1 (z1a zz),eB 2 (z1b zz),eB 1 (z2a zz)] ?_;kernel_rfl)
    ·(refine aC [eC 0 h1,eC 0 h2,eB 0 (z0a zz),eB 0 (z0b zz),eB 0 (z3 zz),eC 0 h3,eC 0 h4,eB 1 (z1a zz),eB 2 (z1b zz)] ?_;kernel_rfl)
    ·(refine aC [eC 0 h1,eC 0 h2,eB 0 (z0a zz),eB 0 (z0b zz),eB 0 (z3 zz),eC 0 h3,eC 0 h4,eB 1 (z1a zz)] ?_;kernel_rfl)
    ·(refine aC [eC 0 h1,eC 0 h2,eB 0 (z0a zz),eB 0 (z0b zz),eB 0 (z3 zz),eC 0 h3,eC 0 h4,eB 1 (z1a zz)] ?_;kernel_rfl)
   |false=>
    cases na<;>cases nb<;>cases st<;>cases ca
    ·(refine aC [eC 0 h1,eC 0 h2,eB 0 (z0a zz),eB 0 (z0b zz),eB 0 (z3 zz),eB 0 (z5 zz),eB 2 (z7 zz)] ?_;kernel_rfl)
    ·(refine aC [eC 0 h1,eC 0 h2,eB 0 (z0a zz),eB 0 (z0b zz),eB 0 (z3 zz),eB 0 (z5 zz),eB 2 (z7 zz),eB 1 (z8 zz)] ?_;kernel_rfl)
    ·(refine aC [eC 0 h1,eC 0 h2,eB 0 (z0a zz),eB 0 (z0b zz),eB 0 (z3 zz),eB 0 (z5 zz)] ?_;kernel_rfl)
    ·(refine aC [eC 0 h1,eC 0 h2,eB 0 (z0a zz),eB 0 (z0b zz),eB 0 (z3 zz),eB 0 (z5 zz)] ?_;kernel_rfl)
    ·(refine aC [eC 0 h1,eC 0 h2,eB 0 (z0a zz),eB 0 (z0b zz),eB 0 (z3 zz),eB 0 (z5 zz),eB 2 (z7 zz)] ?_;kernel_rfl)
    ·(refine aC [eC 0 h1,eC 0 h2,eB 0 (z0a zz),eB 0 (z0b zz),eB 0 (z3 zz),eB 0 (z5 zz),eB 2 (z7 zz),eB 1 (z8 zz)] ?_;kernel_rfl)
    ·(refine aC [eC 0 h1,eC 0 h2,eB 0 (z0a zz),eB 0 (z0b zz),eB 0 (z3 zz),eB 0 (z5 zz)] ?_;kernel_rfl)
    ·(refine aC [eC 0 h1,eC 0 h2,eB 0 (z0a zz),eB 0 (z0b zz),eB 0 (z3 zz),eB 0 (z5 zz)] ?_;kernel_rfl)
    ·(refine aC [eC 0 h1,eC 0 h2,eB 0 (z0a zz),eB 0 (z0b zz),eB 0 (z3 zz),eB 0 (z5 zz),eB 0 (z6 zz),eB 2 (z7 zz)] ?_;kernel_rfl)
    ·(refine aC [eC 0 h1,eC 0 h2,eB 0 (z0a zz),eB 0 (z0b zz),eB 0 (z3 zz),eB 0 (z5 zz),eB 0 (z6 zz),eB 2 (z7 zz),eB 1 (z8 zz)] ?_;kernel_rfl)
    ·(refine aC [eC 0 h1,eC 0 h2,eB 0 (z0a zz),eB 0 (z0b zz),eB 0 (z3 zz),eB 0 (z5 zz),eB 0 (z6 zz)] ?_;kernel_rfl)
    ·(refine aC [eC 0 h1,eC 0 h2,eB 0 (z0a zz),eB 0 (z0b zz),eB 0 (z3 zz),eB 0 (z5 zz),eB 0 (z6 zz)] ?_;kernel_rfl)
    ·(refine aC [eC 0 h1,eC 0 h2,eB 0 (z0a zz),eB 0 (z0b zz),eB 0 (z3 zz),eB 0 (z5 zz),eB 0 (z6 zz)] ?_;kernel_rfl)
    ·(refine aC [eC 0 h1,eC 0 h2,eB 0 (z0a zz),eB 0 (z0b zz),eB 0 (z3 zz),eB 0 (z5 zz),eB 0 (z6 zz)] ?_;kernel_rfl)
    ·(refine aC [eC 0 h1,eC 0 h2,eB 0 (z0a zz),eB 0 (z0b zz),eB 0 (z3 zz),eB 0 (z5 zz),eB 0 (z6 zz),eB 3 (z4 zz)] ?_;kernel_rfl)
    ·(refine aC [eC 0 h1,eC 0 h2,eB 0 (z0a zz),eB 0 (z0b zz),eB 0 (z3 zz),eB 0 (z5 zz),eB 0 (z6 zz),eB 3 (z4 zz)] ?_;kernel_rfl)
noncomputable def Qo:List Nat:=[10,18,28,29,30,31]
noncomputable def Po:List (Nat×Nat):=(Qo.flatMap λq=>Qo.map λo=>(q,o)).filter λx=> !(x.1==x.2||(x.1==28&&x.2==29)||(x.1==29&&x.2==28))
theorem yW(k:Nat)(R S):Qo.map (λq=>Fn pg ac (k+4) 36 [.ref 0,.val (iv q)] ⟨ag R,S⟩)=Qo.map (λq=>O (.val (.tup [iv q]),⟨ag R,S⟩)):=by kernel_rfl
theorem BF(k:Nat)(R S):Qo.map (λq=>Fn pg ac (k+4) 20 [.ref 0,.val (iv q)] ⟨ag R,S⟩)=Qo.map (λq=>O (.val (iv q),⟨ag R,S⟩)):=by kernel_rfl
theorem Fw(k:Nat)(R S):Po.map (λx=>Fn pg ac (k+14) 35 [.ref 0,.val (.lst [iv x.1]),.val (iv x.2)] ⟨ag R,S⟩)=Po.map (λx=>O (.val (.lst [iv x.1,iv x.2]),⟨ag R,S⟩)):=by kernel_rfl
noncomputable def gO(q o:Nat):AV:= .tup [.int 7,.tup [iv q,iv o]]
theorem q8(q o:Nat):aU .tup (gO q o)=Z:=by kernel_rfl
theorem uI(q o:Nat):aE l5 (gO q o)=U:=by kernel_rfl
theorem w9{R:List AV}{r v:AV}(hp:aE l5 r=U)(h:aE (bO R) r=O v):∃n,v=iv (n+32)∧(bc++R)[n+32]? =O r:=by
 refine ak (tE h) λi e hi=> ?_
 unfold bO at h;rw[ci,hp] at h;refine ak (kl _ _ _ _ h) λj e2 _=> ?_
 have:i=j+32:=by have:=iY (e.symm.trans e2);omega
 subst this;exact⟨j,e,hi⟩
theorem wY{R:List AV}(hR:Bd 1 R)(q o:Nat):∃R' n,bQ 1 R R'∧aE (bO R') (gO q o)=O (iv (n+32))∧aN 1 1 [.ref 0,.val (gO q o)] R (.val (iv (n+32))) R':=by
 cases h:aE (bO R) (gO q o) with
 |some v=>
  refine ak (w9 (uI q o) h) λn e _=> ?_
  subst e;exact⟨R,n,.rfl' _,h,t6 (q8 q o) h⟩
 |none=>
  refine⟨R++[gO q o],R.length,⟨[_],rfl,JC _,λr hr=>by rw[Ja.mp hr];rfl⟩,?_,?_⟩
  ·rw[xC h,Kh]
  ·have:=uG (q8 q o) h hR.le
   rwa [Kh 32] at this
theorem t4{x:Nat×Nat}(h:x∈Po):x.1∈Qo∧x.2∈Qo∧x.1≠x.2:=by
 have:∀x∈Po,x.1∈Qo∧x.2∈Qo∧x.1≠x.2:=by decide+kernel
 exact this x h
theorem kP{R:List AV}(hR:Bd 1 R){q o:Nat}(h:(q,o)∈Po):∃R' n,bQ 1 R R'∧aE (bO R') (gO q o)=O (iv (n+32))∧aN 16 37 [.ref 0,.val (iv q),.val (iv o)] R (.val (iv (n+32))) R':=by
 refine aX (wY hR q o) λR' n h1 h2 h3=> ?_
 refine cI (t4 h) λhq ho _=> ?_
 refine⟨R',n,h1,h2,aN.body (n:=15) (fd:=eR) (by kernel_rfl) rfl rfl λk hk=> ?_⟩;obtain⟨k,rfl⟩:∃k',k=k'+14:=⟨k - 14,nq hk⟩
 have m1:=λS=>aq (yW (k+10) R S) q hq
 have m2:=λS=>aq (yW (k+10) R S) o ho
 have r1:=λS=>aq (BF (k+10) R S) q hq
 have l1:=λS=>aq (Fw k R S) (q,o) h
 have p1:=h3 (k+14) [] (nc);have hc1:=cZ (n:=k+14) (tg:=4) (bs:=[]) (e:= .var 4) (it:= .cal 36 %[.var 0,.var 1|_]) (ρ:=[O (.ref 0),O (.val (iv q)),O (.val (iv o)),U,U]) (R:=R) (l:=[q]) (v:= .tup [iv q]) (b:=N) (g:=iv) rfl (by show 4<5;exact nc) (by simp) (hR.mono (nc))
  (λk' S hk'=>by
   obtain⟨j,rfl⟩:∃j,k'=j+14:=⟨k' - 14,nq hk'⟩
   have m1:=aq (yW (j+10) R S) q hq
   (refine bz [eC 0 m1] ?_;kernel_rfl))
  (λy hy R2 hR2 k S hk=>by(refine bz [] ?_;kernel_rfl))
 have hc2:=cZ (n:=k+14) (tg:=4) (bs:=[Z]) (e:= .cal 20 %[.var 0,.var 4|_]) (it:= .var 3) (ρ:=[O (.ref 0),O (.val (iv q)),O (.val (iv o)),O (.val (.lst [iv q,iv o])),O (.val (iv o))]) (R:=R) (l:=[q,o]) (v:= .lst [iv q,iv o]) (b:=Z) (g:=iv) rfl (by show 4<5;exact nc) (by simp) (hR.mono (nc))
  (λk' S hk'=>by(refine bz [] ?_;kernel_rfl))
  (λy hy R2 hR2 k' S hk'=>by
   obtain⟨j,rfl⟩:∃j,k'=j+4:=⟨k' - 4,nq hk'⟩
   have hy2:y∈Qo:=by
    rcases Jh.mp hy with rfl|hy
    ·exact hq
    ·rw[Ja.mp hy];exact ho
   have r1:=aq (BF j R2 S) y hy2
   (refine bz [eC 0 r1] ?_;kernel_rfl))
 have hc1:=hc1 (k+14) [] .V (by exact JC _);have hc2:=λm=>hc2 (k+14) [] m (by exact JC _)
 have n2:∀st,aF ac .len st (.val (.lst [iv q,iv o]))=O (.val (.int 2)):=λst=>gk (by simp[aA])
 have n3:∀st,aF ac .tup st (.val (.lst [iv q,iv o]))=O (.val (.tup [iv q,iv o])):=λst=>yB (by simp[aA])
 have m2:=m2 [];have l1:=l1 [];unfold gO at p1
 (refine aC [eX 0 ((hc1).trans (aB _ _)),eL 0,eC 0 m2,eC 0 l1,eV 1 (n2 zz),eX 1 (((hc2) .V).trans (aB _ _)),eV 0 (n3 zz),eC 1 p1] ?_;kernel_rfl)
section
variable{R:List AV}(hR:Bd 0 R){n q o:Nat}(h:aE (bO R) (gO q o)=O (iv (n+32)))
include hR h
theorem yd:n+32<1000000000∧(bc++R)[n+32]? =O (gO q o):=by
 refine ak (w9 (uI q o) h) λm e hm=> ?_
 have:=iY e;have:m=n:=by omega
 subst this;have h2:bc.length=32:=by kernel_rfl
 have hl:=(Ji.mp hm).1;rw[Jk,h2] at hl;exact⟨by have:=hR.len;omega,hm⟩
theorem zO:aN 1 10 [.ref 0,.val (iv (n+32))] R (.val (.tup [iv (n+32)])) R:=by
 refine aO (yd hR h) λh1 h2=> ?_
 refine aN.body (n:=0) (fd:=g7) (by kernel_rfl) rfl rfl λk _=> ?_
 have h3:∀S,aL ac ⟨ag R,S⟩ (.ref 1) (.val (iv (n+32)))=O (.val (gO q o)):=λS=>cU h1 h2
 (refine aC [eV 1 (h3 ([]))] ?_;kernel_rfl)
theorem DL(k:Nat)(S:List CO):Fn pg ac (k+1) 12 [.ref 0,.val (iv (n+32))] ⟨ag R,S⟩=O (.val (.int (-1)),⟨ag R,S⟩):=by
 refine aO (yd hR h) λh1 h2=> ?_
 have:aN 1 12 [.ref 0,.val (iv (n+32))] R (.val (.int (-1))) R:=by
  refine aN.body (n:=0) (fd:=fE) (by kernel_rfl) rfl rfl λk _=> ?_
  have h3:∀S,aL ac ⟨ag R,S⟩ (.ref 1) (.val (iv (n+32)))=O (.val (gO q o)):=λS=>cU h1 h2
  have i7:∀st,af ac .inn st (.val (.int 7)) (.val (.tup [.int 2,.int 3,.int 4,.int 5,.int 8]))=O N:=λst=>by kernel_rfl
  (refine aC [eV 0 (h3 ([])),eB 1 (i7 zz)] ?_;kernel_rfl)
 exact this (k+1) S (nc)
theorem zT(k:Nat)(S:List CO):Fn pg ac (k+1) 11 [.val (gO q o)] ⟨ag R,S⟩=O (.val (.int (-1)),⟨ag R,S⟩):=by kernel_rfl
theorem Ag(k:Nat)(T:List CO):Fn pg ac (k+2) 14 [.ref 0,.loc 0,.val (iv (n+32))] ⟨ag R,.dict .int (gd [n+32])::T⟩=O (.val (.bool Z),⟨ag R,.dict .int (gd [n+32])::T⟩):=by
 refine aO (yd hR h) λh1 h2=> ?_
 have h3:∀S,aL ac ⟨ag R,S⟩ (.ref 1) (.val (iv (n+32)))=O (.val (gO q o)):=λS=>cU h1 h2
 have e1:=DL hR h k (.dict .int (gd [n+32])::T);have e2:=zT hR h k (.dict .int (gd [n+32])::T);have e3:af ac .inn ⟨ag R,.dict .int (gd [n+32])::T⟩ (.val (.int (-1))) (.loc 0)=O N:=by
  have:=nM (R:=R) (S0:=[]) (n:=0) rfl (got:=[n+32]) (T:=T) (-1);rw[om] at this;exact this
 have e4:af ac .nin ⟨ag R,.dict .int (gd [n+32])::T⟩ (.val (.int (-1))) (.loc 0)=O Z:=by
  have:=yQ (R:=R) (S0:=[]) (n:=0) rfl (got:=[n+32]) (T:=T) (-1);rw[om] at this;exact this
 have hx:∃ρ',ex pg ac (Fn pg ac (k+1)) bq.body (aM bq.nm.length [.ref 0,.loc 0,.val (iv (n+32))] bq.dv) ⟨ag R,.dict .int (gd [n+32])::T⟩=O (O (.val (.bool Z)),ρ',⟨ag R,.dict .int (gd [n+32])::T⟩):=by
  (refine gu [eC 0 e1,eB 0 e3,eV 0 (h3 (CO.dict KD.int (gd [n+32])::T)),eC 0 e2,eB 0 e4] ?_;kernel_rfl)
 refine aG hx λρ' hx=> ?_
 have:=cV (f:=14) (by kernel_rfl) rfl rfl hx rfl;rw[this];simp only[Kw]
theorem AX:aN 3 16 [.ref 0,.val (.lst [iv (n+32)])] R (.val (iv (n+32))) R:=by
 refine aN.body (n:=2) (fd:=iz) (by kernel_rfl) rfl rfl λk hk=> ?_
 obtain⟨k,rfl⟩:∃k',k=k'+2:=⟨k - 2,nq hk⟩
 have hp:=zO hR h (k+2) [.dict .int []] (nc);have ht:=tN (R:=R) (S0:=[]) (n:=0) (T:=[]) (got:=[n+32]) rfl (k+1);have hj:=re (R:=R) (S0:=[]) (n:=0) (T:=[]) (got:=[n+32]) rfl (k+1) (by simp);have m0:∀c,c<32→QQ (c∈[n+32])=N:=λc hc=>decide_eq_false (by simp;omega)
 have t1:r6 [n+32]= -1:=by unfold r6;rw[m0 0 (nc),m0 13 (nc),m0 1 (nc)];rfl
 have t2:jb [n+32]=[n+32]:=by unfold jb;rw[m0 8 (nc),m0 14 (nc),m0 9 (nc)];rfl
 rw[t1] at ht;rw[t2] at hj;have hs:∀S,aF ac .srt ⟨ag R,.dict .int (gd [n+32])::S⟩ (.loc 0)=O (.val (.lst [iv (n+32)])):=λS=>rfl
 have hc:∀m x3 x4 x6,ev pg ac (Fn pg ac (k+2)) (.comp N 3 [Z,N,Z] (.var 3) (.fn1 .srt (.var 2)) (.cal 14 %[.var 0,.var 2,.var 3|_])) m [O (.ref 0),O (.val (.lst [iv (n+32)])),O (.loc 0),x3,x4,U,x6] ⟨ag R,[.dict .int (gd [n+32])]⟩=
   bv m (O (.val (.lst [iv (n+32)]),⟨ag R,[.dict .int (gd [n+32])]⟩)):=by
  intro m x3 x4 x6;have hit:ev pg ac (Fn pg ac (k+2)) (.fn1 .srt (.var 2)) .V [O (.ref 0),O (.val (.lst [iv (n+32)])),O (.loc 0),x3,x4,U,x6] ⟨ag R,[.dict .int (gd [n+32])]⟩=O ([.val (.lst [iv (n+32)])],⟨ag R,[.dict .int (gd [n+32])]⟩):=by
   (refine bz [eV 0 (hs ([]))] ?_;kernel_rfl)
  rw[jy hit rfl m];have st:=Ag hR h k [.list []];have ha:gI 1 (iv (n+32)) ⟨ag R,[.dict .int (gd [n+32]),.list []]⟩=O ⟨ag R,[.dict .int (gd [n+32]),.list [iv (n+32)]]⟩:=jk (S:=[.dict .int (gd [n+32])]) rfl (by simp[aA]);show bv m (ph 1 (ch (bn 3) _ _ _ 1 [iv (n+32)] _ _))=_;refine(congrArg (λz=>bv m (ph 1 z)) (jj (st1:=⟨ag R,[.dict .int (gd [n+32]),.list []]⟩) (st2:=⟨ag R,[.dict .int (gd [n+32]),.list []]⟩) rfl (xW ?_) (s9 ?_) ha rfl)).trans rfl
  ·refine bz [eC 0 st] ?_;kernel_rfl
  ·refine bz [] ?_;kernel_rfl
 have b1:∀st,aK st (.val (.lst [iv (n+32)]))=O Z:=λst=>jO (by simp[aA])
 have b2:∀st,aF ac .len st (.val (.lst [iv (n+32)]))=O (.val (.int 1)):=λst=>gk (by simp[aA])
 have b3:∀st,aL ac st (.val (.lst [iv (n+32)])) (.val (.int 0))=O (.val (iv (n+32))):=λst=>rfl
 have ht:Fn pg ac (k+2) 15 [.loc 0] ⟨ag R,[.dict .int (gd [n+32])]⟩=O (.val (.int (-1)),⟨ag R,[.dict .int (gd [n+32])]⟩):=ht;have hj:Fn pg ac (k+2) 13 [.loc 0] ⟨ag R,[.dict .int (gd [n+32])]⟩=O (.val .none,⟨ag R,[.dict .int (gd [n+32])]⟩):=hj;refine aC [eL 1,eL 0,eC 0 hp,eC 1 ht,eC 1 hj,eX 0 ((hc .V (O (LV.val (iv (n+32)))) (O (.val (.int (-1)))) (O (LV.val (iv (n+32))))).trans (aB _ _)),eB 0 (b1 zz),eV 0 (b2 zz),eV 1 (b3 zz)] ?_;kernel_rfl
end
theorem Bm(k:Nat)(R S):Qo.map (λq=>Fn pg ac (k+1) 38 [.ref 0,.val (iv 1),.val (iv q)] ⟨ag R,S⟩)=Qo.map (λq=>O (.val (iv q),⟨ag R,S⟩)):=by kernel_rfl
theorem uv{q:Nat}(h:q∈Qo):q∈Qs∧q≠0∧q≠1∧q≠2∧q≠13:=by
 have:∀q∈Qo,q∈Qs∧q≠0∧q≠1∧q≠2∧q≠13:=by decide
 exact this q h
theorem Cu{t c:Nat}(h:t≠c):(I9 t=I9 c)=False:=eq_false λe=>h (L6 e)
theorem tJ{R:List AV}(hR:Bd 1 R){q o:Nat}(h:(q,o)∈Po):∃R' n,bQ 1 R R'∧aE (bO R') (gO q o)=O (iv (n+32))∧aN 17 38 [.ref 0,.val (iv q),.val (iv o)] R (.val (iv (n+32))) R':=by
 refine aX (kP hR h) λR' n h1 h2 h3=> ?_
 refine cI (t4 h) λhq ho hne=> ?_
 refine qY (uv hq) λq1 q2 q3 q4 q5=> ?_
 refine qY (uv ho) λo1 o2 o3 o4 o5=> ?_
 refine⟨R',n,h1,h2,aN.body (n:=16) (fd:=g8) (by kernel_rfl) rfl rfl λk hk=> ?_⟩;obtain⟨k,rfl⟩:∃k',k=k'+1:=⟨k - 1,nq hk⟩
 have p1:=λS=>aq (eE k R S) q q1
 have p2:=λS=>aq (eE k R S) o o1
 have m1:=h3 (k+1) [.dict .int []] (by exact hk);have u1:=AX (hR.ext h1 (b:=0) (nc)) h2 (k+1) [.dict .int (gd [n+32])] (nl hk);have b1:∀st a,aF ac .len st (.val (.tup [a]))=O (.val (.int 1)):=λst a=>by
  show(if 1<aA then O (LV.val (.int 1)) else U)=_;rw[if_pos (by unfold aA;exact nc)]
 have c3:aF ac .srt ⟨ag R',[.dict .int (gd [n+32])]⟩ (.loc 0)=O (.val (.lst [iv (n+32)])):=rfl
 (refine aC [eB 0 ((Au hne) zz),eB 0 ((Au o3) zz),eB 0 ((Au q3) zz),eL 1,eC 0 (p1 ([CO.dict KD.int []])),eC 0 (p2 ([CO.dict KD.int []])),eV 1 (b1 zz (iv q)),eL 2,eL 0,eC 0 m1,eV 3 c3,eC 0 u1] ?_;kernel_rfl)
theorem qD{R R':List AV}{a b n:Nat}{v:AV}(hq:a∈Qs∧a≠0∧a≠1∧a≠2∧a≠13)(ho:b∈Qs∧b≠0∧b≠1∧b≠2∧b≠13)(hne:a≠b)(u1:∀k,Fn pg ac (k+1) 38 [.ref 0,.val (iv 1),.val (iv a)] ⟨ag R,[]⟩=O (.val (iv a),⟨ag R,[]⟩))
  (h3:aN (n+1) 38 [.ref 0,.val (iv a),.val (iv b)] R (.val v) R'):aN (n+2) 39 [.ref 0,.val (.tup [iv a,iv b])] R (.val v) R':=by
 refine aN.body (n:=n+1) (fd:=ud) (by kernel_rfl) rfl rfl λk hk=> ?_
 obtain⟨k,rfl⟩:∃k',k=k'+1:=⟨k - 1,nq hk⟩
 have u1:=u1 k;have m1:=h3 (k+1) [] hk;have z:∀c,a≠c→b≠c→af ac .inn zz (.val (iv c)) (.val (.tup [iv a,iv b]))=O N:=λc a b=>by
  show af ac .inn zz (.val (.int (I9 c))) _=_;rw[yN];simp only[Ls,PX,BL,Cu a,Cu b,decide_false,JQ]
 have w2:af ac .nin zz (.val (iv b)) (.val (.tup [iv a]))=O Z:=by
  rw[BP];simp only[Ls,PX,BL,Cu hne,decide_false,JQ,LR]
 refine aC [eL 0,eB 1 (z 2 hq.2.2.2.1 ho.2.2.2.1),eB 0 (z 0 hq.2.1 ho.2.1),eB 0 (z 13 hq.2.2.2.2 ho.2.2.2.2),eL 0,eC 5 u1,eB 2 w2,eC 1 m1] ?_;kernel_rfl
theorem Bt{R:List AV}(hR:Bd 1 R){q o:Nat}(h:(q,o)∈Po):∃R' n,bQ 1 R R'∧aN 18 39 [.ref 0,.val (.tup [iv q,iv o])] R (.val (iv (n+32))) R':=by
 refine aX (tJ hR h) λR' n h1 h2 h3=> ?_
 refine cI (t4 h) λhq ho hne=> ?_
 exact⟨R',n,h1,qD (uv hq) (uv ho) hne (λk=>aq (Bm k R []) q hq) h3⟩
noncomputable def Qa:List Nat:=[10,11,18,28,29,30,31]
noncomputable def Pn:List (Nat×Nat):=(Qa.flatMap λq=>Qa.map λo=>(q,o)).filter λx=> !(Po.any λy=>y.1==x.1&&y.2==x.2)
theorem GA(k:Nat)(R S)(st:Bool):Pn.map (λx=>Fn pg ac (k+19) 69 [.ref 9,.val (iv x.1),.val (iv x.2),.val (.bool st)] ⟨ag R,S⟩)=Pn.map (λx=>O (.val (.bool (!((x.1==28&&x.2==29)||(x.1==29&&x.2==28)))),⟨ag R,S⟩)):=by kernel_rfl
theorem uk(k:Nat)(R S):Qa.map (λq=>Fn pg ac (k+8) 68 [.ref 0,.val (iv q)] ⟨ag R,S⟩)=Qa.map (λq=>O (.val (.bool (q==11)),⟨ag R,S⟩)):=by kernel_rfl
noncomputable def mt(q o:Nat)(st:Bool):Bool:=
 if ah q==7&&ah o==7 then !((q==28&&o==29)||(q==29&&o==28))
 else if ah q==7&& !(ah o==0) then(q==11&&ue (ah o))
 else if ah o==7&& !(ah q==0) then(o==11&&ue (ah q))
 else pm q o st
theorem qP{q:Nat}(h:q∈Qs)(f:(ah q==7)=Z):q∈Qa:=by
 have:∀q∈Qs,(ah q==7)=Z→q∈Qa:=by decide+kernel
 exact this q h f
theorem u9{R:List AV}(hR:Bd 1 R){q o:Nat}(hq:q∈Qs)(ho:o∈Qs)(st:Bool):∃R1,bQ 1 R R1∧aN 20 69 [.ref 9,.val (iv q),.val (iv o),.val (.bool st)] R (.val (.bool (mt q o st))) R1:=by
 by_cases hP:(q,o)∈Po
 ·refine b9 (Bt hR hP) λR' n h1 h3=> ?_
  refine cI (t4 hP) λq1 o1 _=> ?_
  have hm:mt q o st=Z:=by
   have:∀x∈Po,mt x.1 x.2 Z=Z∧mt x.1 x.2 N=Z:=by decide+kernel
   refine aO (this _ hP) λa b=> ?_
   cases st<;>assumption
  refine⟨R',h1,aN.body (n:=19) (fd:=eZ) (by kernel_rfl) rfl rfl λk hk=> ?_⟩;rw[hm];have f1:=bF hq R k [] (nl hk);have f2:=bF ho R k [] (nl hk);have g1:ah q=7∧ah o=7:=by
   have:∀q∈Qo,ah q=7:=by decide+kernel
   exact⟨this q q1,this o o1⟩
  rw[g1.1] at f1;rw[g1.2] at f2;have i1:=h3 k [] (nl hk);have e7:∀st,af ac .eq st (.val (iv 7)) (.val (.int 7))=O Z:=λst=>js 7 st
  have n2:∀st,af ac .ne st (.val (iv (n+32))) (.val (.int 2))=O Z:=λst=>by
   have:=ES (a:=n+32) 2 st;rw[show(n+32==2)=N from by simp] at this;exact this
  (refine aC [eC 0 f1,eC 0 f2,eB 0 (e7 zz),eB 0 (e7 zz),eC 1 i1,eB 0 (n2 zz)] ?_;kernel_rfl)
 ·by_cases hA:(ah q==7&&ah o==7)=Z
  ·rw[I8] at hA;have hn:(q,o)∈Pn:=by
    have:∀q∈Qa,∀o∈Qa,(q,o)∉Po→(q,o)∈Pn:=by decide+kernel
    exact this q (qP hq hA.1) o (qP ho hA.2) hP
   refine⟨R,.rfl' _,.of λk S=> ?_⟩;have:=aq (GA (k+1) R S st) (q,o) hn;unfold mt;rw[if_pos (by rw[I8];exact hA)];exact this
  ·rw[JN] at hA;refine⟨R,.rfl' _,aN.body (n:=19) (fd:=eZ) (by kernel_rfl) rfl rfl λk hk=> ?_⟩;obtain⟨k,rfl⟩:∃k',k=k'+8:=⟨k - 8,nq hk⟩
   have f1:=bF hq R (k+8) [] (nc);have f2:=bF ho R (k+8) [] (nc);have p1:=si hq ho R st (k+8) [] (nc);have e1:∀st,af ac .eq st (.val (iv (ah q))) (.val (.int 7))=O (ah q==7):=js 7
   have e2:∀st,af ac .eq st (.val (iv (ah o))) (.val (.int 7))=O (ah o==7):=js 7
   have e3:∀st,af ac .ne st (.val (iv (ah q))) (.val (.int 0))=O (!(ah q==0)):=ES 0
   have e4:∀st,af ac .ne st (.val (iv (ah o))) (.val (.int 0))=O (!(ah o==0)):=ES 0
   have c1:∀st,af ac .inn st (.val (iv (ah q))) (.val (.tup [.int 1,.int 2,.int 3]))=O (ue (ah q)):=λst=>pB _
   have c2:∀st,af ac .inn st (.val (iv (ah o))) (.val (.tup [.int 1,.int 2,.int 3]))=O (ue (ah o)):=λst=>pB _
   unfold mt;rw[hA];cases a1:ah q==7 with
   |true=>
    have l1:=aq (uk k R []) q (qP hq a1);rw[a1] at e1 hA;have a2:(ah o==7)=N:=by simpa using hA
    rw[a2] at e2;generalize ue (ah o)=co at c2 ⊢;generalize(ah o==0)=b1 at e4 ⊢;generalize(q==11)=FP at l1 ⊢;rw[a2];cases b1<;>cases FP
    ·(refine aC [eC 0 f1,eC 0 f2,eB 0 (e1 zz),eB 0 (e2 zz),eB 0 (e1 zz),eB 0 (e4 zz),eC 0 l1] ?_;kernel_rfl)
    ·(refine aC [eC 0 f1,eC 0 f2,eB 0 (e1 zz),eB 0 (e2 zz),eB 0 (e1 zz),eB 0 (e4 zz),eC 0 l1,eB 2 (c2 zz)] ?_;kernel_rfl)
    ·(refine aC [eC 0 f1,eC 0 f2,eB 0 (e1 zz),eB 0 (e2 zz),eB 0 (e1 zz),eB 0 (e4 zz),eB 0 (e2 zz),eC 0 p1] ?_;kernel_rfl)
    ·(refine aC [eC 0 f1,eC 0 f2,eB 0 (e1 zz),eB 0 (e2 zz),eB 0 (e1 zz),eB 0 (e4 zz),eB 0 (e2 zz),eC 0 p1] ?_;kernel_rfl)
   |false=>
    rw[a1] at e1;cases a2:ah o==7 with
    |false=>
     rw[a2] at e2
     (refine aC [eC 0 f1,eC 0 f2,eB 0 (e1 zz),eB 0 (e1 zz),eB 0 (e2 zz),eC 0 p1] ?_;kernel_rfl)
    |true=>
     rw[a2] at e2;have l1:=aq (uk k R []) o (qP ho a2);generalize ue (ah q)=co at c1 ⊢;generalize(ah q==0)=b1 at e3 ⊢;generalize(o==11)=FP at l1 ⊢;cases b1<;>cases FP
     ·(refine aC [eC 0 f1,eC 0 f2,eB 0 (e1 zz),eB 0 (e1 zz),eB 0 (e2 zz),eB 0 (e3 zz),eC 0 l1] ?_;kernel_rfl)
     ·(refine aC [eC 0 f1,eC 0 f2,eB 0 (e1 zz),eB 0 (e1 zz),eB 0 (e2 zz),eB 0 (e3 zz),eC 0 l1,eB 2 (c1 zz)] ?_;kernel_rfl)
     ·(refine aC [eC 0 f1,eC 0 f2,eB 0 (e1 zz),eB 0 (e1 zz),eB 0 (e2 zz),eB 0 (e3 zz),eC 0 p1] ?_;kernel_rfl)
     ·(refine aC [eC 0 f1,eC 0 f2,eB 0 (e1 zz),eB 0 (e1 zz),eB 0 (e2 zz),eB 0 (e3 zz),eC 0 p1] ?_;kernel_rfl)
theorem jp{f:Nat→Bool}:∀l:List Nat,cw (l.map λq=>AV.bool (f q))=O (l.map f)
 |[]=>rfl
 |q::l=>by
  show(cw (l.map λq=>AV.bool (f q))).map (f q::·)=_;rw[jp l];rfl
theorem dX{st:St}{f:Nat→Bool}(l:List Nat):aF ac .all st (.val (.lst (l.map λq=>AV.bool (f q))))=O (.val (.bool (l.all f))):=by
 show((cw (l.map λq=>AV.bool (f q))).map λbs=>LV.val (.bool (bs.all id)))=_;rw[jp,Ni,N6];rfl
theorem tX{st:St}{f:Nat→Bool}(l:List Nat):aF ac .any st (.val (.lst (l.map λq=>AV.bool (f q))))=O (.val (.bool (l.any f))):=by
 show((cw (l.map λq=>AV.bool (f q))).map λbs=>LV.val (.bool (bs.any id)))=_;rw[jp,Ni,Oi];rfl
theorem gH(st:St)(a b:Nat):af ac .lt st (.val (iv a)) (.val (iv b))=O (QQ (a<b)):=by
 rw[Hm]
 congr 1
 rw[decide_eq_decide];exact Nc
theorem fc(st:St)(a b:Nat):af ac .gt st (.val (iv a)) (.val (iv b))=O (QQ (b<a)):=by
 rw[Ht]
 congr 1
 rw[decide_eq_decide];exact Nc
theorem iH{R:List AV}{t:Nat}{ps:List Nat}(h:Kd R t ps)(hR:Bd 0 R):aN 4 67 [.ref 0,.val (iv t)] R (.val (.bool (ps.all bu))) R:=by
 have hp:=be h.ty h.q hR.le;have hc:=cZ (n:=3) (tg:=2) (bs:=[Z]) (e:= .cal 66 %[.var 0,.var 2|_]) (it:= .cal 10 %[.var 0,.var 1|_]) (ρ:=[O (.ref 0),O (.val (iv t)),U]) (R:=R) (l:=ps) (v:= .tup (pv ps)) (b:=N) (g:=λq=> .bool (bu q)) rfl (by show 2<3;exact nc) (by have:=h.l;exact ny this) hR
  (λk S hk=>by(refine bz [eC 0 (hp k S (nl hk))] ?_;kernel_rfl))
  (λy hy R2 hR2 k S hk=>by(refine bz [eC 0 (rk (h.q y hy) R2 k S hk)] ?_;kernel_rfl))
 refine aN.body (n:=3) (fd:=fe) (by kernel_rfl) rfl rfl λk hk=> ?_
 have hc:=hc k [] .V hk;refine aC [eX 0 (hc.trans (aB _ _)),eV 0 (dX (st:=zz) (f:=bu) ps)] ?_;kernel_rfl
noncomputable def fj(os:List Nat):Bool:= !os.isEmpty&&os.all λq=>ew (ah q)
theorem cj{R:List AV}{t:Nat}{ps:List Nat}(h:Kd R t ps)(hR:Bd 0 R):aN 4 57 [.ref 0,.val (iv t)] R (.val (.bool (fj ps))) R:=by
 have hp:=be h.ty h.q hR.le;have hl:=h.l;have hc:=cZ (n:=3) (tg:=3) (bs:=[Z]) (e:= .cmp .inn (.cal 22 %[.var 0,.var 3|_]) (.glb 57)) (it:= .var 2) (ρ:=[O (.ref 0),O (.val (iv t)),O (.val (.tup (pv ps))),U]) (R:=R) (l:=ps) (v:= .tup (pv ps)) (b:=N) (g:=λq=> .bool (ew (ah q))) rfl (by show 3<4;exact nc) (ny hl) hR
  (λk S hk=>by(refine bz [] ?_;kernel_rfl))
  (λy hy R2 hR2 k S hk=>by
   have i1:af ac .inn zz (.val (iv (ah y))) (.val (.tup [.int 4,.int 5,.int 6]))=O (ew (ah y)):=lU _;refine bz [eC 0 (bF (h.q y hy) R2 k S (nl hk)),eB 0 i1] ?_;kernel_rfl)
 refine aN.body (n:=3) (fd:=dT) (by kernel_rfl) rfl rfl λk hk=> ?_
 have hc:=λm=>hc k [] m hk
 have hp:=hp k [] (nl hk);have l1:∀st,aF ac .len st (.val (.tup (pv ps)))=O (.val (.int ((ps.length:Nat):Int))):=λst=>by
  show(if(pv ps).length<aA then O (LV.val (.int ((pv ps).length:Nat))) else U)=_;rw[if_pos (by unfold aA;rw[Jj];exact ny hl),Jj]
 unfold fj;cases ps with
 |nil=>
  (refine aC [eC 0 hp,eV 0 (l1 zz)] ?_;kernel_rfl)
 |cons p ps=>
  have g1:af ac .gt zz (.val (iv (ps.length+1))) (.val (.int 0))=O Z:=(fc _ (ps.length+1) 0).trans (congrArg O (decide_eq_true (Oq _)));refine aC [eC 0 hp,eV 0 (l1 zz),eB 0 g1,eX 1 ((hc .V).trans (aB _ _)),eV 0 (dX (st:=zz) (f:=λq=>ew (ah q)) (p::ps))] ?_;kernel_rfl
theorem EV(k:Nat)(R S):Qs.map (λq=>Fn pg ac (k+1) 7 [.ref 0,.val (iv q)] ⟨ag R,S⟩)=Qs.map (λq=>O (.val (iv (if q∈[8,9,14] then 2 else if q∈[16,19,20,21] then 3 else if q∈[22,23,24] then 4 else if q∈[25,26,27] then 5 else if q∈[11,18,28,29] then 8 else if q=30 then 9 else if q=31 then 11 else 1)),⟨ag R,S⟩)):=by kernel_rfl
noncomputable def iS(q:Nat):Nat:=if q∈[8,9,14] then 2 else if q∈[16,19,20,21] then 3 else if q∈[22,23,24] then 4 else if q∈[25,26,27] then 5 else if q∈[11,18,28,29] then 8 else if q=30 then 9 else if q=31 then 11 else 1
theorem rB{q:Nat}(hq:q∈Qs)(k:Nat)(R S):Fn pg ac (k+1) 7 [.ref 0,.val (iv q)] ⟨ag R,S⟩=O (.val (iv (iS q)),⟨ag R,S⟩):=aq (EV k R S) q hq
theorem FE{q:Nat}(hq:q∈Qs):iS q∉[10,15,16,18]:=by
 have:∀q∈Qs,iS q∉[10,15,16,18]:=by decide+kernel
 exact this q hq
noncomputable def kZ(f:Nat)(o:Nat):Bool:=(ah o==f)&& !AV.eqv (eJ o) (.tup [])
noncomputable def yX(q:Nat)(hs:List Nat):List Nat:=if((q==6||q==7)&&hs.all (kZ (ah q)))=Z then un (hs.map λo=>[o]) else[q]
theorem gU(R:List AV):∀hs:List Nat,(∀o∈hs,o∈Qs)→cT R hs (hs.map λo=>[o])
 |[],_=> .nil
 |o::hs,h=> .cons rfl (λp hp=>by rw[Ja.mp hp];exact h o (.head _)) (gU R hs λz hz=>h z (.tail _ hz))
theorem jQ{R:List AV}(hR:Bd 1 R){q:Nat}(hq:q∈Qs)(hf:ah q≠0){hs:List Nat}(hh:∀o∈hs,o∈Qs)(hl:hs.length≤32):
  ∃R' r,bQ 1 R R'∧Kd R' r (yX q hs)∧aN 5 58 [.ref 0,.val (iv q),.val (.lst (pv hs))] R (.val (iv r)) R':=by
 have hc:=cZ (n:=4) (tg:=4) (bs:=[Z,N,N,Z]) (e:= .bop Z %[.cmp .eq (.cal 22 %[.var 0,.var 4|_]) (.var 3),.cmp .ne (.cal 55 %[.var 0,.var 4|_]) (.tup .nil)|_]) (it:= .var 2)
  (ρ:=[O (.ref 0),O (.val (iv q)),O (.val (.lst (pv hs))),O (.val (iv (ah q))),U]) (R:=R) (l:=hs) (v:= .lst (pv hs)) (b:=Z) (g:=λo=> .bool (kZ (ah q) o)) rfl (by show 4<5;exact nc) (ny hl) (hR.mono (nc))
  (λk S hk=>by(refine bz [] ?_;kernel_rfl))
  (λy hy R2 hR2 k S hk=>by
   have f1:=bF (hh y hy) R2 k S (nl hk);have p1:=kX (hh y hy) R2 k S (nl hk);have e1:∀st,af ac .eq st (.val (iv (ah y))) (.val (iv (ah q)))=O (ah y==ah q):=λst=>fi _ _
   have e2:∀st,af ac .ne st (.val (eJ y)) (.val (.tup []))=O (!AV.eqv (eJ y) (.tup [])):=λst=>r7 (by decide)
   unfold kZ;generalize(ah y==ah q)=b at e1 ⊢;cases b
   ·(refine bz [eC 0 f1,eB 0 (e1 zz)] ?_;kernel_rfl)
   ·(refine bz [eC 0 f1,eB 0 (e1 zz),eC 1 p1,eB 1 (e2 zz)] ?_;kernel_rfl))
 have i1:∀st,af ac .inn st (.val (iv q)) (.val (.tup [.int 6,.int 7]))=O (q==6||q==7):=λst=>et (by
  show(QQ (I9 6=I9 q)||(QQ (I9 7=I9 q)||false))=_;rw[az,az,JQ])
 have i2:∀st,af ac .eq st (.val (iv (iS q))) (.val (.int 18))=O N:=λst=>by
  have:=js (a:=iS q) 18 st;rw[show(iS q==18)=N from by
   have:=FE hq;simp only[Jh,JO,or_false,not_or] at this;simp[this]] at this
  exact this
 have i3:∀st,af ac .eq st (.val (iv (ah q))) (.val (.int 0))=O N:=λst=>by
  have:=js (a:=ah q) 0 st;rw[show(ah q==0)=N from by simp[hf]] at this;exact this
 by_cases hA:((q==6||q==7)&&hs.all (kZ (ah q)))=Z
 ·obtain⟨R',r,h1,h2,h3,_,_⟩:=aQ hR (gU R hs hh) (bp λo ho p hp=>by rw[Ja.mp hp];exact hh o ho);refine⟨R',r,h1,?_,aN.body (n:=4) (fd:=ja) (by kernel_rfl) rfl rfl λk hk=> ?_⟩
  ·unfold yX;rw[if_pos hA]
   exact dS (bp λo ho p hp=>by rw[Ja.mp hp];exact hh o ho) h2
  ·rw[I8] at hA;have f1:=bF hq R k [] (nl hk);have hc:=hc k [] .V hk;have h3:=h3 k [] (nl hk);rw[hA.1] at i1;have al:=dX (st:=zz) (f:=kZ (ah q)) hs;rw[hA.2] at al;refine aC [eC 0 f1,eB 1 (i1 zz),eX 0 (hc.trans (aB _ _)),eV 0 al,eC 1 h3] ?_;kernel_rfl
 ·refine⟨R,q,.rfl' _,?_,aN.body (n:=4) (fd:=ja) (by kernel_rfl) rfl rfl λk hk=> ?_⟩
  ·unfold yX;rw[if_neg hA]
   exact⟨rfl,λp hp=>by rw[Ja.mp hp];exact hq,by simp⟩
  ·obtain⟨k,rfl⟩:∃k',k=k'+1:=⟨k - 1,nq hk⟩
   have f1:=bF hq R (k+1) [] (nl hk);have k1:=rB hq k R [];have hc:=hc (k+1) [] .V hk;cases b1:(q==6||q==7) with
   |false=>
    rw[b1] at i1
    (refine aC [eC 0 f1,eB 1 (i1 zz),eC 0 k1,eB 0 (i2 zz),eB 0 (i3 zz)] ?_;kernel_rfl)
   |true=>
    have b2:hs.all (kZ (ah q))=N:=by
     rw[b1] at hA;simpa using hA
    rw[b1] at i1;have al:=dX (st:=zz) (f:=kZ (ah q)) hs;rw[b2] at al;refine aC [eC 0 f1,eB 1 (i1 zz),eX 0 (hc.trans (aB _ _)),eV 0 al,eB 1 (i3 zz)] ?_;kernel_rfl
theorem yM{k f:Nat}{fd:FD}{as:List LV}{G:List GO}{S:List CO}(hf:pg.fd[f]? =O fd)(hn:as.length+fd.dv.length=fd.np)(hl:dU as=Z){lv:LV}{w:AV}{G':List GO}{S':List CO}{st1:St}
  (h:∃ρ',ex pg ac (Fn pg ac k) fd.body (aM fd.nm.length as fd.dv) ⟨G,[]⟩=O (O lv,ρ',st1)) (h2:uh 0 st1 lv=O (.val w,⟨G',S'⟩)):Fn pg ac (k+1) f as ⟨G,S⟩=O (.val w,⟨G',S⟩):=by
 refine aG h λρ' h=> ?_
 show(match pg.fd[f]? with
  |some fd=>if as.length+fd.dv.length=fd.np then
    (if dU as then oO (ex pg ac (Fn pg ac k) fd.body (aM fd.nm.length as fd.dv) ⟨G,[]⟩) λp=>(uh 0 p.2.2 (p.1.getD (.val .none))).map (ij S) else _)
   else U
  |none=>U)=_
 rw[hf];show(if as.length+fd.dv.length=fd.np then _ else _)=_;rw[if_pos hn,if_pos hl,h];show(uh 0 st1 lv).map _=_;rw[h2];rfl
noncomputable def Qc:List Nat:=[6,7,8,9,14,16,19,20,21,22,23,24,25,26,27]
theorem w7{o:Nat}(h:o∈Qc):o∈Qs∧o≠0∧o≠1∧o≠2∧o≠11∧o≠13∧ah o∈[1,2,3]∧nj o∈[8,16,17,99]:=by
 have:∀o∈Qc,o∈Qs∧o≠0∧o≠1∧o≠2∧o≠11∧o≠13∧ah o∈[1,2,3]∧nj o∈[8,16,17,99]:=by decide+kernel
 exact this o h
theorem Ga(k:Nat)(R S):[1,2,3,7].map (λf=>Fn pg ac (k+1) 23 [.val (iv f)] ⟨ag R,S⟩)=[1,2,3,7].map (λ_=>O (.val (.bool N),⟨ag R,S⟩)):=by kernel_rfl
theorem GB(k:Nat)(a b c:AV)(R S):Fn pg ac (k+1) 33 [.ref 0,.val (iv 11),.val a,.val b,.val c] ⟨ag R,S⟩=O (.val (.int 2),⟨ag R,S⟩):=by kernel_rfl
theorem B7(k:Nat)(R S):(11::Qc).map (λq=>Fn pg ac (k+4) 36 [.ref 0,.val (iv q)] ⟨ag R,S⟩)=(11::Qc).map (λq=>O (.val (.tup [iv q]),⟨ag R,S⟩)):=by kernel_rfl
theorem DZ{R:List AV}(hR:Bd 0 R){o:Nat}(ho:o∈Qc):aN 3 34 [.ref 0,.val (iv 11),.val (iv o)] R (.val (.int 2)) R:=by
 refine DN (w7 ho) λo1 o2 o3 o4 o5 o6 o7 o8=> ?_
 refine aN.body (n:=2) (fd:=jA) (by kernel_rfl) rfl rfl λk hk=> ?_
 obtain⟨k,rfl⟩:∃k',k=k'+1:=⟨k - 1,nq hk⟩
 have t1:=rO hR.ok o1 k [];have t2:=rO hR.ok (q:=11) (by decide) k [];have f1:=bF (q:=11) (by decide) R (k+1) [] (by exact hk);have f2:=bF o1 R (k+1) [] (by exact hk);have e1:∀st,af ac .eq st (.val (iv 11)) (.val (iv o))=O N:=λst=>by
  rw[fi,show(11==o)=N from by simp;exact LM o5]
 have e2:∀st,af ac .eq st (.val (nI (nj o))) (.val (iv 11))=O N:=λst=>by
  simp only[Jh,JO,or_false] at o8;rcases o8 with h|h|h|h<;>rw[h]<;>rfl
 have e3:∀st,af ac .eq st (.val (nI (nj 11))) (.val (iv o))=O N:=λst=>by
  show af ac .eq st (.val (.int (-1))) (.val (iv o))=O N;rw[Ed,decide_eq_false (λe=>by cases e)]
 have e4:∀st,af ac .eq st (.val (iv (ah 11))) (.val (.int 0))=O N:=λst=>rfl
 have e5:∀st,af ac .eq st (.val (iv (ah 11))) (.val (.int 7))=O Z:=λst=>rfl
 have e6:∀st,af ac .eq st (.val (iv (ah o))) (.val (.int 0))=O N:=λst=>by
  have:=js (a:=ah o) 0 st;rw[show(ah o==0)=N from by
   simp only[Jh,JO,or_false] at o7;rcases o7 with h|h|h<;>rw[h]<;>rfl] at this
  exact this
 have n1:Fn pg ac (k+1) 23 [.val (iv (ah 11))] ⟨ag R,[]⟩=O (.val (.bool N),⟨ag R,[]⟩):=aq (Ga k R []) 7 (by decide);have n2:=aq (Ga k R []) (ah o) (by
  simp only[Jh,JO,or_false] at o7;rcases o7 with h|h|h<;>rw[h]<;>decide)
 have m1:=GB k (iv o) (iv (ah 11)) (iv (ah o)) R []
 (refine aC [eB 0 (e1 zz),eC 0 t1,eB 0 (e2 zz),eC 0 t2,eB 0 (e3 zz),eC 0 f1,eC 0 f2,eB 0 (e4 zz),eB 0 (e6 zz),eC 0 n1,eC 1 n2,eB 1 (e5 zz),eC 0 m1] ?_;kernel_rfl)
theorem FN{R:List AV}(hR:Bd 0 R){o:Nat}(ho:o∈Qc):aN 4 35 [.ref 0,.val (.lst [iv 11]),.val (iv o)] R (.val (.lst [iv o])) R:=by
 intro k S hk;obtain⟨k,rfl⟩:∃k',k=k'+1:=⟨k - 1,nq hk⟩
 have c1:=DZ hR ho k [.list []] (by exact JJ hk);exact yM (lv:= .loc 0) (fd:=rA) (st1:=⟨ag R,[.list [iv o]]⟩) (by kernel_rfl) rfl rfl (by refine gu [eL 1,eC 0 c1] ?_;kernel_rfl) rfl
theorem At{R:List AV}(hR:Bd 0 R){o:Nat}(ho:o∈Qc):aN 6 37 [.ref 0,.val (iv 11),.val (iv o)] R (.val (iv o)) R:=by
 refine aN.body (n:=5) (fd:=eR) (by kernel_rfl) rfl rfl λk hk=> ?_
 have hc1:=cZ (n:=4) (tg:=4) (bs:=[]) (e:= .var 4) (it:= .cal 36 %[.var 0,.var 1|_]) (ρ:=[O (.ref 0),O (.val (iv 11)),O (.val (iv o)),U,U]) (R:=R) (l:=[11]) (v:= .tup [iv 11]) (b:=N) (g:=iv) rfl (by show 4<5;exact nc) (by simp) hR
  (λk' S hk'=>by
   obtain⟨j,rfl⟩:∃j,k'=j+4:=⟨k' - 4,nq hk'⟩
   have m1:=aq (B7 j R S) 11 (.head _)
   (refine bz [eC 0 m1] ?_;kernel_rfl))
  (λy hy R2 hR2 k S hk=>by(refine bz [] ?_;kernel_rfl))
 have hc1:=hc1 k [] .V (nl hk);have m2:Fn pg ac k 36 [.ref 0,.val (iv o)] ⟨ag R,[]⟩=O (.val (.tup [iv o]),⟨ag R,[]⟩):=by
  obtain⟨j,rfl⟩:∃j,k=j+4:=⟨k - 4,nq hk⟩
  exact aq (B7 j R []) o (.tail _ ho)
 have l1:=FN hR ho k [] (nl hk);have n2:∀st,aF ac .len st (.val (.lst [iv o]))=O (.val (.int 1)):=λst=>gk (by simp[aA])
 have n3:∀st,aL ac st (.val (.lst [iv o])) (.val (.int 0))=O (.val (iv o)):=λst=>rfl
 (refine aC [eX 0 ((hc1).trans (aB _ _)),eL 0,eC 0 m2,eC 0 l1,eV 1 (n2 zz),eV 1 (n3 zz)] ?_;kernel_rfl)
theorem EB{R:List AV}(hR:Bd 1 R){o:Nat}(ho:o∈Qc):∃R',bQ 1 R R'∧aN 7 38 [.ref 0,.val (iv 11),.val (iv o)] R (.val (iv o)) R':=by
 refine DN (w7 ho) λo1 o2 o3 o4 o5 o6 o7 o8=> ?_
 obtain⟨R',r,e1,e2,e3,_,_⟩:=aQ hR (ts:=[o]) (pss:=[[o]]) (.cons rfl (λp hp=>by rw[Ja.mp hp];exact o1) .nil) (by simpa using o1);have hr:r=o:=by
  have:∀o∈Qc,bh (aZ (av [[o]]))=[o]:=by decide+kernel
  rw[this o ho] at e2;exact e2
 subst hr;refine⟨R',e1,aN.body (n:=6) (fd:=g8) (by kernel_rfl) rfl rfl λk hk=> ?_⟩;obtain⟨k,rfl⟩:∃k',k=k'+1:=⟨k - 1,nq hk⟩
 have p1:=λS=>aq (eE k R S) 11 (by decide)
 have p2:=λS=>aq (eE k R S) r o1
 have m1:=At (hR.mono (nc)) ho (k+1) [.dict .int []] (by exact hk);have u1:Fn pg ac (k+1) 16 [.ref 0,.val (.lst [iv r])] ⟨ag R,[.dict .int (gd [r])]⟩=O (.val (iv r),⟨ag R',[.dict .int (gd [r])]⟩):=e3 (k+1) [.dict .int (gd [r])] (nl hk);have z1:∀st,af ac .eq st (.val (iv 11)) (.val (iv r))=O N:=λst=>by
  rw[fi,show(11==r)=N from by simp;exact LM o5]
 have z2:∀st,af ac .eq st (.val (iv r)) (.val (.int 1))=O N:=λst=>by
  have:=js (a:=r) 1 st;rw[show(r==1)=N from by simp[o3]] at this;exact this
 have z3:∀st,af ac .eq st (.val (iv 11)) (.val (.int 1))=O N:=λst=>rfl
 have z4:∀st,af ac .ne st (.val (iv r)) (.val (.int 2))=O Z:=λst=>by
  have:=ES (a:=r) 2 st;rw[show(r==2)=N from by simp[o4]] at this;exact this
 have b1:∀st a,aF ac .len st (.val (.tup [a]))=O (.val (.int 1)):=λst a=>by
  show(if 1<aA then O (LV.val (.int 1)) else U)=_;rw[if_pos (by unfold aA;exact nc)]
 have c3:aF ac .srt ⟨ag R,[.dict .int (gd [r])]⟩ (.loc 0)=O (.val (.lst [iv r])):=rfl
 (refine aC [eB 0 (z1 zz),eB 0 (z2 zz),eB 0 (z3 zz),eL 1,eC 0 (p1 ([CO.dict KD.int []])),eC 0 (p2 ([CO.dict KD.int []])),eV 1 (b1 zz (iv 11)),eL 2,eL 0,eC 0 m1,eB 0 (z4 zz),eV 2 c3,eC 0 u1] ?_;kernel_rfl)
theorem Eh(k:Nat)(R S):Fn pg ac (k+1) 38 [.ref 0,.val (.int 1),.val (iv 11)] ⟨ag R,S⟩=O (.val (iv 11),⟨ag R,S⟩):=by kernel_rfl
theorem zZ{R:List AV}(hR:Bd 1 R){o:Nat}(ho:o∈Qc):∃R',bQ 1 R R'∧aN 8 39 [.ref 0,.val (.tup [iv 11,iv o])] R (.val (iv o)) R':=by
 refine DN (w7 ho) λo1 o2 o3 o4 o5 o6 o7 o8=> ?_
 refine ak (EB hR ho) λR' h1 h3=> ?_
 exact⟨R',h1,qD (by decide) ⟨o1,o2,o3,o4,o6⟩ (LM o5) (λk=>Eh k R []) h3⟩
noncomputable def ms(q:Nat)(os:List Nat)(st:Bool):List Nat:=
 if os.filter (mt q · st)=[] then[]
 else if(ah q==7&&(os.filter (mt q · st)).all bu)=Z then(if st then un ((os.filter (mt q · st)).map λo=>[o]) else[q])
 else yX q (os.filter (mt q · st))
theorem tY{q:Nat}(hq:q∈Qs){os:List Nat}(ho:∀o∈os,o∈Qs)(st:Bool):∀p∈ms q os st,p∈Qs:=by
 have hh:∀ps'∈(os.filter (mt q · st)).map (λo=>[o]),∀p∈ps',p∈Qs:=bp λo h p hp=>by rw[Ja.mp hp];exact ho o (Jm.mp h).1
 delta ms yX;intro p hp;split at hp
 ·exact nomatch hp
 ·split at hp
  ·split at hp
   ·exact dO hh p hp
   ·rw[Ja.mp hp];exact hq
  ·split at hp
   ·exact dO hh p hp
   ·rw[Ja.mp hp];exact hq
theorem sS{q o:Nat}{st:Bool}(hq:q∈Qs)(ho:o∈Qs)(f:(ah q==7)=Z)(hp:bu o=Z)(hm:mt q o st=Z):q=11∧o∈Qc:=by
 have:∀q∈Qs,∀o∈Qs,∀st∈[Z,N],(ah q==7)=Z→bu o=Z→mt q o st=Z→q=11∧o∈Qc:=by decide+kernel
 exact this q hq o ho st (by cases st<;>decide) f hp hm
theorem lS{R:List AV}(hR:Bd 66 R){q:Nat}(hq:q∈Qs)(hf:ah q≠0){t:Nat}{os:List Nat}(h:Kd R t os)(st:Bool):
  ∃R' r,bQ 66 R R'∧aR R' r (ms q os st)∧aN 22 77 [.ref 9,.val (iv q),.val (iv t),.val (.bool st)] R (.val (iv r)) R':=by
 have hp:=be h.ty h.q hR.le;have hl:=h.l;obtain⟨R1,e1,hc⟩:=eI (n:=20) (c:=1) (tg:=6) (bs:=[Z,Z,N,Z]) (it:= .cal 10 %[.var 4,.var 2|_]) (cond:= .cal 69 %[.var 0,.var 1,.var 6,.var 3|_])
  (ρ:=[O (.ref 9),O (.val (iv q)),O (.val (iv t)),O (.val (.bool st)),O (.ref 0),U,U]) (R:=R) (l:=os) (v:= .tup (pv os)) (b:=N) (p:=λo=>mt q o st) rfl (by show 6<7;exact nc) (ny hl) (hR.mono (BN hl))
  (λk S hk=>by(refine bz [eC 0 (hp k S (nl hk))] ?_;kernel_rfl))
  (λo ho R2 hR2=>by
   refine ak (u9 hR2 hq (h.q o ho) st) λR3 a1 a2=> ?_
   refine⟨R3,a1,λk S hk=> ?_⟩;have a2:=a2 k S hk
   (refine bz [eC 0 a2] ?_;kernel_rfl))
 have hho:∀o∈os.filter (mt q · st),o∈Qs∧mt q o st=Z:=λo ho=>⟨h.q o (Jm.mp ho).1,(Jm.mp ho).2⟩
 have hhl:(os.filter (mt q · st)).length≤32:=JD (JV _ _) hl;have hR1:Bd 34 R1:=hR.ext e1 (nx hl);have f1:=bF hq R1;delta ms;generalize os.filter (mt q · st)=hs at hc hho hhl ⊢;have b7:∀st,af ac .eq st (.val (iv (ah q))) (.val (.int 7))=O (ah q==7):=js 7
 have hcp:=cZ (n:=20) (tg:=6) (bs:=[N,N,N,N,Z]) (e:= .cal 66 %[.var 4,.var 6|_]) (it:= .var 5) (ρ:=[O (.ref 9),O (.val (iv q)),O (.val (iv t)),O (.val (.bool st)),O (.ref 0),O (.val (.lst (pv hs))),U]) (R:=R1) (l:=hs) (v:= .lst (pv hs)) (b:=Z) (g:=λo=> .bool (bu o)) rfl (by show 6<7;exact nc) (ny hhl) (hR1.mono (nc))
  (λk S hk=>by(refine bz [] ?_;kernel_rfl))
  (λy hy R2 hR2 k S hk=>by(refine bz [eC 0 (rk (hho y hy).1 R2 k S (nl hk))] ?_;kernel_rfl))
 cases hs with
 |nil=>
  refine⟨R1,2,e1.mono (BN hl),by rw[if_pos rfl];exact rfl,aN.body (n:=21) (fd:=cL) (by kernel_rfl) rfl rfl λk hk=> ?_⟩;have hc:=hc k [] .V (nl hk);have t0:∀st,aK st (.val (.lst []))=O N:=λst=>jO (by delta aA;simp)
  (refine aC [eX 0 ((hc).trans (aB _ _)),eB 0 (t0 zz)] ?_;kernel_rfl)
 |cons o hs=>
  rw[if_neg (by simp)];have t1:∀st,aK st (.val (.lst (iv o::KF iv hs)))=O Z:=λst=>jO (by rw[JH,Jj];exact ny hhl)
  by_cases hA:(ah q==7&&(o::hs).all bu)=Z
  ·rw[if_pos hA];rw[I8] at hA;have hall:=hA.2;have key:q=11∧∀x∈o::hs,x∈Qc:=by
    have:=λx hx=>sS hq (hho x hx).1 hA.1 (Jb.mp hA.2 x hx) (hho x hx).2
    exact⟨(this o (.head _)).1,λx hx=>(this x hx).2⟩
   obtain⟨rfl,hqc⟩:=key;induction st with
   |false=>
    refine⟨R1,11,e1.mono (BN hl),rfl,aN.body (n:=21) (fd:=cL) (by kernel_rfl) rfl rfl λk hk=> ?_⟩;have hc:=hc k [] .V (nl hk);have hcp:=λm=>hcp k [] m (nl hk)
    have f1:=f1 k [] (nl hk);have al:∀st,aF ac .all st (.val (.lst (AV.bool (bu o)::KF (λo=>AV.bool (bu o)) hs)))=O (.val (.bool Z)):=λst=>(dX (f:=bu) (o::hs)).trans (by rw[hall])
    (refine aC [eX 0 ((hc).trans (aB _ _)),eB 0 (t1 zz),eC 0 f1,eB 0 (b7 zz),eX 0 (((hcp) .V).trans (aB _ _)),eV 0 (al zz)] ?_;kernel_rfl)
   |true=>
    have hok:∀x∈o::hs,x∈Qs:=λx hx=>(hho x hx).1
    refine aw λMz kz13=> ?_
    obtain⟨R2,ts,g1,g2,g3⟩:=lN (n:=20) (c:=1) (tg:=6) (bs:=[N,Z,N,N,Z]) (e:= .cal 39 %[.var 4,.tup %[.var 1,.var 6|_]|_]) (it:= .var 5) (ρ:=[O (.ref 9),O (.val (iv 11)),O (.val (iv t)),O (.val (.bool Z)),O (.ref 0),O (.val (.lst (pv (o::hs)))),U]) (R:=R1) (l:=o::hs) (v:= .lst (pv (o::hs))) (b:=Z) (f:=λo=>[o]) rfl (by show 6<7;exact nc) (ny hhl) (hR1.mono (BN hhl)) (λy hy p hp=>by rw[Ja.mp hp];exact hok y hy)
     (λk S hk=>by(refine bz [] ?_;kernel_rfl))
     (λy hy R2 hR2 _=>by
      refine ak (zZ hR2 (hqc y hy)) λR3 a1 a2=> ?_
      refine⟨R3,y,a1,rfl,λk S hk=> ?_⟩;have a2:=a2 k S (nl hk)
      (refine bz [eC 1 a2] ?_;kernel_rfl))
    obtain⟨R',r,u1,u2,u3,_,_⟩:=aQ (hR1.ext g1 (b:=1) (nx hhl)) g2 (bp λy hy p hp=>by rw[Ja.mp hp];exact hok y hy);refine kz13 ?_;refine⟨R',r,(e1.trans g1 (JC _)).trans u1 (by omega),u2,aN.body (n:=21) (fd:=cL) (by kernel_rfl) rfl rfl λk hk=> ?_⟩;have hc:=hc k [] .V (nl hk);have hcp:=λm=>hcp k [] m (nl hk)
    have g3:=λm=>g3 k [] m (nl hk)
    simp only[JT] at hc hcp g3;have f1:=f1 k [] (nl hk);have u3:=u3 k [] (nl hk);have al:∀st,aF ac .all st (.val (.lst (AV.bool (bu o)::KF (λo=>AV.bool (bu o)) hs)))=O (.val (.bool Z)):=λst=>(dX (f:=bu) (o::hs)).trans (by rw[hall])
    (refine aC [eX 0 ((hc).trans (aB _ _)),eB 0 (t1 zz),eC 0 f1,eB 0 (b7 zz),eX 0 (((hcp) .V).trans (aB _ _)),eV 0 (al zz),eX 2 (((g3) .V).trans (aB _ _)),eC 0 u3] ?_;kernel_rfl)
  ·rw[if_neg hA];refine aX (jQ (hR1.mono (nc)) hq hf (hs:=o::hs) (λx hx=>(hho x hx).1) hhl) λR' r s1 s2 s3=> ?_
   refine⟨R',r,e1.trans s1 (nx hl),s2.ty,aN.body (n:=21) (fd:=cL) (by kernel_rfl) rfl rfl λk hk=> ?_⟩;have hc:=hc k [] .V (nl hk);have hcp:=λm=>hcp k [] m (nl hk)
   have s3:=s3 k [] (nl hk);have f1:=f1 k [] (nl hk);cases b1:(ah q==7) with
   |false=>
    rw[b1] at b7
    (refine aC [eX 0 ((hc).trans (aB _ _)),eB 0 (t1 zz),eC 0 f1,eB 0 (b7 zz),eC 0 s3] ?_;kernel_rfl)
   |true=>
    have hall:(o::hs).all bu=N:=by
     rw[b1] at hA;simpa using hA
    have al:∀st,aF ac .all st (.val (.lst (AV.bool (bu o)::KF (λo=>AV.bool (bu o)) hs)))=O (.val (.bool N)):=λst=>(dX (f:=bu) (o::hs)).trans (by rw[hall])
    rw[b1] at b7
    (refine aC [eX 0 ((hc).trans (aB _ _)),eB 0 (t1 zz),eC 0 f1,eB 0 (b7 zz),eX 0 (((hcp) .V).trans (aB _ _)),eV 0 (al zz),eC 1 s3] ?_;kernel_rfl)
noncomputable def Sg(ps:List Nat):Prop:=∀p∈ps,ah p=0→ps=[p]
theorem Sg.one(q:Nat):Sg [q]:=λp hp _=>by rw[Ja.mp hp]
theorem Cp{q:Nat}(hq:q∈Qs)(h:ah q=0):q=0∨q=1:=by
 have:∀q∈Qs,ah q=0→q=0∨q=1:=by decide+kernel
 exact this q hq h
theorem Sg.un{pss:List (List Nat)}(h:∀ps∈pss,∀p∈ps,p∈Qs):Sg (un pss):=by
 intro p hp hf;have hq:=dO h p hp;have hn:=(bG.mp hp).2;unfold Mine.un;generalize av pss=P at hn ⊢;refine aw λMz kz1=> ?_
 rcases Cp hq hf with rfl|rfl
 ·have h0:P 0=Z:=by
   refine aw λMz kz2=> ?_
   rcases jl hn with h|h|h
   ·refine kz2 ?_;exact h
   ·cases h
   ·cases h
  refine kz1 ?_;unfold aZ;rw[if_pos h0];exact eH 0 (nc)
 ·refine kz1 ?_;unfold aZ at hn ⊢;by_cases h0:P 0=Z
  ·rw[if_pos h0] at hn;exfalso;cases hn
  ·rw[if_neg h0] at hn ⊢;by_cases h13:P 13=Z
   ·rw[if_pos h13] at hn;exfalso;cases hn
   ·rw[if_neg h13] at hn ⊢;have h1:P 1=Z:=by
     by_cases h1:P 1=Z
     ·exact h1
     ·rw[if_neg h1] at hn;rw[JN] at h1;rw[h1] at hn;simp at hn
    rw[if_pos h1];exact eH 1 (nc)
theorem xm(pss:List (List Nat)):av ([]::pss)=av pss:=by
 funext q;unfold av;rw[decide_eq_decide];simp
theorem vA(ps:List Nat)(pss qss:List (List Nat))(h:av pss=av qss):av (ps::pss)=av (ps::qss):=by
 funext q
 have:=congrFun h q;unfold av at this ⊢;rw[decide_eq_decide] at this ⊢;simp only[Jh,exists_eq_or_imp,this]
theorem tz{c:Nat}{f:Nat→List Nat}:∀{l:List Nat} {R out R1},(∀y∈l,∀p∈f y,p∈Qs)→gy (λR y o R1=>bQ c R R1∧match o with|some a=>∃t,a=iv t∧aR R1 t (f y)|none=>f y=[]) R l out R1→
  (∃c',bQ c' R R1)∧∃ts pss,out=pv ts∧cT R1 ts pss∧av pss=av (l.map f)∧∀ps∈pss,∀p∈ps,p∈Qs:=by
 intro l R out R1 hf hC;induction hC with
 |nil R=>exact⟨⟨0,.rfl' _⟩,[],[],rfl,.nil,rfl,λ_ h=>nomatch h⟩
 | @cons R R1 R2 y l o out h1 _ ih=>
  obtain⟨e1,h1⟩:=h1;obtain⟨⟨c',e2⟩,ts,pss,rfl,h3,h4,h5⟩:=ih λz hz=>hf z (.tail _ hz)
  refine⟨⟨c+c',e1.trans e2 (JC _)⟩,?_⟩;cases o with
  |none=>
   have h1:f y=[]:=h1;exact⟨ts,pss,rfl,h3,by rw[JT,h1,xm];exact h4,h5⟩
  |some a=>
   obtain⟨t,rfl,h2⟩:=h1;refine⟨t::ts,f y::pss,rfl,.cons (h2.ext e2) (hf y (.head _)) h3,vA _ _ _ h4,λps hps=> ?_⟩;rcases Jh.mp hps with rfl|hps
   ·exact hf y (.head _)
   ·exact h5 ps hps
theorem kv{pss qss:List (List Nat)}(h:av pss=av qss):un pss=un qss:=by unfold un;rw[h]
theorem Gv{st:St}{f:Nat→Nat}(c:Nat):∀os:List Nat,af ac .inn st (.val (iv c)) (.val (.lst (os.map λo=>iv (f o))))=O (os.any λo=>f o==c):=λos=>by
 rw[yv,Oi]
 congr 1
 congr 1
 funext o
 show QQ (I9 (f o)=I9 c)=_;rw[az,L8]
theorem ou{R:List AV}{q:Nat}(h:q∈Qs):Kd R q [q]:=⟨rfl,λp hp=>by rw[Ja.mp hp];exact h,by simp⟩
theorem CN(os:List Nat):pv (os.map ah)=os.map λo=>iv (ah o):=by simp only[Mq];rfl
noncomputable def fK(os:List Nat)(st:Bool):List Nat:=
 if(!st&&fj os)=Z then un [[4],[5]] else if st=N then[1]
 else if os.any (λo=>ah o==7)=Z then(if(os.all (λo=>ah o==7)&& !os.any (·==11))=Z then[10] else[1]) else os
theorem G9(k:Nat)(R S):Qa.map (λq=>Fn pg ac (k+7) 49 [.ref 0,.val (iv q)] ⟨ag R,S⟩)=Qa.map (λq=>O (.val (.bool (q==11)),⟨ag R,S⟩)):=by kernel_rfl
theorem Hg{q:Nat}(hq:q∈Qs):(ah q==6)=N:=by
 have:∀q∈Qs,(ah q==6)=N:=by decide+kernel
 exact this q hq
theorem pK{R:List AV}(hR:Bd 1 R){t:Nat}{os:List Nat}(h:Kd R t os)(hs:∀o∈os,ah o≠0)(st:Bool):
  ∃R' r,bQ 1 R R'∧Kd R' r (fK os st)∧aN 9 61 [.ref 0,.val (iv t),.val (.bool st)] R (.val (iv r)) R':=by
 have hp:=be h.ty h.q hR.le;have hl:=h.l;have hn:=cj h (hR.mono (nc));have hc:=cZ (n:=8) (tg:=5) (bs:=[Z]) (e:= .cal 22 %[.var 0,.var 5|_]) (it:= .cal 10 %[.var 0,.var 1|_]) (ρ:=[O (.ref 0),O (.val (iv t)),O (.val (.bool st)),U,U,U,U]) (R:=R) (l:=os) (v:= .tup (pv os)) (b:=N) (g:=λo=>iv (ah o)) rfl (by show 5<7;exact nc) (ny hl) (hR.mono (nc))
  (λk S hk=>by(refine bz [eC 0 (hp k S (nl hk))] ?_;kernel_rfl))
  (λy hy R2 hR2 k S hk=>by(refine bz [eC 0 (bF (h.q y hy) R2 k S (nl hk))] ?_;kernel_rfl))
 have i0:∀st,af ac .inn st (.val (.int 0)) (.val (.lst (os.map λo=>iv (ah o))))=O N:=λst=>by
  have:=Gv (st:=st) (f:=ah) 0 os;rw[show(os.any λo=>ah o==0)=N from MK.mpr λo ho=>by simp[hs o ho]] at this;exact this
 have i6:∀st,af ac .inn st (.val (.int 6)) (.val (.lst (os.map λo=>iv (ah o))))=O N:=λst=>by
  have:=Gv (st:=st) (f:=ah) 6 os;rw[show(os.any λo=>ah o==6)=N from MK.mpr λo ho=>by rw[Hg (h.q o ho)];simp] at this;exact this
 have i7:∀st,af ac .inn st (.val (.int 7)) (.val (.lst (os.map λo=>iv (ah o))))=O (os.any λo=>ah o==7):=λst=>Gv (st:=st) (f:=ah) 7 os
 cases st with
 |false=>
  cases hk:fj os with
  |true=>
   obtain⟨R',r,e1,e2,_,e3,_⟩:=aQ hR (ts:=[4,5]) (pss:=[[4],[5]]) (.cons rfl (by decide) (.cons rfl (by decide) .nil)) (by decide);refine⟨R',r,e1,?_,aN.body (n:=8) (fd:=bw) (by kernel_rfl) rfl rfl λk hk2=> ?_⟩
   ·unfold fK;rw[hk];exact dS (by decide) e2
   ·have hn:=hn k [] (nl hk2);rw[hk] at hn;have e3:Fn pg ac k 16 [.ref 0,.val (.tup [.int 4,.int 5])] ⟨ag R,[]⟩=O (.val (iv r),⟨ag R',[]⟩):=e3 k [] (nl hk2)
    (refine aC [eC 1 hn,eC 2 e3] ?_;kernel_rfl)
  |false=>
   refine⟨R,1,.rfl' _,?_,aN.body (n:=8) (fd:=bw) (by kernel_rfl) rfl rfl λk hk2=> ?_⟩
   ·rw[show fK os N=[1] from by unfold fK;rw[hk];rfl];exact ou (by decide)
   ·have hn:=hn k [] (nl hk2);rw[hk] at hn;have hc:=hc k [] .V (by exact hk2)
    (refine aC [eC 1 hn,eX 1 ((hc).trans (aB _ _))] ?_;kernel_rfl)
 |true=>
  cases h7:(os.any λo=>ah o==7) with
  |false=>
   refine⟨R,t,.rfl' _,?_,aN.body (n:=8) (fd:=bw) (by kernel_rfl) rfl rfl λk hk2=> ?_⟩
   ·rw[show fK os Z=os from by unfold fK;rw[h7];rfl];exact h
   ·have hc:=hc k [] .V (by exact hk2);rw[h7] at i7
    (refine aC [eX 1 ((hc).trans (aB _ _)),eB 1 (i0 zz),eB 0 (i6 zz),eB 0 (i7 zz)] ?_;kernel_rfl)
  |true=>
   rw[h7] at i7;have hall:=cZ (n:=8) (tg:=6) (bs:=[]) (e:= .cmp .eq (.var 6) (.glb 29)) (it:= .var 3) (ρ:=[O (.ref 0),O (.val (iv t)),O (.val (.bool Z)),O (.val (.lst (os.map λo=>iv (ah o)))),U,U,U]) (R:=R) (l:=os.map ah) (v:= .lst (os.map λo=>iv (ah o))) (b:=Z) (g:=λo=> .bool (o==7)) (by rw[CN];rfl) (by show 6<7;exact nc) (by rw[Jj];exact ny hl) (hR.mono (nc))
    (λk S hk=>by(refine bz [] ?_;kernel_rfl))
    (λy hy R2 hR2 k S hk=>by
     have e7:∀st,af ac .eq st (.val (iv y)) (.val (.int 7))=O (y==7):=js 7
     (refine bz [eB 0 (e7 zz)] ?_;kernel_rfl))
   have a7:∀st,aF ac .all st (.val (.lst ((os.map ah).map λo=>AV.bool (o==7))))=O (.val (.bool (os.all λo=>ah o==7))):=λst=>(dX (f:=λo=>o==7) (os.map ah)).trans (by rw[N6];rfl)
   cases ha:(os.all λo=>ah o==7) with
   |false=>
    rw[ha] at a7;refine⟨R,1,.rfl' _,?_,aN.body (n:=8) (fd:=bw) (by kernel_rfl) rfl rfl λk hk2=> ?_⟩
    ·rw[show fK os Z=[1] from by unfold fK;rw[h7,ha];rfl];exact ou (by decide)
    ·have hc:=hc k [] .V (by exact hk2);have hall:=λm=>hall k [] m (by exact hk2)
     (refine aC [eX 1 ((hc).trans (aB _ _)),eB 1 (i0 zz),eB 0 (i6 zz),eB 0 (i7 zz),eX 0 (((hall) .V).trans (aB _ _)),eV 0 (a7 zz)] ?_;kernel_rfl)
   |true=>
    rw[ha] at a7;have hany:=cZ (n:=8) (tg:=5) (bs:=[Z]) (e:= .cal 49 %[.var 0,.var 5|_]) (it:= .cal 10 %[.var 0,.var 1|_]) (ρ:=[O (.ref 0),O (.val (iv t)),O (.val (.bool Z)),O (.val (.lst (os.map λo=>iv (ah o)))),O (.val (.bool Z)),U,U]) (R:=R) (l:=os) (v:= .tup (pv os)) (b:=N) (g:=λo=> .bool (o==11)) rfl (by show 5<7;exact nc) (ny hl) (hR.mono (nc))
     (λk S hk=>by(refine bz [eC 0 (hp k S (nl hk))] ?_;kernel_rfl))
     (λy hy R2 hR2 k S hk=>by
      obtain⟨j,rfl⟩:∃j,k=j+7:=⟨k - 7,nq hk⟩
      have l1:=aq (G9 j R2 S) y (qP (h.q y hy) (Jb.mp ha y hy))
      (refine bz [eC 0 l1] ?_;kernel_rfl))
    have an:∀st,aF ac .any st (.val (.lst (os.map λo=>AV.bool (o==11))))=O (.val (.bool (os.any (·==11)))):=λst=>tX (f:=λo=>o==11) os
    refine⟨R,if(!os.any (·==11))=Z then 10 else 1,.rfl' _,?_,aN.body (n:=8) (fd:=bw) (by kernel_rfl) rfl rfl λk hk2=> ?_⟩
    ·cases hb:(os.any (·==11)) with
     |true=>rw[show fK os Z=[1] from by unfold fK;rw[h7,ha,hb];rfl];exact ou (by decide)
     |false=>rw[show fK os Z=[10] from by unfold fK;rw[h7,ha,hb];rfl];exact ou (by decide)
    ·have hc:=hc k [] .V (by exact hk2);have hall:=λm=>hall k [] m (by exact hk2)
     have hany:=λm=>hany k [] m (by exact hk2)
     generalize(os.any (·==11))=b11 at an ⊢;cases b11<;>(refine aC [eX 1 ((hc).trans (aB _ _)),eB 1 (i0 zz),eB 0 (i6 zz),eB 0 (i7 zz),eX 0 (((hall) .V).trans (aB _ _)),eV 0 (a7 zz),eX 1 (((hany) .V).trans (aB _ _)),eV 0 (an zz)] ?_;kernel_rfl)
theorem um{c:Bool}{acc:List AV}{a:AV}:acc++(if c=Z then O a else U).toList=bif c then acc++[a] else acc:=by
 cases c
 ·exact Je acc
 ·rfl
section
variable{R:List AV}
theorem A7{acc:List AV}{a:AV}(h:acc.length<10000):iu ⟨ag R,[.list acc]⟩ (.loc 0) (.val a)=O ⟨ag R,[.list (acc++[a])]⟩:=by
 show(if acc.length<aA then O (bU ⟨ag R,[.list acc]⟩ (.loc 0) (.list (acc++[a]))) else U)=_;rw[if_pos (by exact nr h)];rfl
end
noncomputable def Eo(ps os:List Nat)(st:Bool):List Nat:=un (ps.map λq=>if(ew (ah q)&&(if st then os else un [[4],[5]]).any (λo=>pm q o st))=Z then[q] else[])
theorem CD{q:Nat}(hq:q∈Qs)(h:ah q≠0)(hn:ew (ah q)=N):Gx q=N:=by
 have:∀q∈Qs,ah q≠0→ew (ah q)=N→Gx q=N:=by decide+kernel
 exact this q hq h hn
theorem HN{q:Nat}(h:ah q≠0):∀st,af ac .inn st (.val (iv q)) (.val (.tup [.int 0,.int 13]))=O N:=λst=>et (by
 show(QQ (I9 0=I9 q)||(QQ (I9 13=I9 q)||false))=N;rw[az,az];have h0:q≠0:=λe=>h (by rw[e];rfl)
 have h13:q≠13:=λe=>h (by rw[e];decide+kernel)
 simp[h0,h13])
theorem vV{R:List AV}(hR:Bd 0 R){t t2:Nat}{ps os:List Nat}(h2:Kd R t2 os)(hq:∀q∈ps,q∈Qs)(hs:∀q∈ps,ah q≠0)(st:Bool):
  ∃ts pss,cT R ts pss∧av pss=av (ps.map λq=>if(ew (ah q)&&os.any (λo=>pm q o st))=Z then[q] else[])∧(∀ps∈pss,∀p∈ps,p∈Qs)∧
   ∀k,8≤k→ps.length<9000→∃x5,bB (bn 5) (ex pg ac (Fn pg ac k) %[.ife (.cmp .inn (.cal 22 %[.var 0,.var 5|_]) (.glb 57)) %[.ife (.fn1 .any (.comp N 6 [Z,N,N,Z,N,Z] (.cal 56 %[.var 0,.var 5,.var 6,.var 3|_]) (.cal 10 %[.var 0,.var 2|_]) (.cst (.bool Z)))) %[.exp (.app (.var 4) (.var 5))|_] .nil|_] %[.ife (.cmp .inn (.var 5) (.tup %[.glb 16,.glb 17|_])) %[.exp (.app (.var 4) (.var 5))|_] %[.ife (.cal 42 %[.var 0,.var 5|_]) %[.exp (.app (.var 4) (.cal 39 %[.var 0,.tup %[.var 5,.var 2|_]|_]))|_] .nil|_]|_]|_]) (aP (.val (.tup (pv ps))) N (pv ps)) (pv ps) [O (.ref 0),O (.val (iv t)),O (.val (iv t2)),O (.val (.bool st)),O (.loc 0),U,U] ⟨ag R,[.list []]⟩=
    O (U,[O (.ref 0),O (.val (iv t)),O (.val (iv t2)),O (.val (.bool st)),O (.loc 0),x5,U],⟨ag R,[.list (pv ts)]⟩):=by
 have hl:=h2.l;refine aw λMz kz4=> ?_
 obtain⟨out,R1,hC,hE,_,hf⟩:=gi (α:=Nat) (en:=iv) (c:=0) (asg:=bn 5) (ok:=aP (.val (.tup (pv ps))) N (pv ps))
  (Q:=λR2 q o R3=>bQ 0 R2 R3∧match o with|some a=>∃t,a=iv t∧aR R3 t (if(ew (ah q)&&os.any (λo=>pm q o st))=Z then[q] else[])|none=>(if(ew (ah q)&&os.any (λo=>pm q o st))=Z then[q] else[])=[])
  (body:=λk=>ex pg ac (Fn pg ac k) %[.ife (.cmp .inn (.cal 22 %[.var 0,.var 5|_]) (.glb 57)) %[.ife (.fn1 .any (.comp N 6 [Z,N,N,Z,N,Z] (.cal 56 %[.var 0,.var 5,.var 6,.var 3|_]) (.cal 10 %[.var 0,.var 2|_]) (.cst (.bool Z)))) %[.exp (.app (.var 4) (.var 5))|_] .nil|_] %[.ife (.cmp .inn (.var 5) (.tup %[.glb 16,.glb 17|_])) %[.exp (.app (.var 4) (.var 5))|_] %[.ife (.cal 42 %[.var 0,.var 5|_]) %[.exp (.app (.var 4) (.cal 39 %[.var 0,.tup %[.var 5,.var 2|_]|_]))|_] .nil|_]|_]|_]) (λ_=>rfl) (J:=λk ρ=>8≤k∧∃x5,ρ=[O (.ref 0),O (.val (iv t)),O (.val (iv t2)),O (.val (.bool st)),O (.loc 0),x5,U]) (S0:=[]) ps
  (λq hqm R2 hR2 hF=>by
   refine aG hF λcF xF=> ?_
   have hp:=be (h2.ext xF).ty h2.q hR2.le;refine⟨if(ew (ah q)&&os.any (λo=>pm q o st))=Z then O (iv q) else U,R2,?_,.rfl' _,λk ρ acc hJ hacc=> ?_⟩
   ·refine⟨.rfl' _,?_⟩;by_cases hc:(ew (ah q)&&os.any (λo=>pm q o st))=Z
    ·rw[if_pos hc,if_pos hc];exact⟨q,rfl,rfl⟩
    ·rw[if_neg hc,if_neg hc]
   ·refine aw λMz kz3=> ?_
    obtain⟨hk,x5,rfl⟩:=hJ;have f1:=bF (hq q hqm) R2 k [.list acc] (nl hk);have a1:=A7 (R:=R2) (a:=iv q) hacc;have i1:∀st,af ac .inn st (.val (iv (ah q))) (.val (.tup [.int 4,.int 5,.int 6]))=O (ew (ah q)):=λst=>lU _
    have hcm:=cZ (n:=8) (tg:=6) (bs:=[Z,N,N,Z,N,Z]) (e:= .cal 56 %[.var 0,.var 5,.var 6,.var 3|_]) (it:= .cal 10 %[.var 0,.var 2|_]) (ρ:=[O (.ref 0),O (.val (iv t)),O (.val (iv t2)),O (.val (.bool st)),O (.loc 0),O (.val (iv q)),U]) (R:=R2) (l:=os) (v:= .tup (pv os)) (b:=N) (g:=λo=> .bool (pm q o st)) rfl (nc) (ny hl) hR2
     (λk S hk=>by(refine bz [eC 0 (hp k S (nl hk))] ?_;kernel_rfl))
     (λy hy R3 hR3 k S hk=>by(refine bz [eC 0 (si (hq q hqm) (h2.q y hy) R3 st k S (nl hk))] ?_;kernel_rfl))
    have hcm:=hcm k [.list acc] .V hk;have an:∀s,aF ac .any s (.val (.lst (os.map λo=>AV.bool (pm q o st))))=O (.val (.bool (os.any λo=>pm q o st))):=λs=>tX (f:=λo=>pm q o st) os
    refine kz3 ?_;refine⟨[O (.ref 0),O (.val (iv t)),O (.val (iv t2)),O (.val (.bool st)),O (.loc 0),O (.val (iv q)),U],[O (.ref 0),O (.val (iv t)),O (.val (iv t2)),O (.val (.bool st)),O (.loc 0),O (.val (iv q)),U],rfl,⟨hk,_,rfl⟩,?_⟩;rw[um];cases hn:ew (ah q) with
    |true=>
     rw[hn] at i1;generalize(os.any λo=>pm q o st)=b at an ⊢;cases b
     ·(refine dw [eC 0 f1,eB 0 (i1 zz),eX 0 ((hcm).trans (aB _ _)),eV 0 (an zz)] ?_;kernel_rfl)
     ·(refine dw [eC 0 f1,eB 0 (i1 zz),eX 0 ((hcm).trans (aB _ _)),eV 0 (an zz),eT 1 a1] ?_;kernel_rfl)
    |false=>
     rw[hn] at i1;have m1:=AT (hq q hqm) R2 k [.list acc] (nl hk);rw[CD (hq q hqm) (hs q hqm) hn] at m1;have n1:=HN (hs q hqm)
     (refine dw [eC 0 f1,eB 0 (i1 zz),eB 1 (n1 zz),eC 0 m1] ?_;kernel_rfl)) R (by rw[Ke];exact hR) (.refl R)
 have hfq:∀q∈ps,∀p∈(if(ew (ah q)&&os.any (λo=>pm q o st))=Z then[q] else[]),p∈Qs:=λq h p hp=>by
  refine aw λMz kz5=> ?_
  refine aw λMz kz62=> ?_
  split at hp
  ·refine kz62 ?_;refine kz5 ?_;exact(Ja.mp hp)▸(hq q h)
  ·refine kz62 ?_;exact nomatch hp
 obtain⟨_,ts,pss,rfl,g1,g2,g3⟩:=tz hfq hC;have hRR:R1=R:=by
  refine aw λMz kz6=> ?_
  refine cG hE λX e hX _=> ?_
  rw[Ke] at hX;have hX0:X=[]:=Jo (Kt hX);refine kz6 ?_;rw[e,hX0,Je]
 cases hRR;refine kz4 ?_;refine⟨ts,pss,g1,g2,g3,λk hk hlen=> ?_⟩;refine aw λMz kz7=> ?_
 obtain⟨ρ',⟨_,x5,rfl⟩,hf⟩:=hf k [O (.ref 0),O (.val (iv t)),O (.val (iv t2)),O (.val (.bool st)),O (.loc 0),U,U] [] ⟨hk,U,rfl⟩ (by simp;exact nr hlen);refine kz7 ?_;exact⟨x5,hf⟩
theorem xU{R:List AV}(hR:Bd 2 R){t t2:Nat}{ps os:List Nat}(h1:Kd R t ps)(h2:Kd R t2 os)(hs:∀q∈ps,ah q≠0)(st:Bool):
  ∃R' r,bQ 2 R R'∧Kd R' r (Eo ps os st)∧aN 10 60 [.ref 0,.val (iv t),.val (iv t2),.val (.bool st)] R (.val (iv r)) R':=by
 have key:∃R1 t3,bQ 1 R R1∧Kd R1 t3 (if st then os else un [[4],[5]])∧(st=Z→R1=R∧t3=t2)∧(st=N→aN 3 16 [.ref 0,.val (.tup [.int 4,.int 5])] R (.val (iv t3)) R1):=by
  induction st with
  |true=>exact⟨R,t2,.rfl' _,h2,λ_=>⟨rfl,rfl⟩,(λh=>nomatch h)⟩
  |false=>
   obtain⟨R',r,e1,e2,_,e3,_⟩:=aQ (hR.mono (nc)) (ts:=[4,5]) (pss:=[[4],[5]]) (.cons rfl (by decide) (.cons rfl (by decide) .nil)) (by decide);exact⟨R',r,e1,dS (by decide) e2,(λh=>nomatch h),λ_=>e3⟩
 refine vB key λR1 t3 e1 k3 c1 c2=> ?_
 have k1:=h1.ext e1;have hR1:Bd 1 R1:=hR.ext e1 (nc);refine vB (vV (t:=t) (hR1.mono (nc)) k3 h1.q hs st) λts pss g1 g2 g3 g4=> ?_
 refine vH (aQ hR1 g1 g3) λR' r u1 u2 _ _ u3=> ?_
 have hl:=h1.l;have hp:=be k1.ty k1.q hR1.le;have hne:t≠1:=λe=>by
  have:=(h1.ty.ne (c:=1) (by decide) h1.q hR.le).mp e;exact hs 1 (by rw[this];exact .head _) (by decide+kernel)
 have i1:∀s,af ac .eq s (.val (iv t)) (.val (.int 1))=O N:=λs=>by
  have:=js (a:=t) 1 s;rw[show(t==1)=N from by simp[hne]] at this;exact this
 refine⟨R',r,e1.trans u1 (nc),?_,aN.body (n:=9) (fd:=fy) (by kernel_rfl) rfl rfl λk hk=> ?_⟩
 ·have hk:Kd R' r (un pss):=dS g3 u2;rw[kv g2] at hk;exact hk
 ·refine aG (g4 k (nl hk) (ny hl)) λx5 g4=> ?_
  have u3:Fn pg ac k 16 [.ref 0,.loc 0] ⟨ag R1,[.list (pv ts)]⟩=O (.val (iv r),⟨ag R',[.list (pv ts)]⟩):=u3 k [] (nl hk);have hp:=hp k [.list []] (nl hk);induction st with
  |true=>
   refine aO (c1 rfl) λoz5 oz6=> ?_
   subst oz5;subst oz6
   (refine aC [eB 1 (i1 zz),eC 1 hp,eS 0 g4,eC 0 u3] ?_;kernel_rfl)
  |false=>
   have c2:=c2 rfl k [] (nl hk)
   (refine aC [eC 2 c2,eB 0 (i1 zz),eC 1 hp,eS 0 g4,eC 0 u3] ?_;kernel_rfl)
noncomputable def lZ(q:Nat)(os:List Nat)(st:Bool):List Nat:=if os.filter (pm q · st)=[] then[] else yX q (os.filter (pm q · st))
theorem FJ{q:Nat}(hq:q∈Qs){hs:List Nat}(hh:∀o∈hs,o∈Qs):∀p∈yX q hs,p∈Qs:=by
 intro p hp;delta yX at hp;split at hp
 ·exact dO (bp λo h p hp=>by rw[Ja.mp hp];exact hh o h) p hp
 ·rw[Ja.mp hp];exact hq
theorem wx{q:Nat}(hq:q∈Qs){os:List Nat}(ho:∀o∈os,o∈Qs)(st:Bool):∀p∈lZ q os st,p∈Qs:=by
 intro p hp;delta lZ at hp;split at hp
 ·exact nomatch hp
 ·exact FJ hq (λo h=>ho o (Jm.mp h).1) p hp
theorem yn{R:List AV}{t t2:Nat}{ps os:List Nat}(hR:Bd ps.length R)(h2:Kd R t2 os)(hq:∀q∈ps,q∈Qs)(hs:∀q∈ps,ah q≠0)(st:Bool):
  ∃R1 ts pss,bQ ps.length R R1∧cT R1 ts pss∧av pss=av (ps.map λq=>lZ q os st)∧(∀ps∈pss,∀p∈ps,p∈Qs)∧
   ∀k,8≤k→ps.length<9000→∃x5 x6,bB (bn 5) (ex pg ac (Fn pg ac k) %[.asc 6 (.comp N 7 [Z,N,N,Z,N,Z] (.var 7) (.cal 10 %[.var 0,.var 2|_]) (.cal 56 %[.var 0,.var 5,.var 7,.var 3|_])),.ife (.var 6) %[.exp (.app (.var 4) (.cal 58 %[.var 0,.var 5,.var 6|_]))|_] .nil|_]) (aP (.val (.tup (pv ps))) N (pv ps)) (pv ps) [O (.ref 0),O (.val (iv t)),O (.val (iv t2)),O (.val (.bool st)),O (.loc 0),U,U,U] ⟨ag R,[.list []]⟩=
    O (U,[O (.ref 0),O (.val (iv t)),O (.val (iv t2)),O (.val (.bool st)),O (.loc 0),x5,x6,U],⟨ag R1,[.list (pv ts)]⟩):=by
 have hl:=h2.l;refine aw λMz kz6=> ?_
 obtain⟨out,R1,hC,hE,_,hf⟩:=gi (α:=Nat) (en:=iv) (c:=1) (asg:=bn 5) (ok:=aP (.val (.tup (pv ps))) N (pv ps))
  (Q:=λR2 q o R3=>bQ 1 R2 R3∧match o with|some a=>∃t,a=iv t∧aR R3 t (lZ q os st)|none=>lZ q os st=[])
  (body:=λk=>ex pg ac (Fn pg ac k) %[.asc 6 (.comp N 7 [Z,N,N,Z,N,Z] (.var 7) (.cal 10 %[.var 0,.var 2|_]) (.cal 56 %[.var 0,.var 5,.var 7,.var 3|_])),.ife (.var 6) %[.exp (.app (.var 4) (.cal 58 %[.var 0,.var 5,.var 6|_]))|_] .nil|_]) (λ_=>rfl) (J:=λk ρ=>8≤k∧∃x5 x6,ρ=[O (.ref 0),O (.val (iv t)),O (.val (iv t2)),O (.val (.bool st)),O (.loc 0),x5,x6,U]) (S0:=[]) ps
  (λq hqm R2 hR2 hF=>by
   obtain⟨cF,xF⟩:=hF;dsimp only[BW];have hp:=be (h2.ext xF).ty h2.q hR2.le;have hhq:∀o∈os.filter (pm q · st),o∈Qs:=λo h=>h2.q o (Jm.mp h).1
   have hhl:(os.filter (pm q · st)).length≤32:=JD (JV _ _) hl;have hcf:∀(x6:Option LV),∀k S m,8≤k→ev pg ac (Fn pg ac k) (.comp N 7 [Z,N,N,Z,N,Z] (.var 7) (.cal 10 %[.var 0,.var 2|_]) (.cal 56 %[.var 0,.var 5,.var 7,.var 3|_])) m [O (.ref 0),O (.val (iv t)),O (.val (iv t2)),O (.val (.bool st)),O (.loc 0),O (.val (iv q)),x6,U] ⟨ag R2,S⟩=bv m (O (.val (.lst (pv (os.filter (pm q · st)))),⟨ag R2,S⟩)):=by
    intro x6;obtain⟨R3,e3,hc⟩:=eI (n:=8) (c:=0) (tg:=7) (bs:=[Z,N,N,Z,N,Z]) (it:= .cal 10 %[.var 0,.var 2|_]) (cond:= .cal 56 %[.var 0,.var 5,.var 7,.var 3|_])
     (ρ:=[O (.ref 0),O (.val (iv t)),O (.val (iv t2)),O (.val (.bool st)),O (.loc 0),O (.val (iv q)),x6,U]) (R:=R2) (l:=os) (v:= .tup (pv os)) (b:=N) (p:=λo=>pm q o st) rfl (by show 7<8;exact nc) (ny hl) (hR2.mono (BN hl))
     (λk S hk=>by(refine bz [eC 0 (hp k S (nl hk))] ?_;kernel_rfl))
     (λo ho R4 hR4=>⟨R4,.rfl' _,λk S hk=>by(refine bz [eC 0 (si (hq q hqm) (h2.q o ho) R4 st k S (nl hk))] ?_;kernel_rfl)⟩)
    have hRR:R3=R2:=by
     refine aw λMz kz5=> ?_
     obtain⟨X,e,hX,_⟩:=e3;rw[Ke] at hX;have hX0:X=[]:=Jo (by exact Kt hX);refine kz5 ?_;rw[e,hX0,Je]
    subst hRR;exact hc
   delta lZ;generalize os.filter (pm q · st)=hits at hcf hhq hhl ⊢;induction hits with
   |nil=>
    refine⟨U,R2,⟨.rfl' _,if_pos rfl⟩,.rfl' _,λk ρ acc hJ hacc=> ?_⟩;obtain⟨hk,x5,x6,rfl⟩:=hJ;have hcf:=hcf x6 k [.list acc] .V hk;have t0:∀st,aK st (.val (.lst []))=O N:=λst=>jO (by delta aA;simp)
    refine⟨[O (.ref 0),O (.val (iv t)),O (.val (iv t2)),O (.val (.bool st)),O (.loc 0),O (.val (iv q)),x6,U],[O (.ref 0),O (.val (iv t)),O (.val (iv t2)),O (.val (.bool st)),O (.loc 0),O (.val (iv q)),O (.val (.lst [])),U],rfl,⟨hk,_,_,rfl⟩,?_⟩;rw[show acc++(U:Option AV).toList=acc from Je acc]
    (refine dw [eX 0 ((hcf).trans (aB _ _)),eB 0 (t0 zz)] ?_;kernel_rfl)
   |cons o hits=>
    obtain⟨R3,r,s1,s2,s3⟩:=jQ hR2 (hq q hqm) (hs q hqm) (hs:=o::hits) hhq hhl;refine⟨O (iv r),R3,⟨s1,r,rfl,s2.ty⟩,s1,λk ρ acc hJ hacc=> ?_⟩;obtain⟨hk,x5,x6,rfl⟩:=hJ;have hcf:=hcf x6 k [.list acc] .V hk;have s3:=s3 k [.list acc] (nl hk);have t1:∀st,aK st (.val (.lst (iv o::KF iv hits)))=O Z:=λst=>jO (by rw[JH,Jj];exact ny hhl)
    have a1:=A7 (R:=R3) (a:=iv r) hacc;refine⟨[O (.ref 0),O (.val (iv t)),O (.val (iv t2)),O (.val (.bool st)),O (.loc 0),O (.val (iv q)),x6,U],[O (.ref 0),O (.val (iv t)),O (.val (iv t2)),O (.val (.bool st)),O (.loc 0),O (.val (iv q)),O (.val (.lst (iv o::KF iv hits))),U],rfl,⟨hk,_,_,rfl⟩,?_⟩
    (refine dw [eX 0 ((hcf).trans (aB _ _)),eB 0 (t1 zz),eC 0 s3,eT 0 a1] ?_;kernel_rfl)) R (by rw[Qe];exact hR) (.refl R)
 obtain⟨_,ts,pss,rfl,g1,g2,g3⟩:=tz (λq h=>wx (hq q h) h2.q st) hC;rw[Qe] at hE;refine kz6 ?_;refine⟨R1,ts,pss,hE,g1,g2,g3,λk hk hlen=> ?_⟩;refine aw λMz kz7=> ?_
 obtain⟨ρ',⟨_,x5,x6,rfl⟩,hf⟩:=hf k [O (.ref 0),O (.val (iv t)),O (.val (iv t2)),O (.val (.bool st)),O (.loc 0),U,U,U] [] ⟨hk,U,U,rfl⟩ (by simp;exact nr hlen);refine kz7 ?_;exact⟨x5,x6,hf⟩
noncomputable def qk(ps os:List Nat)(st:Bool):List Nat:=
 if ps=[1] then fK os st else if fj os=Z then Eo ps os st else un (ps.map λq=>lZ q os st)
theorem rD{R:List AV}{t:Nat}{ps:List Nat}(h:Kd R t ps)(hR:R.length≤900000)(c:Nat)(hc:c∈[0,1,4,5,13]):∀s,af ac .eq s (.val (iv t)) (.val (iv c))=O (QQ (ps=[c])):=λs=>by
 have h1:=h.ty.ne hc h.q hR;rw[fi]
 congr 1
 rw[K7,beq_iff_eq,decide_eq_true_eq];exact h1
theorem jt{ps:List Nat}(hq:∀q∈ps,q∈Qs)(hs:Sg ps)(h0:ps≠[0])(h1:ps≠[1]):∀q∈ps,ah q≠0:=λq h e=>by
 have:=hs q h e;rcases Cp (hq q h) e with rfl|rfl
 ·exact h0 this
 ·exact h1 this
theorem zK{R:List AV}(hR:Bd 33 R){t t2:Nat}{ps os:List Nat}(h1:Kd R t ps)(h2:Kd R t2 os)(g1:Sg ps)(g0:ps≠[0])(hs2:∀o∈os,ah o≠0)(st:Bool):
  ∃R' r,bQ 33 R R'∧Kd R' r (qk ps os st)∧aN 12 62 [.ref 0,.val (iv t),.val (iv t2),.val (.bool st)] R (.val (iv r)) R':=by
 have i1:∀s,af ac .eq s (.val (iv t)) (.val (.int 1))=O (QQ (ps=[1])):=rD h1 hR.le 1 (by decide)
 have hl:=h1.l;delta qk;by_cases hA:ps=[1]
 ·rw[if_pos hA];refine aX (pK (hR.mono (nc)) h2 hs2 st) λR' r e1 e2 e3=> ?_
  refine⟨R',r,e1.mono (nc),e2,aN.body (n:=11) (fd:=bY) (by kernel_rfl) rfl rfl λk hk=> ?_⟩;have e3:=e3 k [] (nl hk);have d1:QQ (ps=[1])=Z:=decide_eq_true hA;rw[d1] at i1
  (refine aC [eB 0 (i1 zz),eC 0 e3] ?_;kernel_rfl)
 ·rw[if_neg hA];have d1:QQ (ps=[1])=N:=decide_eq_false hA;rw[d1] at i1;have hs:=jt h1.q g1 g0 hA;have hn:=cj h2 (hR.mono (nc));cases hk:fj os with
  |true=>
   refine aX (xU (hR.mono (nc)) h1 h2 hs st) λR' r e1 e2 e3=> ?_
   refine⟨R',r,e1.mono (nc),e2,aN.body (n:=11) (fd:=bY) (by kernel_rfl) rfl rfl λk hk2=> ?_⟩;have e3:=e3 k [] (nl hk2);have hn:=hn k [] (nl hk2);rw[hk] at hn
   (refine aC [eB 0 (i1 zz),eC 0 hn,eC 1 e3] ?_;kernel_rfl)
  |false=>
   refine HB (yn (t:=t) (hR.mono (nr hl)) h2 h1.q hs st) λR1 ts pss e1 a1 a2 a3 a4=> ?_
   refine vH (aQ (hR.ext e1 (b:=1) (Lp hl)) a1 a3) λR' r u1 u2 _ _ u3=> ?_
   refine⟨R',r,e1.trans u1 (Lp hl),?_,aN.body (n:=11) (fd:=bY) (by kernel_rfl) rfl rfl λk hk2=> ?_⟩
   ·have:=dS a3 u2;rw[kv a2] at this;exact this
   ·refine te (a4 k (nl hk2) (ny hl)) λx5 x6 a4=> ?_
    have u3:Fn pg ac k 16 [.ref 0,.loc 0] ⟨ag R1,[.list (pv ts)]⟩=O (.val (iv r),⟨ag R',[.list (pv ts)]⟩):=u3 k [] (nl hk2);have hp:=be h1.ty h1.q hR.le k [.list []] (nl hk2);have hn:=hn k [] (nl hk2);rw[hk] at hn
    (refine aC [eB 0 (i1 zz),eC 0 hn,eC 2 hp,eS 0 a4,eC 0 u3] ?_;kernel_rfl)
section
set_option tactic.hygienic true
noncomputable def HR:List Nat→AV
 |[o]=>eJ o
 |_=> .tup []
theorem BD(k:Nat)(R S):Fn pg ac (k+3) 55 [.ref 0,.val (iv 2)] ⟨ag R,S⟩=O (.val (.tup []),⟨ag R,S⟩):=by kernel_rfl
theorem Bl{R:List AV}{t:Nat}{os:List Nat}(h:Kd R t os)(hR:R.length≤900000):aN 3 55 [.ref 0,.val (iv t)] R (.val (HR os)) R:=by
 match os,h with
 |[],h=>
  have:t=2:=h.ty;subst this;exact .of λk S=>BD k R S
 |[o],h=>
  have:t=o:=h.ty;subst this;exact kX (h.q t (.head _)) R
 |p::q::os,h=>
  refine cI (h.ty.row hR) λh1 h2 _=> ?_
  have i4:=rD h hR 4 (by decide);have i5:=rD h hR 5 (by decide);have d4:QQ (p::q::os=[4])=N:=decide_eq_false (by simp);have d5:QQ (p::q::os=[5])=N:=decide_eq_false (by simp);rw[d4] at i4;rw[d5] at i5;have h3:∀S,aL ac ⟨ag R,S⟩ (.ref 1) (.val (iv t))=O (.val (lX (p::q::os))):=λS=>cU h1 h2
  have j5:∀s,af ac .eq s (.val (.int 6)) (.val (.int 5))=O N:=λs=>rfl
  have j6:∀s,af ac .inn s (.val (.int 6)) (.val (.tup [.int 2,.int 3,.int 4]))=O N:=λs=>by kernel_rfl
  refine aN.body (n:=2) (fd:=gw) (by kernel_rfl) rfl rfl λk _=> ?_
  (refine aC [eV 0 (h3 ([])),eB 0 (i4 zz),eB 0 (i5 zz),eB 1 (j5 zz),eB 2 (j6 zz)] ?_;kernel_rfl)
noncomputable def wU(o:Nat):Option AV:=match eJ o with
 | .tup (a::_)=>O a
 |_=>U
theorem EW{o:Nat}(ho:o∈Qs)(h:AV.eqv (eJ o) (.tup [])=N)(st:St):aL ac st (.val (eJ o)) (.val (.int 0))=O (.val (iv (ah o))):=by
 have:∀o∈Qs,AV.eqv (eJ o) (.tup [])=N→wU o=O (iv (ah o)):=by decide+kernel
 have:=this o ho h;unfold wU at this;split at this
 ·rename_i a l e;rw[e,D5];exact congrArg (λx=>x.map LV.val) this
 ·contradiction
noncomputable def keep(o q:Nat):Bool:= !AV.eqv (eJ q) (eJ o)&& !((ah o==4||ah o==5)&&ah q==ah o)
noncomputable def AM(ps:List Nat)(o:Nat):List Nat:=
 if AV.eqv (eJ o) (.tup [])=Z then ps else if ps=[1]∧ew (ah o)=Z then un [[11],[if o=4 then 5 else 4]] else un (ps.map λq=>if keep o q=Z then[q] else[])
noncomputable def Fe(ps:List Nat):List Nat→List Nat
 |[o]=>AM ps o
 |_=>ps
theorem HV(a:Nat):∀st,af ac .inn st (.val (iv a)) (.val (.tup [.int 4,.int 5]))=O (a==4||a==5):=λst=>et (by
 show(QQ (I9 4=I9 a)||(QQ (I9 5=I9 a)||false))=_;rw[az,az,JQ])
theorem A0{R:List AV}{t t2 o:Nat}{ps:List Nat}(hR:Bd 0 R)(ho:o∈Qs)(hv:AV.eqv (eJ o) (.tup [])=N)(hq:∀q∈ps,q∈Qs):
  ∃ts pss,cT R ts pss∧av pss=av (ps.map λq=>if keep o q=Z then[q] else[])∧(∀ps∈pss,∀p∈ps,p∈Qs)∧
   ∀k,8≤k→ps.length<9000→∃x5 x6,bB (bn 5) (ex pg ac (Fn pg ac k) %[.asg 6 (.bop Z %[.cmp .inn (.sub (.var 3) (.cst (.int 0))) (.tup %[.glb 33,.glb 34|_]),.cmp .eq (.cal 22 %[.var 0,.var 5|_]) (.sub (.var 3) (.cst (.int 0)))|_]),.ife (.bop Z %[.cmp .ne (.cal 55 %[.var 0,.var 5|_]) (.var 3),.nt (.var 6),.nt (.bop Z %[.cmp .eq (.var 5) (.glb 47),.cmp .eq (.var 2) (.glb 21)|_])|_]) %[.exp (.app (.var 4) (.var 5))|_] .nil|_]) (aP (.val (.tup (pv ps))) N (pv ps)) (pv ps) [O (.ref 0),O (.val (iv t)),O (.val (iv t2)),O (.val (eJ o)),O (.loc 0),U,U] ⟨ag R,[.list []]⟩=
    O (U,[O (.ref 0),O (.val (iv t)),O (.val (iv t2)),O (.val (eJ o)),O (.loc 0),x5,x6],⟨ag R,[.list (pv ts)]⟩):=by
 obtain⟨out,R1,hC,hE,_,hf⟩:=gi (α:=Nat) (en:=iv) (c:=0) (asg:=bn 5) (ok:=aP (.val (.tup (pv ps))) N (pv ps))
  (Q:=λR2 q x R3=>bQ 0 R2 R3∧match x with|some a=>∃t,a=iv t∧aR R3 t (if keep o q=Z then[q] else[])|none=>(if keep o q=Z then[q] else[])=[])
  (body:=λk=>ex pg ac (Fn pg ac k) %[.asg 6 (.bop Z %[.cmp .inn (.sub (.var 3) (.cst (.int 0))) (.tup %[.glb 33,.glb 34|_]),.cmp .eq (.cal 22 %[.var 0,.var 5|_]) (.sub (.var 3) (.cst (.int 0)))|_]),.ife (.bop Z %[.cmp .ne (.cal 55 %[.var 0,.var 5|_]) (.var 3),.nt (.var 6),.nt (.bop Z %[.cmp .eq (.var 5) (.glb 47),.cmp .eq (.var 2) (.glb 21)|_])|_]) %[.exp (.app (.var 4) (.var 5))|_] .nil|_]) (λ_=>rfl) (J:=λk ρ=>8≤k∧∃x5 x6,ρ=[O (.ref 0),O (.val (iv t)),O (.val (iv t2)),O (.val (eJ o)),O (.loc 0),x5,x6]) (S0:=[]) ps
  (λq hqm R2 hR2 hF=>by
   refine⟨if keep o q=Z then O (iv q) else U,R2,⟨.rfl' _,?_⟩,.rfl' _,λk ρ acc hJ hacc=> ?_⟩
   ·by_cases hc:keep o q=Z
    ·rw[if_pos hc,if_pos hc];exact⟨q,rfl,rfl⟩
    ·rw[if_neg hc,if_neg hc]
   ·refine aw λMz kz2=> ?_
    obtain⟨hk,x5,x6,rfl⟩:=hJ;have f1:=bF (hq q hqm) R2 k [.list acc] (nl hk);have p1:=kX (hq q hqm) R2 k [.list acc] (nl hk);have v0:=EW ho hv;have a1:=A7 (R:=R2) (a:=iv q) hacc;have e1:∀s,af ac .eq s (.val (iv (ah q))) (.val (iv (ah o)))=O (ah q==ah o):=λs=>fi _ _
    have e2:∀s,af ac .ne s (.val (eJ q)) (.val (eJ o))=O (!AV.eqv (eJ q) (eJ o)):=λs=>r7 (wy o)
    have e3:∀s,af ac .eq s (.val (iv q)) (.val (.int 3))=O N:=λs=>by
     have:=js (a:=q) 3 s;rw[show(q==3)=N from by
      have:∀q∈Qs,(q==3)=N:=by decide
      exact this q (hq q hqm)] at this
     exact this
    have e4:=HV (ah o);refine kz2 ?_;delta keep;generalize(ah o==4||ah o==5)=b1 at e4 ⊢;generalize(ah q==ah o)=b2 at e1 ⊢;generalize AV.eqv (eJ q) (eJ o)=b3 at e2 ⊢;refine⟨[O (.ref 0),O (.val (iv t)),O (.val (iv t2)),O (.val (eJ o)),O (.loc 0),O (.val (iv q)),x6],[O (.ref 0),O (.val (iv t)),O (.val (iv t2)),O (.val (eJ o)),O (.loc 0),O (.val (iv q)),O (.val (.bool (b1&&b2)))],rfl,⟨hk,_,_,rfl⟩,?_⟩;rw[um];cases b1<;>cases b2<;>cases b3
    ·(refine dw [eV 0 (v0 zz),eB 1 (e4 zz),eC 1 p1,eB 0 (e2 zz),eB 1 (e3 zz),eT 0 a1] ?_;kernel_rfl)
    ·(refine dw [eV 0 (v0 zz),eB 1 (e4 zz),eC 1 p1,eB 0 (e2 zz)] ?_;kernel_rfl)
    ·(refine dw [eV 0 (v0 zz),eB 1 (e4 zz),eC 1 p1,eB 0 (e2 zz),eB 1 (e3 zz),eT 0 a1] ?_;kernel_rfl)
    ·(refine dw [eV 0 (v0 zz),eB 1 (e4 zz),eC 1 p1,eB 0 (e2 zz)] ?_;kernel_rfl)
    ·(refine dw [eV 0 (v0 zz),eB 1 (e4 zz),eC 1 f1,eV 0 (v0 zz),eB 0 (e1 zz),eC 0 p1,eB 0 (e2 zz),eB 1 (e3 zz),eT 0 a1] ?_;kernel_rfl)
    ·(refine dw [eV 0 (v0 zz),eB 1 (e4 zz),eC 1 f1,eV 0 (v0 zz),eB 0 (e1 zz),eC 0 p1,eB 0 (e2 zz)] ?_;kernel_rfl)
    ·(refine dw [eV 0 (v0 zz),eB 1 (e4 zz),eC 1 f1,eV 0 (v0 zz),eB 0 (e1 zz),eC 0 p1,eB 0 (e2 zz)] ?_;kernel_rfl)
    ·(refine dw [eV 0 (v0 zz),eB 1 (e4 zz),eC 1 f1,eV 0 (v0 zz),eB 0 (e1 zz),eC 0 p1,eB 0 (e2 zz)] ?_;kernel_rfl)) R (by rw[Ke];exact hR) (.refl R)
 have hfq:∀q∈ps,∀p∈(if keep o q=Z then[q] else[]),p∈Qs:=λq h p hp=>by
  refine aw λMz kz3=> ?_
  split at hp
  ·refine kz3 ?_;exact(Ja.mp hp)▸(hq q h)
  ·exact nomatch hp
 refine aw λMz kz4=> ?_
 obtain⟨_,ts,pss,rfl,g1,g2,g3⟩:=tz hfq hC;have hRR:R1=R:=by
  refine aw λMz kz5=> ?_
  refine cG hE λX e hX _=> ?_
  rw[Ke] at hX;have hX0:X=[]:=Jo (Kt hX);refine kz5 ?_;rw[e,hX0,Je]
 cases hRR;refine kz4 ?_;refine⟨ts,pss,g1,g2,g3,λk hk hlen=> ?_⟩;refine aw λMz kz6=> ?_
 obtain⟨ρ',⟨_,x5,x6,rfl⟩,hf⟩:=hf k [O (.ref 0),O (.val (iv t)),O (.val (iv t2)),O (.val (eJ o)),O (.loc 0),U,U] [] ⟨hk,U,U,rfl⟩ (by simp;exact nr hlen);refine kz6 ?_;exact⟨x5,x6,hf⟩
theorem D1{R:List AV}(hR:Bd 1 R){t t2:Nat}{ps os:List Nat}(h1:Kd R t ps)(h2:Kd R t2 os):
  ∃R' r,bQ 1 R R'∧Kd R' r (Fe ps os)∧aN 10 63 [.ref 0,.val (iv t),.val (iv t2)] R (.val (iv r)) R':=by
 have hv:=Bl h2 hR.le;have hl:=h1.l;have e0:∀s a,af ac .eq s (.val a) (.val (.tup []))=O (AV.eqv a (.tup [])):=λs a=>qN (by decide)
 have back:AV.eqv (HR os) (.tup [])=Z→∃R' r,bQ 1 R R'∧Kd R' r ps∧aN 10 63 [.ref 0,.val (iv t),.val (iv t2)] R (.val (iv r)) R':=λhe=>by
  refine⟨R,t,.rfl' _,h1,aN.body (n:=9) (fd:=cm) (by kernel_rfl) rfl rfl λk hk=> ?_⟩;have hv:=hv k [] (nl hk);have e0:=λs=>e0 s (HR os)
  rw[he] at e0
  (refine aC [eC 0 hv,eB 1 (e0 zz)] ?_;kernel_rfl)
 match os,h2,hv,back with
 |[],h2,hv,back=>exact back rfl
 |p::q::os,h2,hv,back=>exact back rfl
 |[o],h2,hv,back=>
  show∃R' r,bQ 1 R R'∧Kd R' r (AM ps o)∧_
  have ho:=h2.q o (.head _);delta AM;cases he:AV.eqv (eJ o) (.tup []) with
  |true=>rw[if_pos rfl];exact back he
  |false=>
   have i1:∀s,af ac .eq s (.val (iv t)) (.val (.int 1))=O (QQ (ps=[1])):=rD h1 hR.le 1 (by decide)
   have v0:=EW ho he;have e0:=λs=>e0 s (eJ o)
   rw[he] at e0;have en:∀s,af ac .inn s (.val (iv (ah o))) (.val (.tup [.int 4,.int 5,.int 6]))=O (ew (ah o)):=λs=>lU _
   by_cases hA:ps=[1]∧ew (ah o)=Z
   ·rw[if_pos hA];refine aO hA λhA1 hA2=> ?_
    have d1:QQ (ps=[1])=Z:=decide_eq_true hA1;rw[d1] at i1;obtain⟨R',r,a1,a2,_,a3,_⟩:=aQ hR (ts:=[11,if o=4 then 5 else 4]) (pss:=[[11],[if o=4 then 5 else 4]]) (.cons rfl (by decide) (.cons rfl (by split<;>decide) .nil)) (by split<;>decide);have ht2:t2=o:=h2.ty;subst ht2;have i4:∀s,af ac .eq s (.val (iv t2)) (.val (.int 4))=O (t2==4):=js 4
    refine⟨R',r,a1,dS (by split<;>decide) a2,aN.body (n:=9) (fd:=cm) (by kernel_rfl) rfl rfl λk hk=> ?_⟩;have hv:=hv k [] (nl hk);rw[hA2] at en;by_cases h4:t2=4
    ·rw[if_pos h4] at a3;rw[show(t2==4)=Z from by simp[h4]] at i4;have a3:Fn pg ac k 16 [.ref 0,.val (.tup [.int 11,.int 5])] ⟨ag R,[]⟩=O (.val (iv r),⟨ag R',[]⟩):=a3 k [] (nl hk)
     (refine aC [eC 0 hv,eB 1 (e0 zz),eB 0 (i1 zz),eV 0 (v0 zz),eB 0 (en zz),eB 0 (i4 zz),eC 1 a3] ?_;kernel_rfl)
    ·rw[if_neg h4] at a3;rw[show(t2==4)=N from by simp[h4]] at i4;have a3:Fn pg ac k 16 [.ref 0,.val (.tup [.int 11,.int 4])] ⟨ag R,[]⟩=O (.val (iv r),⟨ag R',[]⟩):=a3 k [] (nl hk)
     (refine aC [eC 0 hv,eB 1 (e0 zz),eB 0 (i1 zz),eV 0 (v0 zz),eB 0 (en zz),eB 0 (i4 zz),eC 1 a3] ?_;kernel_rfl)
   ·rw[if_neg hA];refine vB (A0 (t:=t) (t2:=t2) (hR.mono (nc)) ho he h1.q) λts pss a1 a2 a3 a4=> ?_
    refine vH (aQ hR a1 a3) λR' r u1 u2 _ _ u3=> ?_
    refine⟨R',r,u1,?_,aN.body (n:=9) (fd:=cm) (by kernel_rfl) rfl rfl λk hk=> ?_⟩
    ·have:=dS a3 u2;rw[kv a2] at this;exact this
    ·refine te (a4 k (nl hk) (ny hl)) λx5 x6 a4=> ?_
     have u3:Fn pg ac k 16 [.ref 0,.loc 0] ⟨ag R,[.list (pv ts)]⟩=O (.val (iv r),⟨ag R',[.list (pv ts)]⟩):=u3 k [] (nl hk);have hp:=be h1.ty h1.q hR.le k [.list []] (nl hk);have hv:=hv k [] (nl hk);cases d1:QQ (ps=[1]) with
     |false=>
      rw[d1] at i1
      (refine aC [eC 0 hv,eB 1 (e0 zz),eB 0 (i1 zz),eC 1 hp,eS 0 a4,eC 0 u3] ?_;kernel_rfl)
     |true=>
      have hnn:ew (ah o)=N:=by
       cases hb:ew (ah o)
       ·rfl
       ·exact absurd ⟨of_decide_eq_true d1,hb⟩ hA
      rw[d1] at i1;rw[hnn] at en
      (refine aC [eC 0 hv,eB 1 (e0 zz),eB 0 (i1 zz),eV 0 (v0 zz),eB 0 (en zz),eC 1 hp,eS 0 a4,eC 0 u3] ?_;kernel_rfl)
end
noncomputable def k6(ps os:List Nat)(y st:Bool):List Nat:=
 if ps=[0]∨os=[0]∨os=[1] then ps else if y=Z then qk ps os st else if(!st&&fj os)=Z then un (ps.map λq=>one (nn q)) else Fe ps os
section
variable{R:List AV}{t:Nat}{ps:List Nat}(h:Kd R t ps)(hR:R.length≤900000)
include h hR
theorem gY(c:Nat)(hc:c∈[0,1,4,5,13]):QQ (I9 c=I9 t)=QQ (ps=[c]):=by
 have h1:=h.ty.ne hc h.q hR;rw[decide_eq_decide];exact⟨λe=>h1.mp (L6 e).symm,λe=>by rw[h1.mpr e]⟩
omit hR in
theorem E8:QQ (ps=[13])=N:=decide_eq_false λe=>by
 have:=h.q 13 (by rw[e];exact .head _)
 revert this;decide
theorem Cf:∀st,af ac .inn st (.val (iv t)) (.val (.tup [.int 0,.int 13]))=O (QQ (ps=[0])):=λst=>et (by
 show(QQ (I9 0=I9 t)||(QQ (I9 13=I9 t)||false))=_;rw[gY h hR 0 (by decide),gY h hR 13 (by decide),E8 h];simp)
theorem zB:∀st,af ac .inn st (.val (iv t)) (.val (.tup [.int 0,.int 13,.int 1]))=O (QQ (ps=[0])||decide (ps=[1])):=λst=>et (by
 show(QQ (I9 0=I9 t)||(QQ (I9 13=I9 t)||(QQ (I9 1=I9 t)||false)))=_;rw[gY h hR 0 (by decide),gY h hR 13 (by decide),gY h hR 1 (by decide),E8 h];simp)
theorem EM:∀st,af ac .inn st (.val (iv t)) (.val (.tup [.int 4,.int 5]))=O (QQ (ps=[4])||decide (ps=[5])):=λst=>et (by
 show(QQ (I9 4=I9 t)||(QQ (I9 5=I9 t)||false))=_;rw[gY h hR 4 (by decide),gY h hR 5 (by decide),JQ])
end
theorem m8{R:List AV}(hR:Bd 33 R){t t2:Nat}{ps os:List Nat}(h1:Kd R t ps)(h2:Kd R t2 os)(g1:Sg ps)(g2:Sg os)(y st:Bool):
  ∃R' r,bQ 33 R R'∧Kd R' r (k6 ps os y st)∧aN 14 64 [.ref 0,.val (iv t),.val (iv t2),.val (.bool y),.val (.bool st)] R (.val (iv r)) R':=by
 have a1:=Cf h1 hR.le;have a2:=zB h2 hR.le;delta k6;by_cases hA:ps=[0]∨os=[0]∨os=[1]
 ·rw[if_pos hA];refine⟨R,t,.rfl' _,h1,aN.body (n:=13) (fd:=aY) (by kernel_rfl) rfl rfl λk hk=> ?_⟩;by_cases h0:ps=[0]
  ·have d0:QQ (ps=[0])=Z:=decide_eq_true h0;rw[d0] at a1
   (refine aC [eB 1 (a1 zz)] ?_;kernel_rfl)
  ·have d0:QQ (ps=[0])=N:=decide_eq_false h0;have d1:(QQ (os=[0])||decide (os=[1]))=Z:=by
    rcases hA with h|h|h
    ·exact absurd h h0
    ·simp[h]
    ·simp[h]
   rw[d0] at a1;rw[d1] at a2
   (refine aC [eB 1 (a1 zz),eB 1 (a2 zz)] ?_;kernel_rfl)
 ·rw[if_neg hA];simp only[not_or] at hA;refine cI hA λn0 n1 n2=> ?_
  have d0:QQ (ps=[0])=N:=decide_eq_false n0;have d1:(QQ (os=[0])||decide (os=[1]))=N:=by simp[n1,n2]
  rw[d0] at a1;rw[d1] at a2;induction y with
  |true=>
   refine aX (zK hR h1 h2 g1 n0 (jt h2.q g2 n1 n2) st) λR' r e1 e2 e3=> ?_
   refine⟨R',r,e1,e2,aN.body (n:=13) (fd:=aY) (by kernel_rfl) rfl rfl λk hk=> ?_⟩;have e3:=e3 k [] (nl hk)
   (refine aC [eB 1 (a1 zz),eB 1 (a2 zz),eC 1 e3] ?_;kernel_rfl)
  |false=>
   have hn:=cj h2 (hR.mono (nc));by_cases hB:(!st&&fj os)=Z
   ·rw[if_pos hB];refine aX (dD h1 (hR.mono (nc))) λR' r e1 e2 e3=> ?_
    refine⟨R',r,e1.mono (nc),e2,aN.body (n:=13) (fd:=aY) (by kernel_rfl) rfl rfl λk hk=> ?_⟩;have e3:=e3 k [] (hk);have hn:=hn k [] (nl hk);rw[I8] at hB;have hst:st=N:=by simpa using hB.1
    subst hst;rw[hB.2] at hn
    (refine aC [eB 1 (a1 zz),eB 1 (a2 zz),eC 2 hn,eC 1 e3] ?_;kernel_rfl)
   ·rw[if_neg hB];refine aX (D1 (hR.mono (nc)) h1 h2) λR' r e1 e2 e3=> ?_
    refine⟨R',r,e1.mono (nc),e2,aN.body (n:=13) (fd:=aY) (by kernel_rfl) rfl rfl λk hk=> ?_⟩;have e3:=e3 k [] (nl hk);have hn:=hn k [] (nl hk);induction st with
    |true=>
     (refine aC [eB 1 (a1 zz),eB 1 (a2 zz),eC 2 e3] ?_;kernel_rfl)
    |false=>
     have hn2:fj os=N:=by simpa using hB
     rw[hn2] at hn
     (refine aC [eB 1 (a1 zz),eB 1 (a2 zz),eC 2 hn,eC 1 e3] ?_;kernel_rfl)
noncomputable def xq(ps os:List Nat):List Nat:=un ((k6 ps os N Z).map λq=>[q])
theorem AP{q:Nat}(hq:q∈Qs):∀st,af ac .inn st (.val (iv (iS q))) (.val (.tup [.int 10,.int 15,.int 16]))=O N:=λst=>et (by
 show(QQ (I9 10=I9 (iS q))||(QQ (I9 15=I9 (iS q))||(QQ (I9 16=I9 (iS q))||false)))=N;rw[az,az,az];have:∀q∈Qs,(iS q==10||(iS q==15||(iS q==16||false)))=N:=by decide+kernel
 exact this q hq)
theorem vt{R:List AV}{t t2 t3:Nat}{ps:List Nat}(hR:Bd 0 R)(hq:∀q∈ps,q∈Qs):
  ∀k,8≤k→ps.length<9000→∃x6,bB (bn 6) (ex pg ac (Fn pg ac k) %[.ife (.bop Z %[.cmp .inn (.cal 7 %[.var 3,.var 6|_]) (.glb 64),.cal 42 %[.var 3,.var 6|_]|_]) %[.asg 6 (.cal 39 %[.var 3,.tup %[.var 6,.hole|_]|_])|_] .nil,.exp (.app (.var 5) (.var 6))|_]) (aP (.val (.tup (pv ps))) N (pv ps)) (pv ps) [O (.ref 9),O (.val (iv t)),O (.val (iv t2)),O (.ref 0),O (.val (iv t3)),O (.loc 0),U] ⟨ag R,[.list []]⟩=
    O (U,[O (.ref 9),O (.val (iv t)),O (.val (iv t2)),O (.ref 0),O (.val (iv t3)),O (.loc 0),x6],⟨ag R,[.list (pv ps)]⟩):=by
 refine aw λMz kz4=> ?_
 obtain⟨out,R1,hC,hE,_,hf⟩:=gi (α:=Nat) (en:=iv) (c:=0) (asg:=bn 6) (ok:=aP (.val (.tup (pv ps))) N (pv ps))
  (Q:=λR2 q x R3=>R3=R2∧x=if(λ_=>Z) q=Z then O (iv q) else U)
  (body:=λk=>ex pg ac (Fn pg ac k) %[.ife (.bop Z %[.cmp .inn (.cal 7 %[.var 3,.var 6|_]) (.glb 64),.cal 42 %[.var 3,.var 6|_]|_]) %[.asg 6 (.cal 39 %[.var 3,.tup %[.var 6,.hole|_]|_])|_] .nil,.exp (.app (.var 5) (.var 6))|_]) (λ_=>rfl) (J:=λk ρ=>8≤k∧∃x6,ρ=[O (.ref 9),O (.val (iv t)),O (.val (iv t2)),O (.ref 0),O (.val (iv t3)),O (.loc 0),x6]) (S0:=[]) ps
  (λq hqm R2 hR2 hF=>by
   refine⟨O (iv q),R2,⟨rfl,rfl⟩,.rfl' _,λk ρ acc hJ hacc=> ?_⟩;obtain⟨hk,x6,rfl⟩:=hJ;obtain⟨k,rfl⟩:∃k',k=k'+1:=⟨k - 1,nq hk⟩
   have k1:=rB (hq q hqm) k R2 [.list acc];have f1:=AP (hq q hqm);have a1:=A7 (R:=R2) (a:=iv q) hacc;refine⟨[O (.ref 9),O (.val (iv t)),O (.val (iv t2)),O (.ref 0),O (.val (iv t3)),O (.loc 0),O (.val (iv q))],[O (.ref 9),O (.val (iv t)),O (.val (iv t2)),O (.ref 0),O (.val (iv t3)),O (.loc 0),O (.val (iv q))],rfl,⟨hk,_,rfl⟩,?_⟩
   (refine dw [eC 0 k1,eB 0 (f1 zz),eT 0 a1] ?_;kernel_rfl)) R (by rw[Ke];exact hR) (.refl R)
 refine aO (dk (f:=λ_=>Z) hC) λoz13 oz14=> ?_
 subst oz13;subst oz14;rw[KT.mpr (λ_ _=>rfl)] at hf;refine kz4 ?_;intro k hk hlen;refine aw λMz kz5=> ?_
 obtain⟨ρ',⟨_,x6,rfl⟩,hf⟩:=hf k [O (.ref 9),O (.val (iv t)),O (.val (iv t2)),O (.ref 0),O (.val (iv t3)),O (.loc 0),U] [] ⟨hk,U,rfl⟩ (by simp;exact nr hlen);refine kz5 ?_;exact⟨x6,hf⟩
theorem sH{R:List AV}(hR:Bd 34 R){t t2:Nat}{ps os:List Nat}(h1:Kd R t ps)(h2:Kd R t2 os)(g1:Sg ps)(g2:Sg os):
  ∃R' r,bQ 34 R R'∧Kd R' r (xq ps os)∧aN 16 78 [.ref 9,.val (iv t),.val (iv t2)] R (.val (iv r)) R':=by
 refine aX (m8 (hR.mono (nc)) h1 h2 g1 g2 N Z) λR1 t3 e1 k3 e3=> ?_
 have hR1:Bd 1 R1:=hR.ext e1 (nc);have hl:=k3.l;have hqq:∀ps'∈(k6 ps os N Z).map (λq=>[q]),∀p∈ps',p∈Qs:=bp λq h p hp=>by rw[Ja.mp hp];exact k3.q q h
 refine vH (aQ hR1 (gU R1 _ k3.q) hqq) λR' r u1 u2 _ _ u3=> ?_
 have hcl:=vt (t:=t) (t2:=t2) (t3:=t3) (hR1.mono (nc)) k3.q;refine⟨R',r,e1.trans u1 (nc),dS hqq u2,aN.body (n:=15) (fd:=eo) (by kernel_rfl) rfl rfl λk hk=> ?_⟩;refine aG (hcl k (nl hk) (ny hl)) λx6 hcl=> ?_
 have u3:Fn pg ac k 16 [.ref 0,.loc 0] ⟨ag R1,[.list (pv (k6 ps os N Z))]⟩=O (.val (iv r),⟨ag R',[.list (pv (k6 ps os N Z))]⟩):=u3 k [] (nl hk);have hp:=be k3.ty k3.q hR1.le k [.list []] (nl hk);have e3:=e3 k [] (nl hk)
 (refine aC [eC 0 e3,eC 1 hp,eS 0 hcl,eC 0 u3] ?_;kernel_rfl)
noncomputable def v9(ps os:List Nat)(y st:Bool):List Nat:=
 if(!y&&st&&(QQ (os=[4])||decide (os=[5])))=Z then xq ps os
 else if((ps.all bu&&os.all bu)|| !y||decide (ps=[1])||fj os)=Z then k6 ps os y st
 else if ps=[0]∨os=[0]∨os=[1] then ps else un (ps.map λq=>ms q os st)
theorem vo{R:List AV}(hR:Bd 2200 R){t t2:Nat}{ps os:List Nat}(h1:Kd R t ps)(h2:Kd R t2 os)(g1:Sg ps)(g2:Sg os)(y st:Bool):
  ∃R' r,bQ 2200 R R'∧Kd R' r (v9 ps os y st)∧aN 25 79 [.ref 9,.val (iv t),.val (iv t2),.val (.bool y),.val (.bool st)] R (.val (iv r)) R':=by
 have a1:=Cf h1 hR.le;have a2:=zB h2 hR.le;have a3:=EM h2 hR.le;have a4:∀s,af ac .eq s (.val (iv t)) (.val (.int 1))=O (QQ (ps=[1])):=rD h1 hR.le 1 (by decide)
 have q1:=iH h1 (hR.mono (nc));have q2:=iH h2 (hR.mono (nc));have hn:=cj h2 (hR.mono (nc));have hl:=h1.l;have f1:∀k,1≤k→∀v,Fn pg ac k 4 [.ref 9,.val v] ⟨ag R,[]⟩=O (.val v,⟨ag R,[]⟩):=λk hk v=>by
  obtain⟨k,rfl⟩:∃k',k=k'+1:=⟨k - 1,nq hk⟩
  exact gb k v R []
 unfold v9;by_cases hA:(!y&&st&&(QQ (os=[4])||decide (os=[5])))=Z
 ·rw[if_pos hA];rw[I8,I8] at hA;refine aO hA λoz6 h45=> ?_
  refine aO oz6 λhy oz13=> ?_
  subst oz13;have hy:y=N:=by simpa using hy
  subst hy;rw[h45] at a3;refine aX (sH (hR.mono (nc)) h1 h2 g1 g2) λR' r e1 e2 e3=> ?_
  refine⟨R',r,e1.mono (nc),e2,aN.body (n:=24) (fd:=cc) (by kernel_rfl) rfl rfl λk hk=> ?_⟩;have e3:=e3 k [] (nl hk);have f1:=f1 k (nl hk);have q1:=q1 k [] (nl hk);have q2:=q2 k [] (nl hk);generalize ps.all bu=b1 at q1;generalize os.all bu=b2 at q2;cases b1
  ·(refine aC [eC 0 (f1 (iv t)),eC 0 (f1 (iv t2)),eC 0 q1,eB 4 (a3 zz),eC 0 e3] ?_;kernel_rfl)
  ·(refine aC [eC 0 (f1 (iv t)),eC 0 (f1 (iv t2)),eC 0 q1,eC 1 q2,eB 3 (a3 zz),eC 0 e3] ?_;kernel_rfl)
 ·rw[if_neg hA];by_cases hB:((ps.all bu&&os.all bu)|| !y||decide (ps=[1])||fj os)=Z
  ·rw[if_pos hB];refine aX (m8 (hR.mono (nc)) h1 h2 g1 g2 y st) λR' r e1 e2 e3=> ?_
   refine⟨R',r,e1.mono (nc),e2,aN.body (n:=24) (fd:=cc) (by kernel_rfl) rfl rfl λk hk=> ?_⟩;have e3:=e3 k [] (nl hk);have f1:=f1 k (nl hk);have q1:=q1 k [] (nl hk);have q2:=q2 k [] (nl hk);have hn:=hn k [] (nl hk);generalize ps.all bu=b1 at q1 hB;generalize os.all bu=b2 at q2 hB;generalize QQ (ps=[1])=b3 at a4 hB;generalize fj os=b4 at hn hB;generalize(QQ (os=[4])||decide (os=[5]))=b5 at a3 hA;induction y with
   |false=>
    induction st with
    |false=>
     induction b1 with
     |false=>
      (refine aC [eC 0 (f1 (iv t)),eC 0 (f1 (iv t2)),eC 0 q1,eC 5 e3] ?_;kernel_rfl)
     |true=>
      cases b2
      ·(refine aC [eC 0 (f1 (iv t)),eC 0 (f1 (iv t2)),eC 0 q1,eC 1 q2,eC 4 e3] ?_;kernel_rfl)
      ·(refine aC [eC 0 (f1 (iv t)),eC 0 (f1 (iv t2)),eC 0 q1,eC 1 q2,eC 3 e3] ?_;kernel_rfl)
    |true=>
     have h5:b5=N:=JZ.mpr hA;subst h5;cases b1 with
     |false=>
      (refine aC [eC 0 (f1 (iv t)),eC 0 (f1 (iv t2)),eC 0 q1,eB 4 (a3 zz),eC 2 e3] ?_;kernel_rfl)
     |true=>
      cases b2
      ·(refine aC [eC 0 (f1 (iv t)),eC 0 (f1 (iv t2)),eC 0 q1,eC 1 q2,eB 3 (a3 zz),eC 2 e3] ?_;kernel_rfl)
      ·(refine aC [eC 0 (f1 (iv t)),eC 0 (f1 (iv t2)),eC 0 q1,eC 1 q2,eB 3 (a3 zz),eC 1 e3] ?_;kernel_rfl)
   |true=>
    cases b1 with
    |false=>
     induction b3 with
     |true=>
      (refine aC [eC 0 (f1 (iv t)),eC 0 (f1 (iv t2)),eC 0 q1,eB 4 (a4 zz),eC 0 e3] ?_;kernel_rfl)
     |false=>
      obtain rfl:b4=Z:=hB
      (refine aC [eC 0 (f1 (iv t)),eC 0 (f1 (iv t2)),eC 0 q1,eB 4 (a4 zz),eC 0 hn,eC 1 e3] ?_;kernel_rfl)
    |true=>
     cases b2 with
     |true=>
      (refine aC [eC 0 (f1 (iv t)),eC 0 (f1 (iv t2)),eC 0 q1,eC 1 q2,eC 2 e3] ?_;kernel_rfl)
     |false=>
      cases b3 with
      |true=>
       (refine aC [eC 0 (f1 (iv t)),eC 0 (f1 (iv t2)),eC 0 q1,eC 1 q2,eB 3 (a4 zz),eC 0 e3] ?_;kernel_rfl)
      |false=>
       obtain rfl:b4=Z:=hB
       (refine aC [eC 0 (f1 (iv t)),eC 0 (f1 (iv t2)),eC 0 q1,eC 1 q2,eB 3 (a4 zz),eC 0 hn,eC 1 e3] ?_;kernel_rfl)
  ·rw[if_neg hB];rw[JN] at hB;simp only[KA] at hB;refine aO hB λoz7 hB4=> ?_
   refine aO oz7 λoz14 hB3=> ?_
   refine aO oz14 λhB1 hB2=> ?_
   have hy:y=Z:=by simpa using hB2
   subst hy;rw[hB3] at a4;by_cases hC:ps=[0]∨os=[0]∨os=[1]
   ·rw[if_pos hC];refine⟨R,t,.rfl' _,h1,aN.body (n:=24) (fd:=cc) (by kernel_rfl) rfl rfl λk hk=> ?_⟩;have f1:=f1 k (nl hk);have q1:=q1 k [] (nl hk);have q2:=q2 k [] (nl hk);have hn:=hn k [] (nl hk);rw[hB4] at hn;have hd:QQ (ps=[0])=Z∨(QQ (os=[0])||decide (os=[1]))=Z:=by
     rcases hC with h|h|h
     ·exact .inl (by simp[h])
     ·exact .inr (by simp[h])
     ·exact .inr (by simp[h])
    generalize QQ (ps=[0])=b3 at a1 hd;generalize(QQ (os=[0])||decide (os=[1]))=b4 at a2 hd;generalize ps.all bu=b1 at q1 hB1;generalize os.all bu=b2 at q2 hB1;induction b1 with
    |false=>
     induction b3 with
     |true=>
      (refine aC [eC 0 (f1 (iv t)),eC 0 (f1 (iv t2)),eC 0 q1,eB 4 (a4 zz),eC 0 hn,eB 2 (a1 zz)] ?_;kernel_rfl)
     |false=>
      obtain rfl:b4=Z:=hd.resolve_left nofun
      (refine aC [eC 0 (f1 (iv t)),eC 0 (f1 (iv t2)),eC 0 q1,eB 4 (a4 zz),eC 0 hn,eB 2 (a1 zz),eB 1 (a2 zz)] ?_;kernel_rfl)
    |true=>
     obtain rfl:b2=N:=hB1;cases b3 with
     |true=>
      (refine aC [eC 0 (f1 (iv t)),eC 0 (f1 (iv t2)),eC 0 q1,eC 1 q2,eB 3 (a4 zz),eC 0 hn,eB 2 (a1 zz)] ?_;kernel_rfl)
     |false=>
      obtain rfl:b4=Z:=hd.resolve_left nofun
      (refine aC [eC 0 (f1 (iv t)),eC 0 (f1 (iv t2)),eC 0 q1,eC 1 q2,eB 3 (a4 zz),eC 0 hn,eB 2 (a1 zz),eB 1 (a2 zz)] ?_;kernel_rfl)
   ·rw[if_neg hC];simp only[not_or] at hC;refine cI hC λn0 n1 n2=> ?_
    have n3:ps≠[1]:=of_decide_eq_false hB3;have hs:=jt h1.q g1 n0 n3;have hp:=be h1.ty h1.q hR.le;obtain⟨R1,ts,e1,e2,e3⟩:=lN (n:=22) (c:=66) (tg:=7) (bs:=[Z,N,Z,N,Z]) (e:= .cal 77 %[.var 0,.var 7,.var 2,.var 4|_]) (it:= .cal 10 %[.var 5,.var 1|_])
     (ρ:=[O (.ref 9),O (.val (iv t)),O (.val (iv t2)),O (.val (.bool Z)),O (.val (.bool st)),O (.ref 0),O (.val (.bool N)),U]) (R:=R) (l:=ps) (v:= .tup (pv ps)) (b:=N) (f:=λq=>ms q os st) rfl (by show 7<8;exact nc) (ny hl) (hR.mono (BN hl)) (λq hq=>tY (h1.q q hq) h2.q st)
     (λk S hk=>by(refine bz [eC 0 (hp k S (nl hk))] ?_;kernel_rfl))
     (λq hq R2 hR2 hF=>by
      obtain⟨cF,xF⟩:=hF;refine aX (lS hR2 (h1.q q hq) (hs q hq) (h2.ext xF) st) λR3 r3 b1 b2 b3=> ?_
      refine⟨R3,r3,b1,b2,λk S hk=> ?_⟩;have b3:=b3 k S (hk)
      (refine bz [eC 0 b3] ?_;kernel_rfl))
    have hqq:=bp (ps:=ps) (f:=λq=>ms q os st) λq hq=>tY (h1.q q hq) h2.q st
    obtain⟨R',r,u1,u2,u3,_,_⟩:=aQ (hR.ext e1 (b:=1) (nx hl)) e2 hqq;refine⟨R',r,e1.trans u1 (nx hl),dS hqq u2,aN.body (n:=24) (fd:=cc) (by kernel_rfl) rfl rfl λk hk=> ?_⟩;have f1:=f1 k (nl hk);have q1:=q1 k [] (nl hk);have q2:=q2 k [] (nl hk);have hn:=hn k [] (nl hk);have e3:=λm=>e3 k [] m (nl hk)
    have u3:=u3 k [] (nl hk);rw[hB4] at hn;have d0:QQ (ps=[0])=N:=decide_eq_false n0;have d1:(QQ (os=[0])||decide (os=[1]))=N:=by simp[n1,n2]
    rw[d0] at a1;rw[d1] at a2;generalize ps.all bu=b1 at q1 hB1;generalize os.all bu=b2 at q2 hB1;induction b1 with
    |false=>
     (refine aC [eC 0 (f1 (iv t)),eC 0 (f1 (iv t2)),eC 0 q1,eB 4 (a4 zz),eC 0 hn,eB 2 (a1 zz),eB 1 (a2 zz),eX 0 (((e3) .V).trans (aB _ _)),eC 0 u3] ?_;kernel_rfl)
    |true=>
     obtain rfl:b2=N:=hB1
     (refine aC [eC 0 (f1 (iv t)),eC 0 (f1 (iv t2)),eC 0 q1,eC 1 q2,eB 3 (a4 zz),eC 0 hn,eB 2 (a1 zz),eB 1 (a2 zz),eX 0 (((e3) .V).trans (aB _ _)),eC 0 u3] ?_;kernel_rfl)
section
noncomputable def wI(v:Nat):Nat:=[2,1,5,5,0,0,0,3,3,3,3,1,1,1,1,4].getD v 0
noncomputable def lk(v:Nat):Nat:=[0,0,2,3,2,5,6,2,3,9,10,11,12,13,14,15].getD v 0
noncomputable def Hv(v:Nat):Bool:=v∈[3,5,6,8,9,11,12,13,14,15]
theorem HM{α:Type}{f g:Nat→α}(h:(JE 16).map f=(JE 16).map g)(v:Nat)(hv:v<16):f v=g v:=aq h v (J6.mpr hv)
theorem wW(st:St):∀v,v<16→aL ac st (.val (.tup [(.str [117,110,100,101,102,105,110,101,100]),(.str [111,98,106,101,99,116]),(.str [98,111,111,108,101,97,110]),(.str [98,111,111,108,101,97,110]),(.str [115,116,114,105,110,103]),(.str [115,116,114,105,110,103]),(.str [115,116,114,105,110,103]),(.str [110,117,109,98,101,114]),(.str [110,117,109,98,101,114]),(.str [110,117,109,98,101,114]),(.str [110,117,109,98,101,114]),(.str [111,98,106,101,99,116]),(.str [111,98,106,101,99,116]),(.str [111,98,106,101,99,116]),(.str [111,98,106,101,99,116]),(.str [102,117,110,99,116,105,111,110])])) (.val (iv v))=O (.val (.str (wd (wI v)))):=HM (by kernel_rfl)
theorem Ca(st:St):∀v,v<16→aL ac st (.val (.tup [(.int 0),(.int 0),(.int 2),(.int 3),(.int 2),(.int 5),(.int 6),(.int 2),(.int 3),(.int 9),(.int 10),(.int 11),(.int 12),(.int 13),(.int 14),(.int 15)])) (.val (iv v))=O (.val (iv (lk v))):=HM (by kernel_rfl)
theorem Hr(st:St):∀v,v<16→af ac .inn st (.val (iv v)) (.val (.tup [(.int 3),(.int 5),(.int 6),(.int 8),(.int 9),(.int 11),(.int 12),(.int 13),(.int 14),(.int 15)]))=O (Hv v):=HM (by kernel_rfl)
theorem uM(st:St)(a b:Bool):af ac .eq st (.val (.bool a)) (.val (.bool b))=O (a==b):=qN (by exact KG _)
theorem zq(v:Nat):wI v<6:=by
 delta wI;by_cases h:v<16
 ·have:∀v<16,[2,1,5,5,0,0,0,3,3,3,3,1,1,1,1,4].getD v 0<6:=by decide
  exact this v h
 ·rw[Jp,List.getElem?_eq_none (M9.mp h)];decide
theorem Gm(st:St){i j:Nat}(hi:i<6)(hj:j<6):af ac .eq st (.val (.str (wd i))) (.val (.str (wd j)))=O (i==j):=by
 have:∀i<6,∀j<6,AV.eqv (.str (wd i)) (.str (wd j))=(i==j):=by decide+kernel
 rw[qN (by exact KG _),this i hi j hj]
set_option genInjectivity false in
inductive cO where
 |ty (w:Nat)
 |tr
 |eq (os:List Nat) (st:Bool)
noncomputable def rK(R:List AV)(a:AV):cO→Prop
 | .ty w=>w<6∧a= .tup [.int 0,.str (wd w),.bool Z]
 | .tr=>a= .tup [.int 1,.int 0,.bool Z]
 | .eq os st=>∃t,Kd R t os∧Sg os∧a= .tup [.int 2,iv t,.bool st]
theorem rK.ext{c:Nat}{R R':List AV}(x:bQ c R R'){a:AV}{T:cO}(h:rK R a T):rK R' a T:=by
 match T,h with
 | .ty w,h=>exact h
 | .tr,h=>exact h
 | .eq os st,⟨t,h1,h2,h3⟩=>exact⟨t,h1.ext x,h2,h3⟩
noncomputable def dN(st:Bool)(gs:List Nat)(v:Nat):Nat:=if v=10 then 0 else if st then(gs.filter (·==v)).length else(gs.filter λw=>lk w==lk v).length
noncomputable def bI:cO→Bool→List Nat→Nat→Bool
 | .ty w,y,_,v=>(wI v==w)==y
 | .tr,y,_,v=>Hv v==y
 | .eq _ st,y,gs,v=>if y then QQ (0<dN st gs v) else QQ (dN st gs v<gs.length)
theorem dK{st:St}{l:List Nat}(h:l.length<100000):aF ac .len st (.val (.lst (pv l)))=O (.val (iv l.length)):=by
 rw[gk (by rw[Jj];exact nr h),Jj];rfl
theorem sN{R:List AV}(hR:Bd 0 R){a:AV}{T:cO}(hA:rK R a T)(y:Bool){gs:List Nat}(hg:∀w∈gs,w<16)(hgl:gs.length<90000){v:Nat}(hv:v<16):
  aN 2 84 [.val a,.val (.bool y),.val (.lst (pv gs)),.val (iv v)] R (.val (.bool (bI T y gs v))) R:=by
 refine aN.body (n:=1) (fd:=gA) (by kernel_rfl) rfl rfl λk hk=> ?_
 match T,hA with
 | .ty w,⟨hw,e⟩=>
  subst e;have s1:=wW ⟨ag R,[]⟩ v hv;have s2:=Gm ⟨ag R,[]⟩ (zq v) hw;refine aC [eV 2 s1,eB 1 s2,eB 0 (uM zz (wI v==w) y)] ?_;kernel_rfl
 | .tr,e=>
  have e:a=_:=e;subst e;have s1:=Hr ⟨ag R,[]⟩ v hv;refine aC [eB 4 s1,eB 0 (uM zz (Hv v) y)] ?_;kernel_rfl
 | .eq os st,⟨t,_,_,e⟩=>
  subst e;have i10:∀s,af ac .eq s (.val (iv v)) (.val (.int 10))=O (v==10):=js 10
  have ll:=λ(l:List Nat) (h:l.length≤gs.length)=>dK (st:=⟨ag R,[]⟩) (l:=l) (by lia)
  have lg:=ll gs (JC _);induction st with
  |true=>
   obtain⟨R1,e1,hc⟩:=eI (n:=1) (c:=0) (tg:=5) (bs:=[N,N,N,Z]) (it:= .var 2) (cond:= .cmp .eq (.var 5) (.var 3)) (ρ:=[O (.val (.tup [.int 2,iv t,.bool Z])),O (.val (.bool y)),O (.val (.lst (pv gs))),O (.val (iv v)),U,U]) (R:=R) (l:=gs) (v:= .lst (pv gs)) (b:=Z) (p:=λw=>w==v) rfl (by show 5<6;exact nc) (nr hgl) (by rw[Ke];exact hR)
    (λk S hk=>by(refine bz [] ?_;kernel_rfl))
    (λw hw R2 hR2=>⟨R2,.rfl' _,λk S hk=>by
     have e1:∀s,af ac .eq s (.val (iv w)) (.val (iv v))=O (w==v):=λs=>fi w v
     (refine bz [eB 0 (e1 zz)] ?_;kernel_rfl)⟩)
   have hRR:R1=R:=by
    refine cG e1 λX e hX _=> ?_
    rw[Ke] at hX;have hX0:X=[]:=Jo (by exact Kt hX);rw[e,hX0,Je]
   subst hRR;have hc:=λm=>hc k [] m hk
   have l1:=ll (gs.filter λw=>w==v) (JV _ _);by_cases h10:v=10
   ·have b10:(v==10)=Z:=by simp[h10]
    rw[b10] at i10;have hn:dN Z gs v=0:=by unfold dN;rw[if_pos h10]
    have g1:af ac .gt ⟨ag R1,[]⟩ (.val (.int 0)) (.val (.int 0))=O N:=rfl;have g2:af ac .lt ⟨ag R1,[]⟩ (.val (.int 0)) (.val (iv gs.length))=O (QQ (0<gs.length)):=gH _ 0 _;have hpB:bI (.eq os Z) y gs v=(if y then QQ (0<dN Z gs v) else QQ (dN Z gs v<gs.length)):=rfl;rw[hpB,hn];cases y
    ·(refine aC [eX 6 (((hc) .V).trans (aB _ _)),eV 0 l1,eB 0 (i10 zz),eV 1 lg,eB 0 g2] ?_;kernel_rfl)
    ·(refine aC [eX 6 (((hc) .V).trans (aB _ _)),eV 0 l1,eB 0 (i10 zz),eB 1 g1] ?_;kernel_rfl)
   ·have b10:(v==10)=N:=by simp[h10]
    rw[b10] at i10;have hn:dN Z gs v=(gs.filter (·==v)).length:=by unfold dN;rw[if_neg h10];rfl
    have g1:af ac .gt ⟨ag R1,[]⟩ (.val (iv (gs.filter λw=>w==v).length)) (.val (.int 0))=O (QQ (0<(gs.filter λw=>w==v).length)):=fc _ _ 0;have g2:=gH ⟨ag R1,[]⟩ (gs.filter λw=>w==v).length gs.length;have hpB:bI (.eq os Z) y gs v=(if y then QQ (0<dN Z gs v) else QQ (dN Z gs v<gs.length)):=rfl;rw[hpB,hn];cases y
    ·(refine aC [eX 6 (((hc) .V).trans (aB _ _)),eV 0 l1,eB 0 (i10 zz),eV 1 lg,eB 0 g2] ?_;kernel_rfl)
    ·(refine aC [eX 6 (((hc) .V).trans (aB _ _)),eV 0 l1,eB 0 (i10 zz),eB 1 g1] ?_;kernel_rfl)
  |false=>
   obtain⟨R1,e1,hc⟩:=eI (n:=1) (c:=0) (tg:=5) (bs:=[N,N,N,Z]) (it:= .var 2) (cond:= .cmp .eq (.sub (.glb 68) (.var 5)) (.sub (.glb 68) (.var 3))) (ρ:=[O (.val (.tup [.int 2,iv t,.bool N])),O (.val (.bool y)),O (.val (.lst (pv gs))),O (.val (iv v)),U,U]) (R:=R) (l:=gs) (v:= .lst (pv gs)) (b:=Z) (p:=λw=>lk w==lk v) rfl (by show 5<6;exact nc) (nr hgl) (by rw[Ke];exact hR)
    (λk S hk=>by(refine bz [] ?_;kernel_rfl))
    (λw hw R2 hR2=>⟨R2,.rfl' _,λk S hk=>by
     have e1:∀s,af ac .eq s (.val (iv (lk w))) (.val (iv (lk v)))=O (lk w==lk v):=λs=>fi _ _
     have s1:=Ca ⟨ag R2,S⟩ w (hg w hw);have s2:=Ca ⟨ag R2,S⟩ v hv
     (refine bz [eV 0 s1,eV 0 s2,eB 0 (e1 zz)] ?_;kernel_rfl)⟩)
   have hRR:R1=R:=by
    refine cG e1 λX e hX _=> ?_
    rw[Ke] at hX;have hX0:X=[]:=Jo (Kt hX);rw[e,hX0,Je]
   subst hRR;have hc:=λm=>hc k [] m hk
   have l1:=ll (gs.filter λw=>lk w==lk v) (JV _ _);by_cases h10:v=10
   ·have b10:(v==10)=Z:=by simp[h10]
    rw[b10] at i10;have hn:dN N gs v=0:=by delta dN;rw[if_pos h10]
    have g1:af ac .gt ⟨ag R1,[]⟩ (.val (.int 0)) (.val (.int 0))=O N:=rfl;have g2:af ac .lt ⟨ag R1,[]⟩ (.val (.int 0)) (.val (iv gs.length))=O (QQ (0<gs.length)):=gH _ 0 _;have hpB:bI (.eq os N) y gs v=(if y then QQ (0<dN N gs v) else QQ (dN N gs v<gs.length)):=rfl;rw[hpB,hn];cases y
    ·(refine aC [eX 6 (((hc) .V).trans (aB _ _)),eV 0 l1,eB 0 (i10 zz),eV 1 lg,eB 0 g2] ?_;kernel_rfl)
    ·(refine aC [eX 6 (((hc) .V).trans (aB _ _)),eV 0 l1,eB 0 (i10 zz),eB 1 g1] ?_;kernel_rfl)
   ·have b10:(v==10)=N:=by simp[h10]
    rw[b10] at i10;have hn:dN N gs v=(gs.filter λw=>lk w==lk v).length:=by delta dN;rw[if_neg h10];rfl
    have g1:af ac .gt ⟨ag R1,[]⟩ (.val (iv (gs.filter λw=>lk w==lk v).length)) (.val (.int 0))=O (QQ (0<(gs.filter λw=>lk w==lk v).length)):=fc _ _ 0;have g2:=gH ⟨ag R1,[]⟩ (gs.filter λw=>lk w==lk v).length gs.length;have hpB:bI (.eq os N) y gs v=(if y then QQ (0<dN N gs v) else QQ (dN N gs v<gs.length)):=rfl;rw[hpB,hn];cases y
    ·(refine aC [eX 6 (((hc) .V).trans (aB _ _)),eV 0 l1,eB 0 (i10 zz),eV 1 lg,eB 0 g2] ?_;kernel_rfl)
    ·(refine aC [eX 6 (((hc) .V).trans (aB _ _)),eV 0 l1,eB 0 (i10 zz),eB 1 g1] ?_;kernel_rfl)
end
noncomputable def mx(gs:List Nat):Nat:=gs.getD (QA (λi j=>QQ ((gs.map I9).getD i 0>(gs.map I9).getD j 0)) ((gs.map I9).length - 1)) 0
theorem gQ(gs:List Nat)(i:Nat):(gs.map I9).getD i 0=I9 (gs.getD i 0):=by
 rw[Jp,Jp,JK];cases gs[i]? <;>rfl
theorem uL:∀gs:List Nat,eY (pv gs)=O (gs.map I9)
 |[]=>rfl
 |g::gs=>by
  show(eY (pv gs)).map (I9 g::·)=_;rw[uL gs];rfl
theorem Di(st:St){gs:List Nat}(h:gs≠[]):aF ac .max st (.val (.lst (pv gs)))=O (.val (iv (mx gs))):=by
 show(match eY (pv gs) with
   |some (i::is)=>O (LV.val (.int (qc (i::is))))
   |_=>U)=_
 rw[uL];induction gs with
 |nil=>exact absurd rfl h
 |cons g gs=>
  show O (LV.val (.int (qc ((g::gs).map I9))))=_;delta qc mx;rw[gQ]
noncomputable def tD(w:Nat):Bool:=QQ (1<w)&&QQ (w<11)
noncomputable def gB(p:Nat)(st y:Bool)(gs:List Nat)(v:Nat):Bool:=
 if((!st&&tD v)&&QQ (0<(gs.filter λw=>tD w&& !(wI w==wI v)).length))=Z then Z
 else if y=Z then
  (if(v==10&&gs.any (·==10))=Z then Z
   else if(p==1||p==11)=Z then QQ (10<mx gs)||(!st&&QQ (1<mx gs))
   else QQ (10<v)&&QQ (10<mx gs))
 else if mx gs<2 then N
 else(p==1||p==6||p==7||p==11)||(QQ (10<v)||decide (1<gs.length))
theorem Gg(st:St){i j:Nat}(hi:i<6)(hj:j<6):af ac .ne st (.val (.str (wd i))) (.val (.str (wd j)))=O (!(i==j)):=by
 have:∀i<6,∀j<6,AV.eqv (.str (wd i)) (.str (wd j))=(i==j):=by decide+kernel
 rw[r7 (KG _),this i hi j hj]
theorem pq(st:St)(p a b:Nat):af ac .inn st (.val (iv p)) (.val (.tup [iv a,iv b]))=O (p==a||p==b):=et (by
 show(QQ (I9 a=I9 p)||(QQ (I9 b=I9 p)||false))=_;rw[az,az,JQ])
theorem xN(st:St)(p a b c:Nat):af ac .inn st (.val (iv p)) (.val (.tup [iv a,iv b,iv c]))=O (p==a||p==b||p==c):=et (by
 show(QQ (I9 a=I9 p)||(QQ (I9 b=I9 p)||(QQ (I9 c=I9 p)||false)))=_;rw[az,az,az,JQ,←L7])
theorem t9(st:St)(p a b c d:Nat):af ac .inn st (.val (iv p)) (.val (.tup [iv a,iv b,iv c,iv d]))=O (p==a||p==b||p==c||p==d):=et (by
 show(QQ (I9 a=I9 p)||(QQ (I9 b=I9 p)||(QQ (I9 c=I9 p)||(QQ (I9 d=I9 p)||false))))=_;rw[az,az,az,az,JQ];simp only[L7])
theorem EP(st:St)(c:Nat)(gs:List Nat):af ac .inn st (.val (iv c)) (.val (.lst (pv gs)))=O (gs.any (·==c)):=Gv (f:=λo=>o) c gs
theorem iq{Φ:ek}{s1 s2 r:Sx}{o:Option LV}{ρ ρ1:Ρ}{st st1:St}(h:ex pg ac Φ %[s1,s2|_] ρ st=O (o,ρ1,st1)):ex pg ac Φ (.cons s1 (.cons s2 r)) ρ st=match o with
  |none=>ex pg ac Φ r ρ1 st1
  |some v=>O (O v,ρ1,st1):=by
 rw[iQ] at h ⊢;cases e:ex pg ac Φ s1 ρ st with
 |none=>rw[e] at h;cases h
 |some q=>
  obtain⟨q,ρ2,st2⟩:=q;rw[e] at h;induction q with
  |some v=>cases h;rfl
  |none=>
   change ex pg ac Φ %[s2|_] ρ2 st2=_ at h;show ex pg ac Φ (.cons s2 r) ρ2 st2=_;rw[iQ] at h ⊢;cases e:ex pg ac Φ s2 ρ2 st2 with
   |none=>rw[e] at h;cases h
   |some q=>
    obtain⟨q,ρ2,st2⟩:=q;rw[e] at h;induction q with
    |some v=>cases h;rfl
    |none=>cases h;rfl
theorem pX{R:List AV}(hR:Bd 0 R){p t:Nat}{st y:Bool}{gs:List Nat}(hg:∀w∈gs,w<16)(hgl:gs.length<90000)(hne:gs≠[]){v:Nat}(hv:v<16):
  aN 2 85 [.val (iv p),.val (.tup [.int 2,iv t,.bool st]),.val (.bool y),.val (.lst (pv gs)),.val (iv v)] R (.val (.bool (gB p st y gs v))) R:=by
 refine aN.body (n:=1) (fd:=fL) (by kernel_rfl) rfl rfl λk hk=> ?_
 obtain⟨R1,e1,hc⟩:=eI (n:=1) (c:=0) (tg:=6) (bs:=[N,N,N,N,Z]) (it:= .var 3) (cond:= .bop Z %[.chn .lt .lt (.cst (.int 1)) (.var 6) (.cst (.int 11)),.cmp .ne (.sub (.glb 66) (.var 6)) (.sub (.glb 66) (.var 4))|_]) (ρ:=[O (.val (iv p)),O (.val (.tup [.int 2,iv t,.bool st])),O (.val (.bool y)),O (.val (.lst (pv gs))),O (.val (iv v)),O (.val (.bool (!st))),U]) (R:=R) (l:=gs) (v:= .lst (pv gs)) (b:=Z) (p:=λw=>tD w&& !(wI w==wI v)) rfl (nc) (nr hgl) (by rw[Ke];exact hR)
  (λk S hk=>by(refine bz [] ?_;kernel_rfl))
  (λw hw R2 hR2=>⟨R2,.rfl' _,λk S hk=>by
   have l1:af ac .lt ⟨ag R2,S⟩ (.val (.int 1)) (.val (iv w))=O (QQ (1<w)):=gH _ 1 w;have l2:af ac .lt ⟨ag R2,S⟩ (.val (iv w)) (.val (.int 11))=O (QQ (w<11)):=gH _ w 11;have s1:=wW ⟨ag R2,S⟩ w (hg w hw);have s2:=wW ⟨ag R2,S⟩ v hv;have s3:=Gg ⟨ag R2,S⟩ (zq w) (zq v);delta tD;generalize QQ (1<w)=b1 at l1 ⊢;generalize QQ (w<11)=b2 at l2 ⊢;generalize(wI w==wI v)=b3 at s3 ⊢;cases b1<;>cases b2<;>cases b3
   ·(refine bz [eB 0 l1] ?_;kernel_rfl)
   ·(refine bz [eB 0 l1] ?_;kernel_rfl)
   ·(refine bz [eB 0 l1] ?_;kernel_rfl)
   ·(refine bz [eB 0 l1] ?_;kernel_rfl)
   ·(refine bz [eB 0 l1,eB 0 l2] ?_;kernel_rfl)
   ·(refine bz [eB 0 l1,eB 0 l2] ?_;kernel_rfl)
   ·(refine bz [eB 0 l1,eB 0 l2,eV 0 s1,eV 0 s2,eB 0 s3] ?_;kernel_rfl)
   ·(refine bz [eB 0 l1,eB 0 l2,eV 0 s1,eV 0 s2,eB 0 s3] ?_;kernel_rfl)⟩)
 have hRR:R1=R:=by
  refine cG e1 λX e hX _=> ?_
  rw[Ke] at hX;have hX0:X=[]:=Jo (Kt hX);rw[e,hX0,Je]
 subst hRR;have hc:=λm=>hc k [] m hk
 have lf:=dK (st:=⟨ag R1,[]⟩) (l:=gs.filter λw=>tD w&& !(wI w==wI v)) (by have:=JV (λw=>tD w&& !(wI w==wI v)) gs;omega);have lg:=dK (st:=⟨ag R1,[]⟩) (l:=gs) (nr hgl);have l1:af ac .lt ⟨ag R1,[]⟩ (.val (.int 1)) (.val (iv v))=O (QQ (1<v)):=gH _ 1 v;have l2:af ac .lt ⟨ag R1,[]⟩ (.val (iv v)) (.val (.int 11))=O (QQ (v<11)):=gH _ v 11;have g0:af ac .gt ⟨ag R1,[]⟩ (.val (iv (gs.filter λw=>tD w&& !(wI w==wI v)).length)) (.val (.int 0))=O (QQ (0<(gs.filter λw=>tD w&& !(wI w==wI v)).length)):=fc _ _ 0;have i10:af ac .eq ⟨ag R1,[]⟩ (.val (iv v)) (.val (.int 10))=O (v==10):=js 10 _;have n10:af ac .inn ⟨ag R1,[]⟩ (.val (.int 10)) (.val (.lst (pv gs)))=O (gs.any (·==10)):=EP _ 10 gs;have p1:af ac .inn ⟨ag R1,[]⟩ (.val (iv p)) (.val (.tup [.int 1,.int 11]))=O (p==1||p==11):=pq _ p 1 11;have p2:af ac .inn ⟨ag R1,[]⟩ (.val (iv p)) (.val (.tup [.int 1,.int 6,.int 7,.int 11]))=O (p==1||p==6||p==7||p==11):=t9 _ p 1 6 7 11;have m1:=Di ⟨ag R1,[]⟩ hne;have x1:af ac .gt ⟨ag R1,[]⟩ (.val (iv (mx gs))) (.val (.int 10))=O (QQ (10<mx gs)):=fc _ _ 10;have x2:af ac .gt ⟨ag R1,[]⟩ (.val (iv (mx gs))) (.val (.int 1))=O (QQ (1<mx gs)):=fc _ _ 1;have x3:af ac .lt ⟨ag R1,[]⟩ (.val (iv (mx gs))) (.val (.int 2))=O (QQ (mx gs<2)):=gH _ _ 2;have x4:af ac .gt ⟨ag R1,[]⟩ (.val (iv v)) (.val (.int 10))=O (QQ (10<v)):=fc _ _ 10;have x5:af ac .gt ⟨ag R1,[]⟩ (.val (iv gs.length)) (.val (.int 1))=O (QQ (1<gs.length)):=fc _ _ 1;have hB:gB p st y gs v=(if((!st&&(QQ (1<v)&&QQ (v<11)))&&QQ (0<(gs.filter λw=>tD w&& !(wI w==wI v)).length))=Z then Z
   else if y=Z then
    (if(v==10&&gs.any (·==10))=Z then Z
     else if(p==1||p==11)=Z then QQ (10<mx gs)||(!st&&QQ (1<mx gs))
     else QQ (10<v)&&QQ (10<mx gs))
   else if QQ (mx gs<2)=Z then N
   else(p==1||p==6||p==7||p==11)||(QQ (10<v)||decide (1<gs.length))):=by
  delta gB tD;simp only[decide_eq_true_eq]
 rw[hB];clear hB;generalize QQ (0<(gs.filter λw=>tD w&& !(wI w==wI v)).length)=a0 at g0 ⊢;generalize QQ (1<v)=a1 at l1 ⊢;generalize QQ (v<11)=a2 at l2 ⊢;generalize(v==10)=a3 at i10 ⊢;generalize gs.any (·==10)=a4 at n10 ⊢;generalize(p==1||p==11)=a5 at p1 ⊢;generalize(p==1||p==6||p==7||p==11)=a6 at p2 ⊢;generalize QQ (10<mx gs)=a7 at x1 ⊢;generalize QQ (1<mx gs)=a8 at x2 ⊢;generalize QQ (mx gs<2)=a9 at x3 ⊢;generalize QQ (10<v)=a10 at x4 ⊢;generalize QQ (1<gs.length)=a11 at x5 ⊢;have pre:∀r:Sx,ex pg ac (Fn pg ac k) (.cons (.asg 5 (.nt (.sub (.var 1) (.cst (.int 2))))) (.cons (.ife (.bop Z %[.var 5,.chn .lt .lt (.cst (.int 1)) (.var 4) (.cst (.int 11))|_]) %[.ife (.cmp .gt (.fn1 .len (.comp N 6 [N,N,N,N,Z] (.var 6) (.var 3) (.bop Z %[.chn .lt .lt (.cst (.int 1)) (.var 6) (.cst (.int 11)),.cmp .ne (.sub (.glb 66) (.var 6)) (.sub (.glb 66) (.var 4))|_]))) (.cst (.int 0))) %[.ret (.cst (.bool Z))|_] .nil|_] .nil) r)) [O (.val (iv p)),O (.val (.tup [.int 2,iv t,.bool st])),O (.val (.bool y)),O (.val (.lst (pv gs))),O (.val (iv v)),U,U] ⟨ag R1,[]⟩=
   if((!st&&(a1&&a2))&&a0)=Z then O (O (.val (.bool Z)),[O (.val (iv p)),O (.val (.tup [.int 2,iv t,.bool st])),O (.val (.bool y)),O (.val (.lst (pv gs))),O (.val (iv v)),O (.val (.bool (!st))),U],⟨ag R1,[]⟩)
   else ex pg ac (Fn pg ac k) r [O (.val (iv p)),O (.val (.tup [.int 2,iv t,.bool st])),O (.val (.bool y)),O (.val (.lst (pv gs))),O (.val (iv v)),O (.val (.bool (!st))),U] ⟨ag R1,[]⟩:=by
  intro r;induction st with
  |true=>
   refine iq (o:=U) ?_
   (refine dw [] ?_;kernel_rfl)
  |false=>
   induction a1 with
   |false=>
    refine iq (o:=U) ?_
    (refine dw [eB 3 l1] ?_;kernel_rfl)
   |true=>
    induction a2 with
    |false=>
      refine iq (o:=U) ?_
      (refine dw [eB 3 l1,eB 0 l2] ?_;kernel_rfl)
    |true=>
      induction a0 with
      |false=>
       refine iq (o:=U) ?_
       (refine dw [eB 3 l1,eB 0 l2,eX 0 (((hc) .V).trans (aB _ _)),eV 0 lf,eB 0 g0] ?_;kernel_rfl)
      |true=>
       refine iq (o:=O (.val (.bool Z))) ?_
       (refine dw [eB 3 l1,eB 0 l2,eX 0 (((hc) .V).trans (aB _ _)),eV 0 lf,eB 0 g0] ?_;kernel_rfl)
 show sn (ex pg ac (Fn pg ac k) dG [O (.val (iv p)),O (.val (.tup [.int 2,iv t,.bool st])),O (.val (.bool y)),O (.val (.lst (pv gs))),O (.val (iv v)),U,U] ⟨ag R1,[]⟩) _ _;delta dG;rw[pre];clear pre;by_cases h0:((!st&&(a1&&a2))&&a0)=Z
 ·rw[if_pos h0,if_pos h0];exact⟨rfl,rfl⟩
 ·rw[if_neg h0,if_neg h0];clear h0;induction y with
  |true=>
   rw[if_pos rfl];induction a3 with
   |true=>
    induction a4 with
    |true=>(refine aC [eB 1 i10,eB 0 n10] ?_;kernel_rfl)
    |false=>
      induction a5 with
      |true=>
       cases a7<;>cases st
       ·(refine aC [eB 1 i10,eB 0 n10,eB 1 p1,eV 0 m1,eB 0 x1,eV 2 m1,eB 0 x2] ?_;kernel_rfl)
       ·(refine aC [eB 1 i10,eB 0 n10,eB 1 p1,eV 0 m1,eB 0 x1] ?_;kernel_rfl)
       ·(refine aC [eB 1 i10,eB 0 n10,eB 1 p1,eV 0 m1,eB 0 x1] ?_;kernel_rfl)
       ·(refine aC [eB 1 i10,eB 0 n10,eB 1 p1,eV 0 m1,eB 0 x1] ?_;kernel_rfl)
      |false=>
       cases a10
       ·(refine aC [eB 1 i10,eB 0 n10,eB 1 p1,eB 0 x4] ?_;kernel_rfl)
       ·(refine aC [eB 1 i10,eB 0 n10,eB 1 p1,eB 0 x4,eV 1 m1,eB 0 x1] ?_;kernel_rfl)
   |false=>
    cases a5 with
    |true=>
      cases a7<;>cases st
      ·(refine aC [eB 1 i10,eB 1 p1,eV 0 m1,eB 0 x1,eV 2 m1,eB 0 x2] ?_;kernel_rfl)
      ·(refine aC [eB 1 i10,eB 1 p1,eV 0 m1,eB 0 x1] ?_;kernel_rfl)
      ·(refine aC [eB 1 i10,eB 1 p1,eV 0 m1,eB 0 x1] ?_;kernel_rfl)
      ·(refine aC [eB 1 i10,eB 1 p1,eV 0 m1,eB 0 x1] ?_;kernel_rfl)
    |false=>
      cases a10
      ·(refine aC [eB 1 i10,eB 1 p1,eB 0 x4] ?_;kernel_rfl)
      ·(refine aC [eB 1 i10,eB 1 p1,eB 0 x4,eV 1 m1,eB 0 x1] ?_;kernel_rfl)
  |false=>
   rw[if_neg (by decide)];induction a9 with
   |true=>(refine aC [eV 1 m1,eB 0 x3] ?_;kernel_rfl)
   |false=>
    cases a6<;>cases a10
    · (refine aC [eV 1 m1,eB 0 x3,eB 1 p2,eB 1 x4,eV 1 lg,eB 0 x5] ?_;kernel_rfl)
    · (refine aC [eV 1 m1,eB 0 x3,eB 1 p2,eB 1 x4] ?_;kernel_rfl)
    · (refine aC [eV 1 m1,eB 0 x3,eB 1 p2] ?_;kernel_rfl)
    · (refine aC [eV 1 m1,eB 0 x3,eB 1 p2] ?_;kernel_rfl)
noncomputable def fQ(T:cO)(p:Nat)(y:Bool)(gs:List Nat)(v:Nat):Bool:=
 if(p==0)=Z then Z else match T with
 | .ty w=>if((p==1||p==10||p==11)&&(w==1||w==4))=Z then Z else(p==1||p==11)&& !y
 | .tr=>if(p==1)=Z then QQ (1<v)|| !y else(p==7||p==11)||((p==6)&&y)
 | .eq _ st=>gB p st y gs v
theorem Ez(st:St):∀w,w<6→af ac .inn st (.val (.str (wd w))) (.val (.tup [.str [111,98,106,101,99,116],.str [102,117,110,99,116,105,111,110]]))=O (w==1||w==4)
 |0,_=>by kernel_rfl
 |1,_=>by kernel_rfl
 |2,_=>by kernel_rfl
 |3,_=>by kernel_rfl
 |4,_=>by kernel_rfl
 |5,_=>by kernel_rfl
 |_+6,h=>by rfl
theorem zN{R:List AV}(hR:Bd 0 R){p:Nat}{a:AV}{T:cO}(hA:rK R a T)(y:Bool){gs:List Nat}(hg:∀w∈gs,w<16)(hgl:gs.length<90000)(hne:∀os st,T= .eq os st→gs≠[]){v:Nat}(hv:v<16):
  aN 3 86 [.val (iv p),.val a,.val (.bool y),.val (.lst (pv gs)),.val (iv v)] R (.val (.bool (fQ T p y gs v))) R:=by
 refine aN.body (n:=2) (fd:=lC) (by kernel_rfl) rfl rfl λk hk=> ?_
 have z0:af ac .eq ⟨ag R,[]⟩ (.val (iv p)) (.val (.int 0))=O (p==0):=js 0 _;cases b0:(p==0) with
 |true=>
  rw[b0] at z0;have:fQ T p y gs v=Z:=by unfold fQ;rw[b0];rfl
  rw[this]
  (refine aC [eB 0 z0] ?_;kernel_rfl)
 |false=>
  rw[b0] at z0
  match T,hA with
  | .ty w,⟨hw,e⟩=>
   subst e;have i1:af ac .inn ⟨ag R,[]⟩ (.val (iv p)) (.val (.tup [.int 1,.int 10,.int 11]))=O (p==1||p==10||p==11):=xN _ p 1 10 11;have i2:af ac .inn ⟨ag R,[]⟩ (.val (iv p)) (.val (.tup [.int 1,.int 11]))=O (p==1||p==11):=pq _ p 1 11;have i3:=Ez ⟨ag R,[]⟩ w hw;have hB:fQ (.ty w) p y gs v=if((p==1||p==10||p==11)&&(w==1||w==4))=Z then Z else(p==1||p==11)&& !y:=by unfold fQ;rw[b0];rfl
   rw[hB];generalize(p==1||p==10||p==11)=c1 at i1 ⊢;generalize(p==1||p==11)=c2 at i2 ⊢;generalize(w==1||w==4)=c3 at i3 ⊢;cases c1<;>cases c3<;>cases c2
   ·(refine aC [eB 0 z0,eB 3 i1,eB 1 i2] ?_;kernel_rfl)
   ·(refine aC [eB 0 z0,eB 3 i1,eB 1 i2] ?_;kernel_rfl)
   ·(refine aC [eB 0 z0,eB 3 i1,eB 1 i2] ?_;kernel_rfl)
   ·(refine aC [eB 0 z0,eB 3 i1,eB 1 i2] ?_;kernel_rfl)
   ·(refine aC [eB 0 z0,eB 3 i1,eB 2 i3,eB 1 i2] ?_;kernel_rfl)
   ·(refine aC [eB 0 z0,eB 3 i1,eB 2 i3,eB 1 i2] ?_;kernel_rfl)
   ·(refine aC [eB 0 z0,eB 3 i1,eB 2 i3] ?_;kernel_rfl)
   ·(refine aC [eB 0 z0,eB 3 i1,eB 2 i3] ?_;kernel_rfl)
  | .tr,e=>
   have e:a=_:=e;subst e;have i1:af ac .eq ⟨ag R,[]⟩ (.val (iv p)) (.val (.int 1))=O (p==1):=js 1 _;have i2:af ac .inn ⟨ag R,[]⟩ (.val (iv p)) (.val (.tup [.int 7,.int 11]))=O (p==7||p==11):=pq _ p 7 11;have i3:af ac .eq ⟨ag R,[]⟩ (.val (iv p)) (.val (.int 6))=O (p==6):=js 6 _;have i4:af ac .gt ⟨ag R,[]⟩ (.val (iv v)) (.val (.int 1))=O (QQ (1<v)):=fc _ _ 1;have hB:fQ .tr p y gs v=if(p==1)=Z then QQ (1<v)|| !y else(p==7||p==11)||((p==6)&&y):=by unfold fQ;rw[b0];rfl
   rw[hB];generalize(p==1)=c1 at i1 ⊢;generalize(p==7||p==11)=c2 at i2 ⊢;generalize(p==6)=c3 at i3 ⊢;generalize QQ (1<v)=c4 at i4 ⊢;cases c1 with
   |true=>cases c4<;>(refine aC [eB 0 z0,eB 4 i1,eB 0 i4] ?_;kernel_rfl)
   |false=>
    cases c2<;>cases c3
    ·(refine aC [eB 0 z0,eB 4 i1,eB 1 i2,eB 1 i3] ?_;kernel_rfl)
    ·(refine aC [eB 0 z0,eB 4 i1,eB 1 i2,eB 1 i3] ?_;kernel_rfl)
    ·(refine aC [eB 0 z0,eB 4 i1,eB 1 i2] ?_;kernel_rfl)
    ·(refine aC [eB 0 z0,eB 4 i1,eB 1 i2] ?_;kernel_rfl)
  | .eq os st,⟨t,_,_,e⟩=>
   subst e;have b1:=pX hR (p:=p) (t:=t) (st:=st) (y:=y) hg hgl (hne os st rfl) hv k [] (by exact hk);have hB:fQ (.eq os st) p y gs v=gB p st y gs v:=by unfold fQ;rw[b0];rfl
   rw[hB]
   (refine aC [eB 0 z0,eC 4 b1] ?_;kernel_rfl)
noncomputable def gC(ps:List Nat)(T:cO)(y:Bool):List Nat:=match T with
 | .ty w=>uZ ps w y
 | .tr=>xT ps y
 | .eq os st=>v9 ps os y st
theorem qu{R:List AV}(hR:Bd 2200 R){t:Nat}{ps:List Nat}(h:Kd R t ps)(hs:Sg ps){a:AV}{T:cO}(hA:rK R a T)(y:Bool):
  ∃R' r,bQ 2200 R R'∧Kd R' r (gC ps T y)∧aN 26 87 [.ref 9,.val (iv t),.val a,.val (.bool y)] R (.val (iv r)) R':=by
 match T,hA with
 | .ty w,⟨hw,e⟩=>
  subst e;refine aX (sd h (hR.mono (nc)) hw y) λR' r e1 e2 e3=> ?_
  refine⟨R',r,e1.mono (nc),e2,aN.body (n:=25) (fd:=d8) (by kernel_rfl) rfl rfl λk hk=> ?_⟩;have e3:=e3 k [] (nl hk)
  (refine aC [eC 3 e3] ?_;kernel_rfl)
 | .tr,e=>
  have e:a=_:=e;subst e;refine aX (tq h (hR.mono (nc)) y) λR' r e1 e2 e3=> ?_
  refine⟨R',r,e1.mono (nc),e2,aN.body (n:=25) (fd:=d8) (by kernel_rfl) rfl rfl λk hk=> ?_⟩;have e3:=e3 k [] (nl hk)
  (refine aC [eC 4 e3] ?_;kernel_rfl)
 | .eq os st,⟨t2,h2,g2,e⟩=>
  subst e;refine aX (vo hR h h2 hs g2 y st) λR' r e1 e2 e3=> ?_
  refine⟨R',r,e1,e2,aN.body (n:=25) (fd:=d8) (by kernel_rfl) rfl rfl λk hk=> ?_⟩;have e3:=e3 k [] (by exact hk)
  (refine aC [eC 6 e3] ?_;kernel_rfl)
theorem sK(k:Nat)(R S):Qs.map (λq=>Fn pg ac (k+1) 82 [.ref 0,.val (iv q)] ⟨ag R,S⟩)=Qs.map (λq=>O (.val (.lst [iv q]),⟨ag R,S⟩)):=by kernel_rfl
theorem qM(k:Nat)(R S):Fn pg ac (k+1) 82 [.ref 0,.val (iv 2)] ⟨ag R,S⟩=O (.val (.lst []),⟨ag R,S⟩):=by kernel_rfl
theorem gN{R:List AV}{t:Nat}{ps:List Nat}(h:Kd R t ps)(hR:R.length≤900000):aN 1 82 [.ref 0,.val (iv t)] R (.val (.lst (pv ps))) R:=by
 match ps,h with
 |[],h=>
  have h:t=2:=h.ty;subst h;exact .of λk S=>qM k R S
 |[p],h=>
  have e:t=p:=h.ty;subst e;exact .of λk S=>aq (sK k R S) t (h.q t (.head _))
 |p::q::ps,h=>
  refine cI (h.ty.row hR) λh1 h2 h3=> ?_
  have hl:=h.l;have l1:∀st,aF ac .lst st (.val (.tup (iv p::iv q::KF iv ps)))=O (.val (.lst (iv p::iv q::KF iv ps))):=λst=>by
   show(if(iv p::iv q::KF iv ps).length<aA then O (LV.val (.lst (iv p::iv q::KF iv ps))) else U)=_;rw[if_pos (by unfold aA;simp only[JH,Jj] at hl ⊢;exact ny hl)]
  refine aN.body (n:=0) (fd:=ig) (by kernel_rfl) rfl rfl λk _=> ?_
  have hs:∀S,aL ac ⟨ag R,S⟩ (.ref 1) (.val (iv t))=O (.val (lX (p::q::ps))):=λS=>cU h1 h2
  (refine aC [eB 0 ((Au h3) zz),eV 0 (hs ([])),eV 2 (hs ([])),eV 1 (l1 zz)] ?_;kernel_rfl)
noncomputable def G3:List (List Nat):=[[0,1,2,3,4,5,6,7,8,9,10,11,12,13,14,15],[0,1,2,3,4,5,6,7,8,9,10,11,12,13,14,15],[],[],[0],[1],[4,5,6],[7,8,9,10],[2],[3],[11,12,13,14,15],[2,3,4,5,6,7,8,9,10,11,12,13,14,15],[2,3],[],[2],[],[5],[],[13],[4],[5],[6],[7],[8],[9],[7],[8],[5],[11,13],[12],[13],[14]]
noncomputable def bk(q:Nat):List Nat:=G3.getD q []
theorem B1{P:List Nat→Prop}(h:∀l∈[]::G3,P l)(q:Nat):P (bk q):=by
 unfold bk;rw[Jp];cases e:G3[q]? with
 |none=>exact h _ (.head _)
 |some l=>exact h _ (.tail _ (Jf e))
theorem xk:Qs.map (λq=>aE aW (iv q))=Qs.map (λq=>O (.tup (pv (bk q)))):=by kernel_rfl
theorem mP{q v:Nat}(h:v∈bk q):v<16:=B1 (P:=λl=>∀v∈l,v<16) (by decide+kernel) q v h
theorem ld(q:Nat):(bk q).length≤16:=B1 (P:=λl=>l.length≤16) (by decide+kernel) q
noncomputable def aD(ps:List Nat):List Nat:=ps.flatMap bk
theorem As{ps:List Nat}:∀v∈aD ps,v<16:=λv h=>by
 refine ak (KW.mp h) λq _ h=> ?_
 exact mP h
theorem kF:∀ps:List Nat,(aD ps).length≤16*ps.length
 |[]=>JC _
 |p::ps=>by
  have:=kF ps;have:=ld p;unfold aD at*;rw[Kq,Jk,JH];omega
theorem ni{R:List AV}{k:Nat}{t:AV}{S:List CO}{ok:St→Bool}(hok:∀s,ok s=Z):∀(ps acc:List Nat) (x4:Option LV),(∀q∈ps,q∈Qs)→acc.length+16*ps.length<90000→∃y4,
  bB (bn 4) (ex pg ac (Fn pg ac k) %[.asg 3 (.bin .add (.var 3) (.fn1 .lst (.getD (.var 1) (.var 4) (.tup .nil))))|_]) ok (pv ps) [O (.ref 0),O (.loc 0),O (.val t),O (.val (.lst (pv acc))),x4] ⟨ag R,.dict .int aW::S⟩=
   O (U,[O (.ref 0),O (.loc 0),O (.val t),O (.val (.lst (pv (acc++aD ps)))),y4],⟨ag R,.dict .int aW::S⟩)
 |[],acc,x4,_,_=>⟨x4,by unfold aD;simp[bB]⟩
 |q::ps,acc,x4,hq,hl=>by
  have hb:=ld q;rw[JH] at hl;obtain⟨y4,e⟩:=ni (k:=k) hok ps (acc++bk q) (O (.val (iv q))) (λz hz=>hq z (.tail _ hz)) (by rw[Jk];omega);refine⟨y4,?_⟩;have g2:ev pg ac (Fn pg ac k) (.getD (.var 1) (.var 4) (.tup .nil)) .V [O (.ref 0),O (.loc 0),O (.val t),O (.val (.lst (pv acc))),O (.val (iv q))] ⟨ag R,.dict .int aW::S⟩=O ([.val (.tup (pv (bk q)))],⟨ag R,.dict .int aW::S⟩):=by
   rw[yk];show bv .V (O (.val ((aE aW (iv q)).getD _),_))=_;rw[aq xk q (hq q (.head _))];rfl
  have l1:∀st,aF ac .lst st (.val (.tup (pv (bk q))))=O (.val (.lst (pv (bk q)))):=λst=>by
   show(if(pv (bk q)).length<aA then O (LV.val (.lst (pv (bk q)))) else U)=_;rw[if_pos (by unfold aA;rw[Jj];exact ny hb)]
  have b1:∀st,bd .add st (.val (.lst (pv acc))) (.val (.lst (pv (bk q))))=O (.val (.lst (pv (acc++bk q)))):=λst=>by
   show(if(pv acc).length+(pv (bk q)).length<aA then O (LV.val (.lst (pv acc++pv (bk q)))) else U)=_;rw[if_pos (by unfold aA;rw[Jj,Jj];omega),←Ki]
  have e2:aD (q::ps)=bk q++aD ps:=by unfold aD;rw[Kq]
  rw[e2,←Jy,←e];show bB (bn 4) _ ok (iv q::pv ps) _ _=_;exact bS rfl (dw [eX 0 g2,eV 0 (l1 zz),eV 0 (b1 zz)] (by kernel_rfl)) (hok _)
theorem rn{R:List AV}(hR:Bd 0 R){t:Nat}{ps:List Nat}(h:Kd R t ps)(k:Nat)(S:List CO):
  Fn pg ac (k+2) 83 [.ref 0,.loc 0,.val (iv t)] ⟨ag R,.dict .int aW::S⟩=O (.val (.lst (pv (aD ps))),⟨ag R,.dict .int aW::S⟩):=by
 have hp:=gN h hR.le (k+1) (.dict .int aW::S) (nc);have hl:=h.l;obtain⟨y4,e⟩:=ni (R:=R) (k:=k+1) (t:=iv t) (S:=S) (ok:=aP (.val (.lst (pv ps))) Z (pv ps)) (λ_=>rfl) ps [] U h.q (by simp only[J5];omega);rw[K8] at e;simp only[Mr] at e;have hx:∃ρ',ex pg ac (Fn pg ac (k+1)) dW.body (aM dW.nm.length [.ref 0,.loc 0,.val (iv t)] dW.dv) ⟨ag R,.dict .int aW::S⟩=O (O (.val (.lst (pv (aD ps)))),ρ',⟨ag R,.dict .int aW::S⟩):=by
  (refine gu [eC 1 hp,eS 0 e] ?_;kernel_rfl)
 refine aG hx λρ' hx=> ?_
 have:=cV (f:=83) (by kernel_rfl) rfl rfl hx rfl;rw[this];simp only[Kw]
noncomputable def v7(p q:Nat):Bool:=p==q||p==0||(p==1&& !(q==0))||(p==11&&ue (ah q))||(p==6&&ah q==1)||(p==7&&ah q==2)||(p==14&&q==8)
noncomputable def rJ(T:cO)(p:Nat)(y:Bool)(gs:List Nat)(v:Nat):Bool:=bI T y gs v||fQ T p y gs v
noncomputable def l3(ps:List Nat)(T:cO)(y:Bool)(gs rs:List Nat):Prop:=∀r∈rs,∀v∈bk r,∃q∈ps,v∈bk q∧∀p∈Qs,v7 p q=Z→rJ T p y gs v=Z∧v7 p r=Z
noncomputable def we(ps:List Nat)(T:cO)(y:Bool)(gs rs:List Nat):Prop:=∀v∈aD ps,bI T y gs v=Z→v∈aD rs
theorem ar{ps:List Nat}{v:Nat}:v∈aD ps↔∃q∈ps,v∈bk q:=KW
theorem wo{P:Nat→Bool}{q:Nat}(h:aZ P q=Z):P q=Z∨(q=8∧P 14=Z)∨(q=9∧P 15=Z):=by
 rcases jl h with h1|rfl|rfl
 ·exact .inl h1
 ·by_cases h8:P 8=Z
  ·exact .inl h8
  ·refine .inr (.inl ⟨rfl,?_⟩);unfold aZ at h;split at h
   ·cases h
   ·split at h
    ·cases h
    ·split at h
     ·cases h
     ·rw[JN] at h8;simp only[h8,J7,I8] at h;exact h.1.1.1
 ·by_cases h9:P 9=Z
  ·exact .inl h9
  ·refine .inr (.inr ⟨rfl,?_⟩);unfold aZ at h;split at h
   ·cases h
   ·split at h
    ·cases h
    ·split at h
     ·cases h
     ·rw[JN] at h9;simp only[h9,J7,I8] at h;exact h.1.1.2
theorem cv{pss:List (List Nat)}{q:Nat}:av pss q=Z↔∃ps∈pss,q∈ps:=by unfold av;rw[decide_eq_true_eq]
theorem BK{pss:List (List Nat)}(hq:∀ps∈pss,∀p∈ps,p∈Qs){r:Nat}(h:r∈un pss):(∃ps∈pss,r∈ps)∨(r=8∧∃ps∈pss,14∈ps):=by
 refine aw λMz kz4=> ?_
 rcases wo (bG.mp h).2 with h|⟨rfl,h⟩|⟨rfl,h2⟩
 ·refine kz4 ?_;exact .inl (cv.mp h)
 ·rename_i h2;refine kz4 ?_
  first|exact .inr ⟨rfl,cv.mp h⟩|exact .inr ⟨rfl,cv.mp h2⟩
 ·refine ak (cv.mp h2) λps h1 h2=> ?_
  have h15:15∉Qs:=by decide
  exact absurd (hq ps h1 15 h2) h15
theorem GG:∀p∈Qs,v7 p 14=Z→v7 p 8=Z:=by decide+kernel
theorem gM{ps:List Nat}{T:cO}{y:Bool}{gs:List Nat}{pss:List (List Nat)}(hq:∀ps∈pss,∀p∈ps,p∈Qs)(h:∀rs∈pss,l3 ps T y gs rs):l3 ps T y gs (un pss):=by
 intro r hr v hv;refine aw λMz kz5=> ?_
 rcases BK hq hr with⟨rs,h1,h2⟩|⟨rfl,rs,h1,h2⟩
 ·refine kz5 ?_;exact h rs h1 r h2 v hv
 ·refine cG (h rs h1 14 h2 v hv) λq a b c=> ?_
  refine kz5 ?_;exact⟨q,a,b,λp hp hr=>⟨(c p hp hr).1,GG p hp (c p hp hr).2⟩⟩
theorem HY{v:Nat}(h:v<16):v∈bk 0:=by
 have:∀v<16,v∈bk 0:=by decide
 exact this v h
theorem IR{v:Nat}(h:v<16):v∈bk 1:=HY h
theorem zh{pss:List (List Nat)}(hq:∀ps∈pss,∀p∈ps,p∈Qs){q v:Nat}(h:av pss q=Z)(hv:v∈bk q):∃r∈un pss,v∈bk r:=by
 have hno:∀n,n∉Qs→av pss n=N:=λn hn=>by
  rw[JZ];intro e;refine ak (cv.mp e) λps h1 h2=> ?_
  exact hn (hq ps h1 n h2)
 have hqs:q∈Qs:=by
  refine ak (cv.mp h) λps h1 h2=> ?_
  exact hq ps h1 q h2
 have m13:=hno 13 (by decide);have m17:=hno 17 (by decide);have m99:=hno 99 (by decide);unfold un;generalize av pss=P at*;by_cases p0:P 0=Z
 ·refine⟨0,bG.mpr ⟨by exact nc,?_⟩,HY (mP hv)⟩;unfold aZ;rw[if_pos p0];rfl
 by_cases p1:P 1=Z
 ·refine⟨1,bG.mpr ⟨by exact nc,?_⟩,IR (mP hv)⟩;unfold aZ;rw[if_neg p0,m13,if_neg (by simp),if_pos p1];rfl
 obtain⟨P',hP'⟩:∃P':Nat→Bool,P'=λq=>P q||((P 8||P 14)&&(P 9||P 15)&&(q==8||q==9)):=⟨_,rfl⟩
 have hN:aZ P=λq=>P' q&&sb P' q:=by
  unfold aZ;rw[if_neg p0,m13,if_neg (by simp),if_neg p1,←hP',hP']
 rw[hN];have hle:∀n,P n=Z→P' n=Z:=λn hn=>by rw[hP'];show(P n||_)=Z;rw[hn];rfl
 have n99:P' 99=N:=by rw[hP'];simp[m99]
 have n17:P' 17=N:=by rw[hP'];simp[m17]
 have hfree:∀r,r<32→nj r=99→wc r=99→P' r=Z→r∈bh λq=>P' q&&sb P' q:=λr h1 h2 h3 h4=>bG.mpr ⟨h1,by
  unfold sb;rw[h2,h3,h4,n99];rfl⟩
 have h6:P' 6=Z→6∈bh λq=>P' q&&sb P' q:=hfree 6 (nc) (by decide) (by decide)
 have h7:P' 7=Z→7∈bh λq=>P' q&&sb P' q:=hfree 7 (nc) (by decide) (by decide)
 have h8:P' 8=Z→8∈bh λq=>P' q&&sb P' q:=hfree 8 (nc) (by decide) (by decide)
 by_cases hs:sb P' q=Z
 ·refine⟨q,bG.mpr ⟨yH hqs,?_⟩,hv⟩;show(P' q&&sb P' q)=Z;rw[hle q h,hs];rfl
 ·have hs2:P' (nj q)=Z∨P' (wc q)=Z:=by
   unfold sb at hs;by_cases a:P' (nj q)=Z
   ·exact .inl a
   ·by_cases b:P' (wc q)=Z
    ·exact .inr b
    ·rw[JN] at a b;rw[a,b] at hs;exact absurd rfl hs
  have key:∀q∈Qs,(wc q=99∨(wc q=6∧∀v∈bk q,v∈bk 6)∨(wc q=7∧∀v∈bk q,v∈bk 7))∧(nj q=99∨nj q=17∨(nj q=8∧∀v∈bk q,v∈bk 8)∨(nj q=16∧(∀v∈bk q,v∈bk 16)∧∀v∈bk q,v∈bk 6)):=by decide+kernel
  refine aO (key q hqs) λk1 k2=> ?_
  rcases hs2 with hs2|hs2
  ·rcases k2 with e|e|⟨e,k2⟩|⟨e,k2,k3⟩
   ·rw[e,n99] at hs2;cases hs2
   ·rw[e,n17] at hs2;cases hs2
   ·rw[e] at hs2;exact⟨8,h8 hs2,k2 v hv⟩
   ·rw[e] at hs2;by_cases p6:P' 6=Z
    ·exact⟨6,h6 p6,k3 v hv⟩
    ·refine⟨16,bG.mpr ⟨by exact nc,?_⟩,k2 v hv⟩;rw[JN] at p6;have e1:nj 16=99:=by decide
     have e2:wc 16=6:=by decide
     unfold sb;rw[e1,e2,hs2,n99,p6];rfl
  ·rcases k1 with e|⟨e,k1⟩|⟨e,k1⟩
   ·rw[e,n99] at hs2;cases hs2
   ·rw[e] at hs2;exact⟨6,h6 hs2,k1 v hv⟩
   ·rw[e] at hs2;exact⟨7,h7 hs2,k1 v hv⟩
theorem cS{pss:List (List Nat)}(hq:∀ps∈pss,∀p∈ps,p∈Qs){rs:List Nat}(h:rs∈pss){v:Nat}(hv:v∈aD rs):v∈aD (un pss):=by
 refine ak (ar.mp hv) λq h1 h2=> ?_
 refine ak (zh hq (cv.mpr ⟨rs,h,h1⟩) h2) λr h3 h4=> ?_
 exact ar.mpr ⟨r,h3,h4⟩
theorem km{ps:List Nat}{T:cO}{y:Bool}{gs:List Nat}{f:Nat→List Nat}(hf:∀q∈ps,∀p∈f q,p∈Qs)(h:∀q∈ps,l3 [q] T y gs (f q)):l3 ps T y gs (un (ps.map f)):=by
 refine gM (bp hf) λrs hrs=> ?_
 refine ak (Jv.mp hrs) λq hq oz2=> ?_
 subst oz2;intro r hr v hv;refine cG (h q hq r hr v hv) λq' a b c=> ?_
 rw[Ja.mp a] at b c;exact⟨q,hq,b,c⟩
theorem kr{ps:List Nat}{T:cO}{y:Bool}{gs:List Nat}{f:Nat→List Nat}(hf:∀q∈ps,∀p∈f q,p∈Qs)(h:∀q∈ps,we [q] T y gs (f q)):we ps T y gs (un (ps.map f)):=by
 intro v hv hp;refine ak (ar.mp hv) λq h1 h2=> ?_
 exact cS (bp hf) (Jv.mpr ⟨q,h1,rfl⟩) (h q h1 v (ar.mpr ⟨q,.head _,h2⟩) hp)
noncomputable def eg(q:Nat)(T:cO)(y:Bool)(gs rs:List Nat):Bool:=rs.all λr=>(bk r).all λv=>(bk q).contains v&&Qs.all λp=> !v7 p q||(rJ T p y gs v&&v7 p r)
noncomputable def vF(q:Nat)(T:cO)(y:Bool)(gs rs:List Nat):Bool:=(bk q).all λv=> !bI T y gs v||rs.any λr=>(bk r).contains v
theorem f0{q:Nat}{T:cO}{y:Bool}{gs rs:List Nat}(h:eg q T y gs rs=Z):l3 [q] T y gs rs:=by
 intro r hr v hv;have h1:=Jb.mp (Jb.mp h r hr) v hv;rw[I8] at h1;refine⟨q,.head _,by simpa using h1.1,λp hp hpq=> ?_⟩;have h2:=Jb.mp h1.2 p hp;rw[hpq] at h2;simpa[I8] using h2
theorem iC{q:Nat}{T:cO}{y:Bool}{gs rs:List Nat}(h:vF q T y gs rs=Z):we [q] T y gs rs:=by
 intro v hv hp;refine ak (ar.mp hv) λq' h1 h2=> ?_
 rw[Ja.mp h1] at h2;have h3:=Jb.mp h v h2;rw[hp] at h3;have h4:∃r,r∈rs∧v∈bk r:=by simpa using h3
 refine ak h4 λr a b=> ?_
 exact ar.mpr ⟨r,a,b⟩
theorem w6{w:Nat}(h:w<6):w∈[0,1,2,3,4,5]:=by simp only[Jh,JO,or_false];exact HJ h
theorem bb(y:Bool):y∈[Z,N]:=by cases y<;>decide
theorem CA:(Qs.all λq=>[0,1,2,3,4,5].all λw=>[Z,N].all λy=>((q==1)&& !y&&(w==2||w==1))||(eg q (.ty w) y [] (g5 q w y)&&vF q (.ty w) y [] (g5 q w y)))=Z:=by decide+kernel
theorem Cz:([1,2].all λw=>eg 1 (.ty w) N [] [if w=2 then 5 else 4]&&eg 1 (.ty w) N [] [11]&&vF 1 (.ty w) N [] [11,if w=2 then 5 else 4])=Z:=by decide+kernel
theorem Cb{q w:Nat}(hq:q∈Qs)(hw:w<6)(y:Bool)(hn:¬(q=1∧y=N∧(w=2∨w=1))):l3 [q] (.ty w) y [] (g5 q w y)∧we [q] (.ty w) y [] (g5 q w y):=by
 have h:=Jb.mp (Jb.mp (Jb.mp CA q hq) w (w6 hw)) y (bb y);rw[JL] at h;rcases h with h|h
 ·simp only[I8,JL,beq_iff_eq,JU] at h;exact absurd ⟨h.1.1,h.1.2,h.2⟩ hn
 ·rw[I8] at h;exact⟨f0 h.1,iC h.2⟩
theorem Sg.mem{ps:List Nat}(hs:Sg ps){q:Nat}(h:q=0∨q=1)(hq:q∈ps):ps=[q]:=hs q hq (by rcases h with rfl|rfl<;>decide)
theorem AA{ps:List Nat}(hq:∀q∈ps,q∈Qs)(hs:Sg ps){w:Nat}(hw:w<6)(y:Bool):l3 ps (.ty w) y [] (uZ ps w y)∧we ps (.ty w) y [] (uZ ps w y)∧Sg (uZ ps w y):=by
 unfold uZ;by_cases hA:ps=[1]∧y=N∧(w=2∨w=1)
 ·rw[if_pos hA];refine cI hA λoz5 oz6 hw2=> ?_
  subst oz5;subst oz6;have hqq:∀ps∈[[11],[if w=2 then 5 else 4]],∀p∈ps,p∈Qs:=by split<;>decide
  have h:=Jb.mp Cz w (by rcases hw2 with rfl|rfl<;>decide);simp only[I8] at h;refine⟨gM hqq λrs hrs=> ?_,λv hv hp=> ?_,Sg.un hqq⟩
  ·rcases Jh.mp hrs with rfl|hrs
   ·exact f0 h.1.2
   ·rw[Ja.mp hrs];exact f0 h.1.1
  ·refine ak (ar.mp (iC h.2 v hv hp)) λr h1 h2=> ?_
   rcases Jh.mp h1 with rfl|h1
   ·exact cS hqq (.head _) (ar.mpr ⟨_,.head _,h2⟩)
   ·exact cS hqq (.tail _ (.head _)) (ar.mpr ⟨_,h1,h2⟩)
 ·rw[if_neg hA];have hn:∀q∈ps,¬(q=1∧y=N∧(w=2∨w=1)):=λq h e=>hA ⟨by obtain⟨rfl,_⟩:=e;exact hs.mem (.inr rfl) h,e.2⟩
  have hf:∀q∈ps,∀p∈g5 q w y,p∈Qs:=λq h=>oa (hq q h) hw y
  exact⟨km hf λq h=>(Cb (hq q h) hw y (hn q h)).1,kr hf λq h=>(Cb (hq q h) hw y (hn q h)).2,Sg.un (bp hf)⟩
theorem DS:(Qs.all λq=>eg q .tr Z [] (one (rH q))&&vF q .tr Z [] (one (rH q))&&(eg q .tr N [] (one (zm q))&&vF q .tr N [] (one (zm q))))=Z:=by decide+kernel
theorem zp:∀q∈Qs,(∀p∈one (rH q),p∈Qs∧p≠1∧p≠4∧p≠5)∧∀p∈one (zm q),p∈Qs:=by decide+kernel
theorem AW{q:Nat}(h1:q≠1)(h2:q≠4)(h3:q≠5):nn q=q:=by unfold nn;simp[h1,h2,h3]
theorem wE{q:Nat}(h:q∈Qs):one q=[q]:=by
 have:∀q∈Qs,one q=[q]:=by decide+kernel
 exact this q h
theorem Af{ps:List Nat}(hq:∀q∈ps,q∈Qs)(y:Bool):l3 ps .tr y [] (xT ps y)∧we ps .tr y [] (xT ps y)∧Sg (xT ps y):=by
 have ht:=λq h=>Jb.mp DS q (hq q h)
 simp only[I8] at ht;unfold xT;cases y with
 |false=>
  rw[if_neg (by simp)];have hf:∀q∈ps,∀p∈one (zm q),p∈Qs:=λq h=>(zp q (hq q h)).2
  exact⟨km hf λq h=>f0 (ht q h).2.1,kr hf λq h=>iC (ht q h).2.2,Sg.un (bp hf)⟩
 |true=>
  rw[if_pos rfl];have hf:∀q∈ps,∀p∈one (rH q),p∈Qs:=λq h p hp=>((zp q (hq q h)).1 p hp).1
  have a1:l3 ps .tr Z [] (un (ps.map λq=>one (rH q))):=km hf λq h=>f0 (ht q h).1.1
  have a2:we ps .tr Z [] (un (ps.map λq=>one (rH q))):=kr hf λq h=>iC (ht q h).1.2
  have hne:∀q∈un (ps.map λq=>one (rH q)),q≠1∧q≠4∧q≠5:=λq h=>by
   rcases BK (bp hf) h with⟨rs,h1,h2⟩|⟨rfl,_⟩
   ·refine ak (Jv.mp h1) λq' h3 oz7=> ?_
    subst oz7;exact((zp q' (hq q' h3)).1 q h2).2
   ·exact⟨by decide,by decide,by decide⟩
  have huq:=dO (bp hf);have hmm:∀q∈un (ps.map λq=>one (rH q)),one (nn q)=[q]:=λq h=>by
   refine cI (hne q h) λn1 n2 n3=> ?_
   rw[AW n1 n2 n3,wE (huq q h)]
  have hf2:∀q∈un (ps.map λq=>one (rH q)),∀p∈one (nn q),p∈Qs:=λq h p hp=>by
   rw[hmm q h] at hp;rw[Ja.mp hp];exact huq q h
  refine⟨gM (bp hf2) λrs hrs=> ?_,λv hv hp=> ?_,Sg.un (bp hf2)⟩
  ·refine ak (Jv.mp hrs) λq h1 oz8=> ?_
   subst oz8;rw[hmm q h1];intro r hr v hv;rw[Ja.mp hr] at hv ⊢;exact a1 q h1 v hv
  ·refine ak (ar.mp (a2 v hv hp)) λr h1 h2=> ?_
   exact cS (bp hf2) (Jv.mpr ⟨r,h1,rfl⟩) (by rw[hmm r h1];exact ar.mpr ⟨r,.head _,h2⟩)
theorem uJ{gs:List Nat}(h:gs≠[]):mx gs∈gs∧∀w∈gs,w≤mx gs:=by
 have hl:0<gs.length:=Kz λe=>h (Jo e)
 refine aO (argBest_gt (λi=>(gs.map I9).getD i 0) ((gs.map I9).length - 1)) λh1 h2=> ?_
 have hk:(gs.map I9).length - 1=gs.length - 1:=by rw[Jj]
 constructor
 ·unfold mx;have hlt:QA (λi j=>QQ ((gs.map I9).getD i 0>(gs.map I9).getD j 0)) ((gs.map I9).length - 1)<gs.length:=by omega
  rw[Jp,Jw hlt];exact Kk hlt
 ·intro w hw;obtain⟨j,hj,e⟩:=NB hw;have h3:=h2 j (by omega);simp only[gQ] at h3;rw[Jp,Jw hj] at h3;have h4:I9 (gs[j])≤I9 (mx gs):=by unfold mx;simp only[gQ];exact h3
  rw[←e];exact Ol.mp h4
theorem FH{gs:List Nat}{c:Nat}:c<mx gs↔∃w∈gs,c<w:=by
 by_cases h:gs=[]
 ·subst h;have:mx []=0:=rfl;rw[this];simp
 ·refine aO (uJ h) λh1 h2=> ?_
  exact⟨λx=>⟨_,h1,x⟩,λ⟨w,a,b⟩=>LC b (h2 w a)⟩
noncomputable def nb(st:Bool)(v w:Nat):Bool:=if st then w==v else lk w==lk v
theorem ug(st:Bool)(gs:List Nat)(v:Nat):dN st gs v=if v=10 then 0 else(gs.filter (nb st v)).length:=by
 unfold dN nb;cases st<;>simp
theorem qo{os:List Nat}{st:Bool}{gs:List Nat}{v:Nat}:bI (.eq os st) Z gs v=Z↔v≠10∧∃w∈gs,nb st v w=Z:=by
 show QQ (0<dN st gs v)=Z↔_;rw[decide_eq_true_eq,ug];by_cases h:v=10
 ·rw[if_pos h];simp[h]
 ·rw[if_neg h,L0];constructor
  ·rintro⟨w,hw⟩;exact⟨h,w,(Jm.mp hw).1,(Jm.mp hw).2⟩
  ·rintro⟨_,w,h1,h2⟩;exact⟨w,Jm.mpr ⟨h1,h2⟩⟩
theorem pC{os:List Nat}{st:Bool}{gs:List Nat}{v:Nat}:bI (.eq os st) N gs v=Z↔(v=10∧gs≠[])∨(v≠10∧∃w∈gs,nb st v w=N):=by
 show QQ (dN st gs v<gs.length)=Z↔_;rw[decide_eq_true_eq,ug];by_cases h:v=10
 ·rw[if_pos h];constructor
  ·intro h2;exact .inl ⟨h,λe=>by rw[e] at h2;simp at h2⟩
  ·rintro(⟨_,h2⟩|⟨h2,_⟩)
   ·exact Kz λe=>h2 (Jo e)
   ·exact absurd h h2
 ·rw[if_neg h,List.length_filter_lt_length_iff_exists];constructor
  ·intro rz3;refine aw λMz kz7=> ?_
   refine ak rz3 λw h1 h2=> ?_
   refine kz7 ?_;exact .inr ⟨h,w,h1,by simpa using h2⟩
  ·rintro(⟨h2,_⟩|⟨_,w,h1,h2⟩)
   ·exact absurd h2 h
   ·exact⟨w,h1,by rw[h2];simp⟩
section
variable{gs gs':List Nat}(hs:∀w∈gs,w∈gs')(hl:gs.length≤gs'.length)
include hs
theorem vG{os os':List Nat}{st y:Bool}{v:Nat}(h:bI (.eq os st) y gs v=Z):bI (.eq os' st) y gs' v=Z:=by
 cases y with
 |true=>
  rw[qo] at h ⊢;obtain⟨h0,w,h1,h2⟩:=h;exact⟨h0,w,hs w h1,h2⟩
 |false=>
  rw[pC] at h ⊢;rcases h with⟨h0,h1⟩|⟨h0,w,h1,h2⟩
  ·refine .inl ⟨h0,λe=> ?_⟩;cases gs with
   |nil=>exact h1 rfl
   |cons a l=>have:=hs a (.head _);rw[e] at this;cases this
  ·exact .inr ⟨h0,w,hs w h1,h2⟩
theorem kq{c:Nat}(h:c<mx gs):c<mx gs':=by
 rw[FH] at h ⊢;refine ak h λw h1 h2=> ?_
 exact⟨w,hs w h1,h2⟩
include hl
theorem vY{p v:Nat}{st y:Bool}(h:gB p st y gs v=Z):gB p st y gs' v=Z:=by
 unfold gB at h ⊢;by_cases x':((!st&&tD v)&&QQ (0<(gs'.filter λw=>tD w&& !(wI w==wI v)).length))=Z
 ·rw[if_pos x']
 ·have x:¬((!st&&tD v)&&QQ (0<(gs.filter λw=>tD w&& !(wI w==wI v)).length))=Z:=λe=>x' (by
   rw[I8,decide_eq_true_eq,L0] at e ⊢;obtain⟨a,w,b⟩:=e;exact⟨a,w,Jm.mpr ⟨hs w (Jm.mp b).1,(Jm.mp b).2⟩⟩)
  rw[if_neg x] at h;rw[if_neg x'];cases y with
  |true=>
   rw[if_pos rfl] at h ⊢;by_cases z':(v==10&&gs'.any (·==10))=Z
   ·rw[if_pos z']
   ·have z:¬(v==10&&gs.any (·==10))=Z:=λe=>z' (by
     rw[I8,J2] at e ⊢;obtain⟨a,w,b,c⟩:=e;exact⟨a,w,hs w b,c⟩)
    rw[if_neg z] at h;rw[if_neg z'];by_cases q:(p==1||p==11)=Z
    ·rw[if_pos q] at h ⊢;simp only[JL,I8,decide_eq_true_eq] at h ⊢;exact h.imp (kq hs) λ⟨a,b⟩=>⟨a,kq hs b⟩
    ·rw[if_neg q] at h ⊢;simp only[I8,decide_eq_true_eq] at h ⊢;exact⟨h.1,kq hs h.2⟩
  |false=>
   rw[if_neg (by simp)] at h ⊢;by_cases z:mx gs<2
   ·rw[if_pos z] at h;cases h
   ·have z1:1<mx gs':=kq hs (by exact M9.mp z);rw[if_neg z] at h;rw[if_neg (by exact Nat.not_lt_of_le z1)];simp only[JL,decide_eq_true_eq] at h ⊢;exact h.imp id λa=>a.imp id λb=>by exact JD b hl
theorem qB{os os':List Nat}{p v:Nat}{st y:Bool}(h:rJ (.eq os st) p y gs v=Z):rJ (.eq os' st) p y gs' v=Z:=by
 unfold rJ at h ⊢;rw[JL] at h ⊢;refine h.imp (vG hs) λh=> ?_
 unfold fQ at h ⊢;by_cases p0:(p==0)=Z
 ·rw[if_pos p0]
 ·rw[if_neg p0] at h ⊢;exact vY hs hl h
theorem zy{os os':List Nat}{st y:Bool}{qs rs:List Nat}(h:l3 qs (.eq os st) y gs rs):l3 qs (.eq os' st) y gs' rs:=by
 intro r hr v hv;refine cG (h r hr v hv) λq a b c=> ?_
 exact⟨q,a,b,λp hp hpq=>⟨qB hs hl (c p hp hpq).1,(c p hp hpq).2⟩⟩
end
theorem iw{os:List Nat}{o:Nat}(h:o∈os):(∀w∈bk o,w∈aD os)∧(bk o).length≤(aD os).length:=by
 constructor
 ·exactλw hw=>ar.mpr ⟨o,h,hw⟩
 ·induction os with
  |nil=>cases h
  |cons a l ih=>
   have e:aD (a::l)=bk a++aD l:=by unfold aD;rw[Kq]
   rw[e,Jk];rcases Jh.mp h with rfl|h
   ·exact JX _ _
   ·have:=ih h;omega
noncomputable def Qn:List Nat:=[4,5,6,7,8,9,10,11,14,16,18,19,20,21,22,23,24,25,26,27,28,29,30,31]
theorem ul{q:Nat}(h:q∈Qs)(hf:ah q≠0):q∈Qn:=by
 have:∀q∈Qs,ah q≠0→q∈Qn:=by decide+kernel
 exact this q h hf
theorem pN{q:Nat}(h:q∈Qn):q∈Qs:=by
 have:∀q∈Qn,q∈Qs:=by decide
 exact this q h
noncomputable def gT(q o:Nat)(st:Bool):Bool:=((q==6||q==7)&&kZ (ah q) o)||(q==11&&bu o&&st)
theorem pP{f:Nat→Nat→Bool→Bool}{l m:List Nat}(h:(l.all λq=>m.all λo=>[Z,N].all λst=>f q o st)=Z){q o:Nat}(hq:q∈l)(ho:o∈m)(st:Bool):f q o st=Z:=
 Jb.mp (Jb.mp (Jb.mp h q hq) o ho) st (bb st)
theorem Ex:(Qn.all λq=>Qn.all λo=>[Z,N].all λst=> !mt q o st||(if gT q o st then eg q (.eq [] st) Z (bk o) [o] else eg q (.eq [] st) Z (bk o) [q]))=Z:=by decide+kernel
theorem Ds:(Qn.all λq=>Qn.all λo=>[Z,N].all λst=>(bk q).all λv=>(bk o).all λw=>v==10|| !nb st v w||(mt q o st&&(!(gT q o st)||(bk o).contains v)))=Z:=by decide+kernel
theorem FY:(Qs.all λp=>[0,1].all λo=>[Z,N].all λst=>[Z,N].all λy=>(JE 16).all λv=>rJ (.eq [] st) p y (bk o) v)=Z:=by decide+kernel
theorem cy{q o:Nat}{os os':List Nat}{st y:Bool}{rs:List Nat}(ho:o∈os)(h:eg q (.eq os' st) y (bk o) rs=Z):l3 [q] (.eq os st) y (aD os) rs:=
 zy (iw ho).1 (iw ho).2 (f0 h)
theorem Ae{q o:Nat}{os:List Nat}{st:Bool}(hq:q∈Qn)(hn:o∈Qn)(ho:o∈os)(h:mt q o st=Z):l3 [q] (.eq os st) Z (aD os) (if gT q o st then[o] else[q]):=by
 have t:=pP Ex hq hn st;rw[h] at t;by_cases s:gT q o st=Z
 ·rw[if_pos s] at t ⊢;exact cy ho t
 ·rw[if_neg s] at t ⊢;exact cy ho t
theorem wG{q o:Nat}{st:Bool}(hq:q∈Qn)(ho:o∈Qn)(f:(ah q==7)=Z)(hp:bu o=Z)(hm:mt q o st=Z):gT q o st=st:=by
 have h1:=(sS (pN hq) (pN ho) f hp hm).1;subst h1;unfold gT;rw[hp];cases st<;>rfl
theorem uw{q o:Nat}{st:Bool}(h67:(q==6||q==7)=N)(h:(q==11)=N∨bu o=N):gT q o st=N:=by
 unfold gT;rw[h67];rcases h with h|h<;>rw[h]<;>simp
theorem GN{q:Nat}(hq:q∈Qn):((ah q==7)=Z→(q==6||q==7)=N)∧((ah q==7)=N→(q==11)=N):=by
 have:∀q∈Qn,((ah q==7)=Z→(q==6||q==7)=N)∧((ah q==7)=N→(q==11)=N):=by decide+kernel
 exact this q hq
theorem sq{q o:Nat}{st:Bool}(hq:(q==6||q==7)=Z):gT q o st=kZ (ah q) o:=by
 unfold gT;rw[hq];have:(q==11)=N:=by
  simp only[JL,beq_iff_eq] at hq;rcases hq with rfl|rfl<;>rfl
 rw[this];simp
theorem Ba{q:Nat}{os:List Nat}{st:Bool}(hq:q∈Qn)(hn:∀o∈os,o∈Qn):l3 [q] (.eq os st) Z (aD os) (ms q os st):=by
 have hit:∀o∈os.filter (mt q · st),l3 [q] (.eq os st) Z (aD os) (if gT q o st then[o] else[q])∧o∈Qn∧mt q o st=Z:=λo ho=>by
  have h1:=(Jm.mp ho).1;have h2:=(Jm.mp ho).2;exact⟨Ae hq (hn o h1) h1 h2,hn o h1,h2⟩
 have hqq:∀ps∈(os.filter (mt q · st)).map (λo=>[o]),∀p∈ps,p∈Qs:=bp λo h p hp=>by rw[Ja.mp hp];exact pN (hit o h).2.1
 have each:(∀o∈os.filter (mt q · st),gT q o st=Z)→l3 [q] (.eq os st) Z (aD os) (un ((os.filter (mt q · st)).map λo=>[o])):=λh=>gM hqq λrs hrs=>by
  refine ak (Jv.mp hrs) λo ho oz2=> ?_
  subst oz2;have h1:=(hit o ho).1;rw[h o ho,if_pos rfl] at h1;exact h1
 have self:∀o∈os.filter (mt q · st),gT q o st=N→l3 [q] (.eq os st) Z (aD os) [q]:=λo ho h=>by
  have h1:=(hit o ho).1;rw[h,if_neg (by simp)] at h1;exact h1
 unfold ms;by_cases h0:os.filter (mt q · st)=[]
 ·rw[if_pos h0];exactλr hr=>nomatch hr
 ·rw[if_neg h0];refine aG (J4 _ h0) λo0 ho0=> ?_
  by_cases h1:(ah q==7&&(os.filter (mt q · st)).all bu)=Z
  ·rw[if_pos h1];rw[I8] at h1;refine aO h1 λf hp=> ?_
   have hsp:∀o∈os.filter (mt q · st),gT q o st=st:=λo ho=>wG hq (hit o ho).2.1 f (Jb.mp hp o ho) (hit o ho).2.2
   cases st with
   |true=>rw[if_pos rfl];exact each hsp
   |false=>rw[if_neg (by simp)];exact self o0 ho0 (hsp o0 ho0)
  ·rw[if_neg h1];unfold yX;by_cases h2:((q==6||q==7)&&(os.filter (mt q · st)).all (kZ (ah q)))=Z
   ·rw[if_pos h2];rw[I8] at h2;exact each λo ho=>by rw[sq h2.1];exact Jb.mp h2.2 o ho
   ·rw[if_neg h2];cases c67:(q==6||q==7) with
    |true=>
     rw[c67,K9,JN,ML] at h2;refine ak h2 λo ho h3=> ?_
     exact self o ho (by rw[sq c67];simpa using h3)
    |false=>
     cases c7:(ah q==7) with
     |true=>
      rw[c7,K9,JN,ML] at h1;refine ak h1 λo ho h3=> ?_
      exact self o ho (uw c67 (.inr (by simpa using h3)))
     |false=>exact self o0 ho0 (uw c67 (.inl ((GN hq).2 c7)))
theorem iF{q:Nat}{os:List Nat}{st:Bool}{v:Nat}(hp:bI (.eq os st) Z (aD os) v=Z):v≠10∧∃o∈os,∃w∈bk o,nb st v w=Z:=by
 rw[qo] at hp;refine aw λMz kz6=> ?_
 obtain⟨h0,w,h1,h2⟩:=hp;refine ak (ar.mp h1) λo h3 h4=> ?_
 refine kz6 ?_;exact⟨h0,o,h3,w,h4,h2⟩
theorem Bw{q:Nat}{os:List Nat}{st:Bool}(hq:q∈Qn)(hn:∀o∈os,o∈Qn):we [q] (.eq os st) Z (aD os) (ms q os st):=by
 intro v hv hp;obtain⟨q',hq',hv⟩:=ar.mp hv;rw[Ja.mp hq'] at hv;obtain⟨n10,o,ho,w,hw,hnb⟩:=iF (q:=q) hp;have t:=Jb.mp (Jb.mp (pP Ds hq (hn o ho) st) v hv) w hw;have b10:(v==10)=N:=by simp[n10]
 rw[b10,hnb] at t;simp only[Kp,JQ,J7,I8,JL,JU,List.contains_iff_mem] at t;obtain⟨hm,hs⟩:=t;have hmem:o∈os.filter (mt q · st):=Jm.mpr ⟨ho,hm⟩;have hqq:∀ps∈(os.filter (mt q · st)).map (λo=>[o]),∀p∈ps,p∈Qs:=bp λo h p hp=>by rw[Ja.mp hp];exact pN (hn o (Jm.mp h).1)
 have each:gT q o st=Z→v∈aD (un ((os.filter (mt q · st)).map λo=>[o])):=λh=>by
  rcases hs with hs|hs
  ·rw[h] at hs;cases hs
  ·exact cS hqq (Jv.mpr ⟨o,hmem,rfl⟩) (ar.mpr ⟨o,.head _,hs⟩)
 have self:v∈aD [q]:=ar.mpr ⟨q,.head _,hv⟩;unfold ms;rw[if_neg (λe=>by rw[e] at hmem;cases hmem)];by_cases h1:(ah q==7&&(os.filter (mt q · st)).all bu)=Z
 ·rw[if_pos h1];rw[I8] at h1;obtain⟨f,hp⟩:=h1;have hsp:=wG hq (hn o ho) f (Jb.mp hp o hmem) hm;cases st with
  |true=>rw[if_pos rfl];exact each hsp
  |false=>rw[if_neg (by simp)];exact self
 ·rw[if_neg h1];unfold yX;by_cases h2:((q==6||q==7)&&(os.filter (mt q · st)).all (kZ (ah q)))=Z
  ·rw[if_pos h2];rw[I8] at h2;exact each (by rw[sq h2.1];exact Jb.mp h2.2 o hmem)
  ·rw[if_neg h2];exact self
theorem wD(a b:Nat):(I9 a).fmod (I9 b)=I9 (a%b):=by
 show Int.fmod (a:Int) (b:Int)=_;rw[Int.fmod_eq_emod_of_nonneg _ (Ky b)];rfl
theorem yo(a b:Nat):(I9 a).fdiv (I9 b)=I9 (a/b):=by
 show Int.fdiv (a:Int) (b:Int)=_;rw[Int.fdiv_eq_ediv_of_nonneg _ (Ky b)];rfl
theorem cN(st:St)(a b:Nat)(h:b≠0):bd .mod st (.val (iv a)) (.val (iv b))=O (.val (iv (a%b))):=by
 show(if I9 b=0 then U else O (LV.val (.int ((I9 a).fmod (I9 b)))))=_;rw[if_neg (λe=>h (by injection e)),wD]
theorem io(st:St)(a b:Nat)(h:b≠0)(hb:b<1000000):bd .div st (.val (iv a)) (.val (iv b))=O (.val (iv (a/b))):=by
 show(if I9 b=0 then U else if(I9 b).natAbs<1073741824 then O (LV.val (.int ((I9 a).fdiv (I9 b)))) else U)=_;rw[if_neg (λe=>h (by injection e)),if_pos (by show b<_;exact nr hb),yo]
theorem Bi(st:St)(a:Nat):bd .mul st (.val (iv 31)) (.val (iv a))=O (.val (iv (31*a))):=by
 show(if(I9 31)=2∨(I9 31)=31 then O (LV.val (.int (I9 31*I9 a))) else U)=_;rw[if_pos (.inr rfl)];rfl
theorem wv(st:St)(a:Nat):bd .mul st (.val (iv 2)) (.val (iv a))=O (.val (iv (2*a))):=by
 show(if(I9 2)=2∨(I9 2)=31 then O (LV.val (.int (I9 2*I9 a))) else U)=_;rw[if_pos (.inl rfl)];rfl
theorem fP(st:St)(a b:Nat):bd .add st (.val (iv a)) (.val (iv b))=O (.val (iv (a+b))):=rfl
theorem hH(st:St){l:List AV}{i:Nat}{a:AV}(hi:i<1000000)(h:l[i]? =O a):aL ac st (.val (.lst l)) (.val (iv i))=O (.val a):=by
 show(if i<1000000000 then(l[i]?).map LV.val else U)=_;rw[if_pos (by exact nr hi),h];rfl
noncomputable def dP(nums:List Nat)(i:Nat):Nat:=nums.getD (i%nums.length) 0+31*(i/nums.length)
theorem fN{R:List AV}{nums:List Nat}(h:nums≠[])(hl:nums.length<1000)(i:Nat):aN 1 80 [.val (.lst (pv nums)),.val (iv i)] R (.val (iv (dP nums i))) R:=by
 have hp:nums.length≠0:=λe=>h (Jo e)
 refine aN.body (n:=0) (fd:=jI) (by kernel_rfl) rfl rfl λk _=> ?_
 have l1:=dK (st:=⟨ag R,[]⟩) (l:=nums) (nr hl);have b1:=cN ⟨ag R,[]⟩ i nums.length hp;have b2:=io ⟨ag R,[]⟩ i nums.length hp (nr hl);have b3:bd .mul ⟨ag R,[]⟩ (.val (.int 31)) (.val (iv (i/nums.length)))=O (.val (iv (31*(i/nums.length)))):=Bi _ _;have hm:i%nums.length<nums.length:=Kj _ (by exact Kz hp);have s1:aL ac ⟨ag R,[]⟩ (.val (.lst (pv nums))) (.val (iv (i%nums.length)))=O (.val (iv (nums.getD (i%nums.length) 0))):=hH _ (by omega) (by
  rw[JK,Jp,Jw hm];rfl)
 have b4:=fP ⟨ag R,[]⟩ (nums.getD (i%nums.length) 0) (31*(i/nums.length))
 (refine aC [eV 0 l1,eV 0 b1,eV 0 s1,eV 0 l1,eV 0 b2,eV 0 b3,eV 0 b4] ?_;kernel_rfl)
noncomputable def em:List Nat:=[4,5,8,9,12,14,19,16,20,21,22,23,24,25,26,27,6,7,28,29,18,30,31,10,11,1,0]
noncomputable def iT(i:Nat):Nat:=em.getD i 0
noncomputable def gz(i:Nat):List Nat:=if i=12 then[8,9] else[i]
theorem uS:(JE 27).map (λi=>cK[i]?)=(JE 27).map (λi=>O (.tup [iv (iT i),.tup (pv (bk (iT i)))])):=by kernel_rfl
theorem uj{i:Nat}(h:i<27):cK[i]? =O (.tup [iv (iT i),.tup (pv (bk (iT i)))]):=aq uS i (J6.mpr h)
theorem ku{i:Nat}(h:i<27):iT i∈em:=by
 have:∀i<27,iT i∈em:=by decide
 exact this i h
theorem fW{i:Nat}(h:i∈em):∀p∈gz i,p∈Qs:=by
 have:∀i∈em,∀p∈gz i,p∈Qs:=by decide
 exact this i h
theorem nF(R:List AV)(i:Nat):aR R i (gz i):=by
 delta gz;by_cases h:i=12
 ·rw[if_pos h,h];exact Ib R
 ·rw[if_neg h];exact rfl
theorem DB(R:List AV){i:Nat}(h:i∈em):Kd R i (gz i):=⟨nF R i,fW h,by delta gz;split<;>simp⟩
theorem yw{i:Nat}(h:i∈em):Sg (gz i):=by
 delta gz;split
 ·intro p hp hf;exfalso;have:∀p∈[8,9],ah p≠0:=by decide+kernel
  exact this p hp hf
 ·exact Sg.one i
theorem EK(st:St):∀w,w<6→aL ac st (.val (.tup [(.str [115,116,114,105,110,103]),(.str [111,98,106,101,99,116]),(.str [117,110,100,101,102,105,110,101,100]),(.str [110,117,109,98,101,114]),(.str [102,117,110,99,116,105,111,110]),(.str [98,111,111,108,101,97,110])])) (.val (iv w))=O (.val (.str (wd w)))
 |0,_=>rfl|1,_=>rfl|2,_=>rfl|3,_=>rfl|4,_=>rfl|5,_=>rfl
 |_+6,h=>absurd (nl h) (Lv _)
noncomputable def zt(nums picks:List Nat)(j:Nat):Nat:=if dP nums (7+2*j)%2=0 then picks.getD (dP nums (7+2*j)/2%picks.length) 0 else iT (dP nums (7+2*j)/2%27)
noncomputable def yE(nums picks:List Nat)(j:Nat):List Nat:=if dP nums (7+2*j)%5=0 then un [gz (zt nums picks j),gz (iT (dP nums (7+2*j)/54%27))] else gz (zt nums picks j)
noncomputable def q7(nums picks:List Nat)(j:Nat)(forced:Bool):cO:=
 let what:=if forced then 2 else dP nums (6+2*j)%3
 if what=0 then .ty (dP nums (7+2*j)%6) else if what=1 then .tr else .eq (yE nums picks j) (!(dP nums (6+2*j)/24%3==2))
theorem rj{nums picks:List Nat}(hp:∀i∈picks,i∈em)(hne:picks≠[])(j:Nat):zt nums picks j∈em:=by
 delta zt;split
 ·have h0:0<picks.length:=Kz λe=>hne (Jo e)
  have hm:=Kj (dP nums (7+2*j)/2) h0;rw[Jp,Jw hm];exact hp _ (Kk hm)
 ·exact ku (Kj _ (nc))
noncomputable def ρT(nums:List Nat)(j:Nat)(forced:Bool)(x6 x7 x8 x9:Option LV):Ρ:=[O (.ref 0),O (.val (.lst (pv nums))),O (.val (.lst cK)),O (.loc 1),O (.val (iv j)),O (.val (.bool forced)),x6,x7,x8,x9]
noncomputable def oT(B:Nat)(picks:List Nat):Nat:=if B%2=0 then picks.getD (B/2%picks.length) 0 else iT (B/2%27)
section
variable{Φ:ek}{R:List AV}{nums picks:List Nat}{j A B:Nat}{b:CO}{S:List CO}{forced:Bool}
theorem vS{x7 x8 x9:Option LV}{st:St}:ev pg ac Φ (.ite (.var 5) (.cst (.int 2)) (.bin .mod (.var 6) (.cst (.int 3)))) .V (ρT nums j forced (O (.val (iv A))) x7 x8 x9) st=O ([.val (iv (if forced=Z then 2 else A%3))],st):=by
 cases forced
 ·exact bz [eV 1 (cN zz A 3 (by decide))] (by kernel_rfl)
 ·exact bz [] (by kernel_rfl)
theorem v3(hne:picks.length≠0)(hpl:picks.length<1000){x6 x8:Option LV}:ex pg ac Φ (.ife (.cmp .eq (.bin .mod (.var 7) (.cst (.int 2))) (.cst (.int 0))) %[.asg 9 (.sub (.var 3) (.bin .mod (.bin .div (.var 7) (.cst (.int 2))) (.fn1 .len (.var 3))))|_] .nil) (ρT nums j forced x6 (O (.val (iv B))) x8 (O (.val (iv (iT (B/2%27)))))) ⟨ag R,b:: .list (pv picks)::S⟩=
   O (U,ρT nums j forced x6 (O (.val (iv B))) x8 (O (.val (iv (oT B picks)))),⟨ag R,b:: .list (pv picks)::S⟩):=by
 have m:=cN zz B 2 (by decide);have c:af ac .eq zz (.val (iv (B%2))) (.val (.int 0))=O (B%2==0):=js 0 _;delta oT;by_cases h:B%2=0
 ·rw[beq_iff_eq.mpr h] at c;have hmp:B/2%picks.length<picks.length:=Kj _ (Kz hne);have x6:aF ac .len ⟨ag R,b:: .list (pv picks)::S⟩ (.loc 1)=O (.val (iv picks.length)):=by
   show(if(pv picks).length<aA then O (LV.val (.int ((pv picks).length:Nat))) else U)=_;rw[if_pos (by rw[Jj];exact nr hpl),Jj];rfl
  have x8:aL ac ⟨ag R,b:: .list (pv picks)::S⟩ (.loc 1) (.val (iv (B/2%picks.length)))=O (.val (iv (picks.getD (B/2%picks.length) 0))):=by
   show(if B/2%picks.length<1000000000 then((pv picks)[B/2%picks.length]?).map LV.val else U)=_;rw[if_pos (Oe hmp (nr hpl)),JK,Jp,Jw hmp];rfl
  rw[if_pos h];exact dw [eV 0 m,eB 0 c,eV 0 (io zz B 2 (by decide) nc),eV 0 x6,eV 0 (cN zz (B/2) picks.length hne),eV 0 x8] (by kernel_rfl)
 ·rw[beq_eq_false_iff_ne.mpr h] at c;exact(if_neg h).symm▸(dw [eV 0 m,eB 0 c] (by kernel_rfl))
theorem qL{n:Nat}:aL ac zz (.val (.lst cK)) (.val (iv (n%27)))=O (.val (.tup [iv (iT (n%27)),.tup (pv (bk (iT (n%27))))])):=
 have h:=Kj n (show 27>0 from nc)
 hH _ (nr h) (uj h)
theorem wh{x6 x8:Option LV}{o r:Nat}{st st':St}(h:B%5=0∧Φ 16 [.ref 0,.val (.lst [iv o,iv (iT (B/54%27))])] st=O (.val (iv r),st')∨B%5≠0∧r=o∧st'=st):
  ex pg ac Φ (.ife (.cmp .eq (.bin .mod (.var 7) (.cst (.int 5))) (.cst (.int 0))) %[.asg 9 (.cal 16 %[.var 0,.lst .val %[.var 9,.sub (.sub (.var 2) (.bin .mod (.bin .div (.var 7) (.cst (.int 54))) (.cst (.int 27)))) (.cst (.int 0))|_]|_])|_] .nil) (ρT nums j forced x6 (O (.val (iv B))) x8 (O (.val (iv o)))) st=
   O (U,ρT nums j forced x6 (O (.val (iv B))) x8 (O (.val (iv r))),st'):=by
 have m:=cN zz B 5 (by decide);have c:af ac .eq zz (.val (iv (B%5))) (.val (.int 0))=O (B%5==0):=js 0 _;rcases h with⟨h,g⟩|⟨h,rfl,rfl⟩
 ·rw[beq_iff_eq.mpr h] at c;exact dw [eV 0 m,eB 0 c,eV 0 (io zz B 54 (by decide) nc),eV 0 (cN zz (B/54) 27 (by decide)),eV 0 (qL (n:=B/54)),eC 2 g] (by kernel_rfl)
 ·rw[beq_eq_false_iff_ne.mpr h] at c;exact dw [eV 0 m,eB 0 c] (by kernel_rfl)
variable(dA:Φ 80 [.val (.lst (pv nums)),.val (iv (6+2*j))] ⟨ag R,b:: .list (pv picks)::S⟩=O (.val (iv A),⟨ag R,b:: .list (pv picks)::S⟩))(dB:Φ 80 [.val (.lst (pv nums)),.val (iv (7+2*j))] ⟨ag R,b:: .list (pv picks)::S⟩=O (.val (iv B),⟨ag R,b:: .list (pv picks)::S⟩))
include dA dB
theorem AI{w r:Nat}{a:AV}{st':St}(hw:(if forced=Z then 2 else A%3)=w)(h:w=0∧a= .tup [.int 0,.str (wd (B%6)),.bool Z]∧st'=⟨ag R,b:: .list (pv picks)::S⟩∨w=1∧a= .tup [.int 1,.int 0,.bool Z]∧st'=⟨ag R,b:: .list (pv picks)::S⟩∨(w≠0∧w≠1)∧a= .tup [.int 2,iv r,.bool (!(A/24%3==2))]∧(picks.length≠0∧picks.length<1000)∧
   (B%5=0∧Φ 16 [.ref 0,.val (.lst [iv (oT B picks),iv (iT (B/54%27))])] ⟨ag R,b:: .list (pv picks)::S⟩=O (.val (iv r),st')∨B%5≠0∧r=oT B picks∧st'=⟨ag R,b:: .list (pv picks)::S⟩)):
  ∃ρ',ex pg ac Φ jC (ρT nums j forced U U U U) ⟨ag R,b:: .list (pv picks)::S⟩=O (O (.val a),ρ',st'):=by
 have m2:=wv zz j;have tw:=vS (Φ:=Φ) (nums:=nums) (j:=j) (A:=A) (forced:=forced) (x7:=O (.val (iv B))) (x8:=U) (x9:=U) (st:=⟨ag R,b:: .list (pv picks)::S⟩);rw[hw] at tw;rcases h with⟨rfl,rfl,rfl⟩|⟨rfl,rfl,rfl⟩|⟨⟨h0,h1⟩,rfl,⟨hp,hpl⟩,h⟩
 ·exact gu [eV 0 m2,eC 1 dA,eV 0 m2,eC 1 dB,eX 0 tw,eV 1 (cN zz B 6 (by decide)),eV 0 (EK zz (B%6) (Kj _ nc))] (by kernel_rfl)
 ·exact gu [eV 0 m2,eC 1 dA,eV 0 m2,eC 1 dB,eX 0 tw] (by kernel_rfl)
 ·exact gu [eV 0 m2,eC 1 dA,eV 0 m2,eC 1 dB,eX 0 tw,eB 0 (Au h0 zz),eB 0 (Au h1 zz),eV 0 (io zz B 2 (by decide) nc),eV 0 (cN zz (B/2) 27 (by decide)),eV 0 (qL (n:=B/2)),
   eS 1 (v3 (Φ:=Φ) (R:=R) (nums:=nums) (j:=j) (B:=B) (b:=b) (S:=S) (forced:=forced) (x6:=O (.val (iv A))) (x8:=O (.val (iv w))) hp hpl),eS 0 (wh (nums:=nums) (j:=j) (forced:=forced) (x6:=O (.val (iv A))) (x8:=O (.val (iv w))) h),eV 0 (io zz A 24 (by decide) nc),eV 0 (cN zz (A/24) 3 (by decide)),eB 0 (ES (a:=A/24%3) 2 zz)] (by kernel_rfl)
end
theorem xz{R:List AV}(hR:Bd 1 R){nums picks:List Nat}(hn:nums≠[])(hnl:nums.length<1000)(hp:∀i∈picks,i∈em)(hne:picks≠[])(hpl:picks.length<1000)(j:Nat)(forced:Bool):
  ∃R' a,bQ 1 R R'∧rK R' a (q7 nums picks j forced)∧∀k b S,5≤k→Fn pg ac k 88 [.ref 0,.val (.lst (pv nums)),.val (.lst cK),.loc 1,.val (iv j),.val (.bool forced)] ⟨ag R,b:: .list (pv picks)::S⟩=O (.val a,⟨ag R',b:: .list (pv picks)::S⟩):=by
 have go:∀{a:AV} {r:Nat} {R':List AV},(∀k b S,4≤k→(if forced=Z then 2 else dP nums (6+2*j)%3)=0∧a= .tup [.int 0,.str (wd (dP nums (7+2*j)%6)),.bool Z]∧(⟨ag R',b:: .list (pv picks)::S⟩:St)=⟨ag R,b:: .list (pv picks)::S⟩∨(if forced=Z then 2 else dP nums (6+2*j)%3)=1∧a= .tup [.int 1,.int 0,.bool Z]∧(⟨ag R',b:: .list (pv picks)::S⟩:St)=⟨ag R,b:: .list (pv picks)::S⟩∨((if forced=Z then 2 else dP nums (6+2*j)%3)≠0∧(if forced=Z then 2 else dP nums (6+2*j)%3)≠1)∧a= .tup [.int 2,iv r,.bool (!(dP nums (6+2*j)/24%3==2))]∧(picks.length≠0∧picks.length<1000)∧
   (dP nums (7+2*j)%5=0∧Fn pg ac k 16 [.ref 0,.val (.lst [iv (oT (dP nums (7+2*j)) picks),iv (iT (dP nums (7+2*j)/54%27))])] ⟨ag R,b:: .list (pv picks)::S⟩=O (.val (iv r),⟨ag R',b:: .list (pv picks)::S⟩)∨dP nums (7+2*j)%5≠0∧r=oT (dP nums (7+2*j)) picks∧(⟨ag R',b:: .list (pv picks)::S⟩:St)=⟨ag R,b:: .list (pv picks)::S⟩))→
   ∀k b S,5≤k→Fn pg ac k 88 [.ref 0,.val (.lst (pv nums)),.val (.lst cK),.loc 1,.val (iv j),.val (.bool forced)] ⟨ag R,b:: .list (pv picks)::S⟩=O (.val a,⟨ag R',b:: .list (pv picks)::S⟩):=λh k b S hk=>by
  obtain⟨k,rfl⟩:∃k',k=k'+1:=⟨k - 1,nq hk⟩
  have hk:=JJ hk;exact xK (f:=88) (fd:=jw) (by kernel_rfl) rfl rfl (AI (fN hn hnl _ k _ (nl hk)) (fN hn hnl _ k _ (nl hk)) rfl (h k b S hk)) rfl rfl
 by_cases h0:(if forced=Z then 2 else dP nums (6+2*j)%3)=0
 ·exact⟨R,_,.rfl' _,by delta q7;rw[if_pos h0];exact⟨Kj _ nc,rfl⟩,go (r:=0) λ_ _ _ _=> .inl ⟨h0,rfl,rfl⟩⟩
 by_cases h1:(if forced=Z then 2 else dP nums (6+2*j)%3)=1
 ·exact⟨R,_,.rfl' _,by delta q7;rw[if_neg h0,if_pos h1];exact rfl,go (r:=0) λ_ _ _ _=> .inr (.inl ⟨h1,rfl,rfl⟩)⟩
 have hpl0:picks.length≠0:=λe=>hne (Jo e)
 have ho:oT (dP nums (7+2*j)) picks∈em:=rj (nums:=nums) hp hne j;have hk2:=ku (Kj (dP nums (7+2*j)/54) (show 27>0 from nc));by_cases h5:dP nums (7+2*j)%5=0
 ·have hqq:∀ps∈[gz (oT (dP nums (7+2*j)) picks),gz (iT (dP nums (7+2*j)/54%27))],∀p∈ps,p∈Qs:=λps hps p hpp=>by
   rcases Jh.mp hps with rfl|hps
   ·exact fW ho p hpp
   ·rw[Ja.mp hps] at hpp;exact fW hk2 p hpp
  refine vH (aQ hR (ts:=[oT (dP nums (7+2*j)) picks,iT (dP nums (7+2*j)/54%27)]) (.cons (nF R _) (fW ho) (.cons (nF R _) (fW hk2) .nil)) hqq) λR' r g1 g2 g3 _ _=> ?_
  refine⟨R',_,g1,?_,go (r:=r) λk b S hk=> .inr (.inr ⟨⟨h0,h1⟩,rfl,⟨hpl0,hpl⟩,.inl ⟨h5,g3 k _ (nl hk)⟩⟩)⟩;delta q7 yE;rw[if_neg h0,if_neg h1,if_pos h5];exact⟨r,dS hqq g2,Sg.un hqq,rfl⟩
 ·refine⟨R,_,.rfl' _,?_,go λk b S hk=> .inr (.inr ⟨⟨h0,h1⟩,rfl,⟨hpl0,hpl⟩,.inr ⟨h5,rfl,rfl⟩⟩)⟩;delta q7 yE;rw[if_neg h0,if_neg h1,if_neg h5];exact⟨_,DB R ho,yw ho,rfl⟩
theorem jz{n tg:Nat}{bs:List Bool}{it cond:X}{ρ:Ρ}{R:List AV}{S1:List CO}{l:List Nat}{v:AV}{b:Bool}{p:Nat→Bool}(hv:ao ⟨ag R,[]⟩ (.val v)=O (b,pv l))(ht:tg<(bD bs ρ).length)(hl:l.length<1000000)(hR:Bd 0 R)
  (hit:∀k,n≤k→ev pg ac (Fn pg ac k) it .V ρ ⟨ag R,S1⟩=O ([.val v],⟨ag R,S1⟩))
  (h:∀y∈l,∀R2,Bd 0 R2→wb R R2→∀k acc,n≤k→ev pg ac (Fn pg ac k) cond .T ((bD bs ρ).set tg (O (.val (iv y)))) ⟨ag R2,S1++[.list acc]⟩=O ([.val (.bool (p y))],⟨ag R2,S1++[.list acc]⟩)):
  ∀k m,n≤k→ev pg ac (Fn pg ac k) (.comp N tg bs (.var tg) it cond) m ρ ⟨ag R,S1⟩=bv m (O (.val (.lst (pv (l.filter p))),⟨ag R,S1⟩)):=by
 obtain⟨out,R1,hC,_,_,hev⟩:=ia (α:=Nat) (en:=iv) (Q:=λR y o R1=>R1=R∧o=if p y then O (iv y) else U) (c:=0) (λk S'=>n≤k∧∃acc,S'=S1++[.list acc]) hv ht (kR hl) (by rw[Ke];exact hR)
  (λk S hS=>by
   obtain⟨hk,acc,e⟩:=hS [];have e:=Nm e rfl;cases e;exact hit k hk) (cond:=cond) (e:= .var tg)
  (λy hy R2 hR2 hF=>⟨if p y then O (iv y) else U,R2,R2,⟨rfl,rfl⟩,.rfl' _,λ_=>rfl,λk S' hS'=>by
   obtain⟨hk,acc,rfl⟩:=hS';constructor
   ·rw[h y hy R2 hR2 hF k acc hk];cases p y<;>rfl
   ·intro a ha;have:a=iv y:=by
     cases h:p y<;>rw[h] at ha
     ·exfalso;exact nomatch ha
     ·simpa using ha.symm
    subst this;rw[im,Kc (ht)];rfl⟩)
 refine aO (dk hC) λe1 e2=> ?_
 cases e1;intro k m hk;rw[hev k S1 m λacc=>⟨hk,acc,rfl⟩,e2]
noncomputable def sv(ss:List (List Nat)):List AV:=ss.map λl=> .lst (pv l)
noncomputable def eM(t:Nat):Bool:=t==0||t==1||t==6||t==7||t==10||t==11
noncomputable def hW(ps:List Nat):Bool:=(ps.filter eM).length==0
theorem D6(st:St)(p:Nat):af ac .inn st (.val (iv p)) (.val (.tup [.int 0,.int 1,.int 6,.int 7,.int 10,.int 11]))=O (eM p):=et (by
 show(QQ (I9 0=I9 p)||(QQ (I9 1=I9 p)||(QQ (I9 6=I9 p)||(QQ (I9 7=I9 p)||(QQ (I9 10=I9 p)||(QQ (I9 11=I9 p)||false))))))=_;rw[az,az,az,az,az,az];delta eM;simp only[JQ,L7])
theorem Ah(st:St)(c:Nat)(gs:List Nat):af ac .nin st (.val (iv c)) (.val (.lst (pv gs)))=O (!gs.any (·==c)):=by
 have:=EP st c gs;rw[qt] at this;rw[ub,this];rfl
theorem nR{c:Nat}{gs:List Nat}(h:c∈gs):gs.any (·==c)=Z:=J2.mpr ⟨c,h,by simp⟩
theorem C2{c:Nat}{gs:List Nat}(h:c∉gs):gs.any (·==c)=N:=by
 rw[JZ];intro e;refine ak (J2.mp e) λx hx e=> ?_
 have:x=c:=by simpa using e
 exact h (this▸hx)
theorem lm{l:List Nat}{p:Nat→Bool}(h:∀x∈l,p x=N):l.filter p=[]:=List.filter_eq_nil_iff.mpr λx hx=>by rw[h x hx];simp
section
variable{R:List AV}{pk tt:CO}{ss ts:List (List Nat)}
noncomputable def S5(pk:CO)(ss ts:List (List Nat))(tt:CO):List CO:=[.dict .int aW,pk,.list (sv ss),.list (sv ts),tt]
theorem wQ{i:Nat}(h:i<ss.length)(hl:i<1000000){T:List CO}:aL ac ⟨ag R,S5 pk ss ts tt++T⟩ (.loc 2) (.val (iv i))=O (.val (.lst (pv ss[i]))):=by
 show(if i<1000000000 then((sv ss)[i]?).map LV.val else U)=_;rw[if_pos (by exact nr hl)];delta sv;rw[JK,Jw h];rfl
theorem D3{i:Nat}(h:i<ts.length)(hl:i<1000000){T:List CO}:aL ac ⟨ag R,S5 pk ss ts tt++T⟩ (.loc 3) (.val (iv i))=O (.val (.lst (pv ts[i]))):=by
 show(if i<1000000000 then((sv ts)[i]?).map LV.val else U)=_;rw[if_pos (by exact nr hl)];delta sv;rw[JK,Jw h];rfl
theorem Dx{st:St}{a b:List Nat}(h:a.length+b.length<100000):bd .add st (.val (.lst (pv a))) (.val (.lst (pv b)))=O (.val (.lst (pv (a++b)))):=by
 show(if(pv a).length+(pv b).length<aA then O (LV.val (.lst (pv a++pv b))) else U)=_;rw[if_pos (by rw[Jj,Jj];exact nr h),←Ki]
noncomputable def xw:Sx:= %[.asg 9 (.bin .add (.var 9) (.sub (.var 4) (.var 10))),.ife (.cmp .gt (.fn1 .len (.comp N 12 [N,N,N,N,N,N,N,Z] (.var 12) (.sub (.var 3) (.var 10)) (.cmp .nin (.var 12) (.var 7)))) (.cst (.int 0))) %[.ret (.cst (.bool N))|_] .nil,.ife (.bop Z %[.var 8,.cmp .gt (.fn1 .len (.sub (.var 3) (.var 10))) (.cst (.int 0)),.cmp .nin (.sub (.var 2) (.var 10)) (.var 6)|_]) %[.ret (.cst (.bool N))|_] .nil,.ife (.bop Z %[.var 8,.cmp .eq (.fn1 .len (.sub (.var 4) (.var 10))) (.cst (.int 0)),.cmp .inn (.sub (.var 2) (.var 10)) (.var 6)|_]) %[.ret (.cst (.bool N))|_] .nil|_]
structure Rt(ps:List Nat)(ss ts:List (List Nat))(now:List Nat):Prop where
 ls:ss.length=ps.length
 lt:ts.length=ps.length
 lp:ps.length≤32
 s16:∀l∈ss,l.length≤16
 t16:∀l∈ts,l.length≤16
 h1:∀l∈ss,∀v∈l,v∈aD now
 h2:hW ps=Z→∀i (h:i<ps.length) (h2:i<ss.length),ss[i]≠[]→ps[i]∈now
 h3:hW ps=Z→∀i (h:i<ps.length) (h2:i<ts.length),ts[i]=[]→ps[i]∉now
 h4:hW ps=Z→∀t∈now,t∈ps
 h5:∀v∈aD now,∃l∈ts,v∈l
noncomputable def ρR(ps:List Nat)(t:AV)(now h:List Nat)(c0:Bool)(rm:List Nat)(x10:Option LV):Ρ:=[O (.ref 0),O (.loc 0),O (.val (.lst (pv ps))),O (.loc 2),O (.loc 3),O (.val t),O (.val (.lst (pv now))),O (.val (.lst (pv h))),O (.val (.bool c0)),O (.val (.lst (pv rm))),x10,U,U]
omit pk tt ss ts R in
theorem sD{Φ:ek}{ps now h rm:List Nat}{t:AV}{i p:Nat}{s u:List Nat}{c0 c1 c2 c3:Bool}{st:St}(s2:aL ac st (.loc 2) (.val (iv i))=O (.val (.lst (pv s))))(s3:aL ac st (.loc 3) (.val (iv i))=O (.val (.lst (pv u))))(sp:aL ac st (.val (.lst (pv ps))) (.val (iv i))=O (.val (iv p)))
  (ad:bd .add st (.val (.lst (pv rm))) (.val (.lst (pv u)))=O (.val (.lst (pv (rm++u))))) (hc:ev pg ac Φ (.comp N 12 [N,N,N,N,N,N,N,Z] (.var 12) (.sub (.var 3) (.var 10)) (.cmp .nin (.var 12) (.var 7))) .V (ρR ps t now h c0 (rm++u) (O (.val (iv i)))) st=O ([.val (.lst [])],st))
  (ls:aF ac .len st (.val (.lst (pv s)))=O (.val (iv s.length))) (lt:aF ac .len st (.val (.lst (pv u)))=O (.val (iv u.length))) (g1:af ac .gt st (.val (iv s.length)) (.val (iv 0))=O c1) (g2:af ac .eq st (.val (iv u.length)) (.val (iv 0))=O c2)
  (m1:af ac .nin st (.val (iv p)) (.val (.lst (pv now)))=O (!c3)) (m2:af ac .inn st (.val (iv p)) (.val (.lst (pv now)))=O c3) (q1:c0=Z→c1=Z→c3=Z) (q2:c0=Z→c2=Z→c3=N):
  ex pg ac Φ xw (ρR ps t now h c0 rm (O (.val (iv i)))) st=O (U,ρR ps t now h c0 (rm++u) (O (.val (iv i))),st):=by
 induction c0 with
 |false=>exact dw [eV 0 s3,eV 0 ad,eX 0 hc] (by kernel_rfl)
 |true=>
  induction c1 with
  |true=>
   obtain rfl:=q1 rfl rfl;cases c2 with
   |true=>cases q2 rfl rfl
   |false=>exact dw [eV 0 s3,eV 0 ad,eX 0 hc,eV 3 s2,eV 0 ls,eB 0 g1,eV 0 sp,eB 0 m1,eV 1 s3,eV 0 lt,eB 0 g2] (by kernel_rfl)
  |false=>
   cases c2 with
   |true=>
    obtain rfl:=q2 rfl rfl;exact dw [eV 0 s3,eV 0 ad,eX 0 hc,eV 3 s2,eV 0 ls,eB 0 g1,eV 1 s3,eV 0 lt,eB 0 g2,eV 0 sp,eB 0 m2] (by kernel_rfl)
   |false=>exact dw [eV 0 s3,eV 0 ad,eX 0 hc,eV 3 s2,eV 0 ls,eB 0 g1,eV 1 s3,eV 0 lt,eB 0 g2] (by kernel_rfl)
theorem sZ{k:Nat}{ps now:List Nat}{t:AV}(H:Rt ps ss ts now)(hR:Bd 0 R)(is:List Nat):
  (∀i∈is,i<ps.length)→∀(rm:List Nat) (x10:Option LV),rm.length+16*is.length<1000→∃y10,
  bB (bn 10) (ex pg ac (Fn pg ac k) xw) (λ_=>Z) (pv is) (ρR ps t now (aD now) (hW ps) rm x10) ⟨ag R,S5 pk ss ts tt⟩=
   O (U,ρR ps t now (aD now) (hW ps) (rm++is.flatMap λi=>ts.getD i []) y10,⟨ag R,S5 pk ss ts tt⟩):=by
 induction is with
 |nil=>exactλ_ rm x10 _=>⟨x10,by rw[Ox,Je];rfl⟩
 |cons i is ih=>
  intro hi rm x10 hl;rw[JH] at hl;have hip:i<ps.length:=hi i (.head _);have his:i<ss.length:=by rw[H.ls];exact hip
  have hit:i<ts.length:=by rw[H.lt];exact hip
  have hi32:i<32:=JD hip H.lp;have hti:(ts[i]).length≤16:=H.t16 _ (Kk hit);have hsi:(ss[i]).length≤16:=H.s16 _ (Kk his);have hg:ts.getD i []=ts[i]:=by rw[Jp,Jw hit];rfl
  refine aG (ih (λz hz=>hi z (.tail _ hz)) (rm++ts[i]) (O (.val (iv i))) (by rw[Jk];omega)) λy10 e=>⟨y10,?_⟩
  rw[Kq,hg,←Jy];refine(bS (ok:=λ_=>Z) (by kernel_rfl) (sD (p:=ps[i]) (s:=ss[i]) (u:=ts[i]) ?_ ?_ (hH _ (nr hi32) (by rw[JK,Jw hip];rfl)) (Dx (by omega)) ?_ (dK (ny hsi)) (dK (ny hti)) (fc _ _ 0) (js 0 _) (Ah _ ps[i] now) (EP _ ps[i] now) ?_ ?_) rfl).trans e
  ·have:=wQ (R:=R) (pk:=pk) (tt:=tt) (ts:=ts) his (nr hi32) (T:=[])
   rwa [Je] at this
  ·have:=D3 (R:=R) (pk:=pk) (tt:=tt) (ss:=ss) hit (nr hi32) (T:=[])
   rwa [Je] at this
  ·have s2:aL ac ⟨ag R,S5 pk ss ts tt⟩ (.loc 2) (.val (iv i))=O (.val (.lst (pv ss[i]))):=by
    have:=wQ (R:=R) (pk:=pk) (tt:=tt) (ts:=ts) his (nr hi32) (T:=[])
    rwa [Je] at this
   have hc:=jz (n:=0) (tg:=12) (bs:=[N,N,N,N,N,N,N,Z]) (it:= .sub (.var 3) (.var 10)) (cond:= .cmp .nin (.var 12) (.var 7)) (ρ:=ρR ps t now (aD now) (hW ps) (rm++ts[i]) (O (.val (iv i))))
    (R:=R) (S1:=S5 pk ss ts tt) (l:=ss[i]) (v:= .lst (pv ss[i])) (b:=Z) (p:=λv=> !(aD now).any (·==v)) rfl (nc) (ny hsi) hR
    (λk _=>bz [eV 0 s2] (by kernel_rfl))
    (λy hy R2 hR2 _ k acc _=>bz [eB 0 (Ah ⟨ag R2,S5 pk ss ts tt++[.list acc]⟩ y (aD now))] (by kernel_rfl)) k .V (KG _)
   rw[lm λv hv=>by rw[nR (H.h1 _ (Kk his) v hv)];rfl] at hc;exact hc
  ·exactλa b=>nR (H.h2 a i hip his λe=>by rw[e] at b;cases b)
  ·exactλa b=>C2 (H.h3 a i hip hit (Jo (beq_iff_eq.mp b)))
theorem la{Φ:ek}{it:X}{tg n:Nat}{b:Sx}{ρ:Ρ}{st st1:St}{r:Option (Option LV×Ρ×St)}(h:ev pg ac Φ it .V ρ st=O ([.val (iv n)],st1))(h2:n<1000000)(lo:bB (bn tg) (ex pg ac Φ b) (λ_=>Z) (pv (JE n)) ρ st1=r):ex pg ac Φ (.frR tg it b) ρ st=r:=by
 rw[BC,h,GW,if_pos ⟨Ky _,Nc.mpr h2⟩];exact lo
theorem v4{t:Nat}{ps now:List Nat}(hk:Kd R t now)(H:Rt ps ss ts now)(hR:Bd 0 R)(k:Nat):
  Fn pg ac (k+4) 89 [.ref 0,.loc 0,.val (.lst (pv ps)),.loc 2,.loc 3,.val (iv t)] ⟨ag R,S5 pk ss ts tt⟩=O (.val (.bool Z),⟨ag R,S5 pk ss ts tt⟩):=by
 have hl:=hk.l;have hp32:=H.lp;have e1:=gN hk hR.le (k+3) (S5 pk ss ts tt) (nc);have e2:Fn pg ac (k+3) 83 [.ref 0,.loc 0,.val (iv t)] ⟨ag R,S5 pk ss ts tt⟩=O (.val (.lst (pv (aD now))),⟨ag R,S5 pk ss ts tt⟩):=rn hR hk (k+1) _;have c1:=jz (n:=0) (tg:=11) (bs:=[]) (it:= .var 2) (cond:= .cmp .inn (.var 11) (.tup %[.cst (.int 0),.cst (.int 1),.cst (.int 6),.cst (.int 7),.cst (.int 10),.cst (.int 11)|_])) (ρ:=[O (.ref 0),O (.loc 0),O (.val (.lst (pv ps))),O (.loc 2),O (.loc 3),O (.val (iv t)),O (.val (.lst (pv now))),O (.val (.lst (pv (aD now)))),U,U,U,U,U])
  (R:=R) (S1:=S5 pk ss ts tt) (l:=ps) (v:= .lst (pv ps)) (b:=Z) (p:=eM) rfl (by show 11<13;exact nc) (ny hp32) hR
  (λk _=>by(refine bz [] ?_;kernel_rfl))
  (λy hy R2 hR2 _ k acc _=>by
   have n1:=D6 ⟨ag R2,S5 pk ss ts tt++[.list acc]⟩ y
   (refine bz [eB 1 n1] ?_;kernel_rfl))
 have c1:=c1 (k+3) .V (KG _);have l1:=dK (st:=⟨ag R,S5 pk ss ts tt⟩) (l:=ps.filter eM) (by have:=JV eM ps;exact ny (JD this hp32));have q1:af ac .eq ⟨ag R,S5 pk ss ts tt⟩ (.val (iv (ps.filter eM).length)) (.val (.int 0))=O (hW ps):=js 0 _;have l2:=dK (st:=⟨ag R,S5 pk ss ts tt⟩) (l:=ps) (ny hp32);obtain⟨y10,lo⟩:=sZ (k:=k+3) (t:=iv t) (pk:=pk) (tt:=tt) H hR (JE ps.length) (λi hi=>J6.mp hi) [] U (by rw[Lf,J5];omega);have hbk:=kF now;have c2:=jz (n:=0) (tg:=11) (bs:=[N,N,Z]) (it:= .var 6) (cond:= .cmp .nin (.var 11) (.var 2)) (ρ:=ρR ps (iv t) now (aD now) (hW ps) ((JE ps.length).flatMap λi=>ts.getD i []) y10)
  (R:=R) (S1:=S5 pk ss ts tt) (l:=now) (v:= .lst (pv now)) (b:=Z) (p:=λv=> !ps.any (·==v)) rfl (by show 11<13;exact nc) (ny hl) hR
  (λk _=>by(refine bz [] ?_;kernel_rfl))
  (λy hy R2 hR2 _ k acc _=>by
   have n1:=Ah ⟨ag R2,S5 pk ss ts tt++[.list acc]⟩ y ps
   (refine bz [eB 0 n1] ?_;kernel_rfl))
 have c3:=jz (n:=0) (tg:=12) (bs:=[N,N,N,N,N,N,N,N,N,Z]) (it:= .var 7) (cond:= .cmp .nin (.var 12) (.var 9)) (ρ:=ρR ps (iv t) now (aD now) (hW ps) ((JE ps.length).flatMap λi=>ts.getD i []) y10)
  (R:=R) (S1:=S5 pk ss ts tt) (l:=aD now) (v:= .lst (pv (aD now))) (b:=Z) (p:=λv=> !((JE ps.length).flatMap λi=>ts.getD i []).any (·==v)) rfl (nc) (by lia) hR
  (λk _=>by(refine bz [] ?_;kernel_rfl))
  (λy hy R2 hR2 _ k acc _=>by
   have n1:=Ah ⟨ag R2,S5 pk ss ts tt++[.list acc]⟩ y ((JE ps.length).flatMap λi=>ts.getD i [])
   (refine bz [eB 0 n1] ?_;kernel_rfl))
 have n3:(aD now).filter (λv=> !((JE ps.length).flatMap λi=>ts.getD i []).any (·==v))=[]:=lm λv hv=>by
  refine ak (H.h5 v hv) λl hl hv=> ?_
  obtain⟨i,hi,e⟩:=NB hl;rw[nR (KW.mpr ⟨i,J6.mpr (by rw[←H.lt];exact hi),by rw[Jp,Jw hi];exact e▸hv⟩)];rfl
 rw[n3] at c3;have c2:=λm=>c2 (k+3) m (KG _)
 have c3:=c3 (k+3) .V (KG _);have q2:hW ps=Z→now.filter (λv=> !ps.any (·==v))=[]:=λh=>lm λv hv=>by rw[nR (H.h4 h v hv)];rfl
 have lo:=la (Φ:=Fn pg ac (k+3)) (it:= .fn1 .len (.var 2)) (n:=ps.length) (st:=⟨ag R,S5 pk ss ts tt⟩) (bz [eV 0 l2] (by kernel_rfl)) (ny hp32) lo;have hx:∃ρ',ex pg ac (Fn pg ac (k+3)) dj.body (aM dj.nm.length [.ref 0,.loc 0,.val (.lst (pv ps)),.loc 2,.loc 3,.val (iv t)] dj.dv) ⟨ag R,S5 pk ss ts tt⟩=O (O (.val (.bool Z)),ρ',⟨ag R,S5 pk ss ts tt⟩):=by
  generalize hW ps=c0 at q1 lo c2 c3 q2;induction c0 with
  |false=>
   refine gu [eC 0 e1,eC 0 e2,eX 0 (c1.trans (aB _ _)),eV 0 l1,eB 0 q1,eS 1 lo,eX 1 (c3.trans (aB _ _))] ?_;kernel_rfl
  |true=>
   rw[q2 rfl] at c2;refine gu [eC 0 e1,eC 0 e2,eX 0 (c1.trans (aB _ _)),eV 0 l1,eB 0 q1,eS 1 lo,eX 1 ((c2 .V).trans (aB _ _)),eX 2 (c3.trans (aB _ _))] ?_;kernel_rfl
 refine aG hx λρ' hx=> ?_
 have:=cV (f:=89) (by kernel_rfl) rfl rfl hx rfl;rw[this];rw[Kw]
end
section
set_option tactic.hygienic true
theorem ti{Φ:ek}{s r:Sx}{ρ ρ1:Ρ}{st st1:St}(h:ex pg ac Φ s ρ st=O (U,ρ1,st1)):ex pg ac Φ (.cons s r) ρ st=ex pg ac Φ r ρ1 st1:=by
 rw[iQ,h];rfl
theorem mM{α:Type}{en g:α→AV}{tg:Nat}{ρ0:Ρ}(ht:tg<ρ0.length){tst:Ρ→St→Option (Bool×St)}{elt:Ρ→St→Option (AV×St)}{ok:St→Bool}(hok:∀s,ok s=Z){G:List GO}{S:List CO}:
  ∀(l:List α),(∀y∈l,∀acc,tst (ρ0.set tg (O (.val (en y)))) ⟨G,S++[.list acc]⟩=O (Z,⟨G,S++[.list acc]⟩)∧elt (ρ0.set tg (O (.val (en y)))) ⟨G,S++[.list acc]⟩=O (g y,⟨G,S++[.list acc]⟩))→
   ∀(acc:List AV) (x:Option LV),acc.length+l.length<aA→ch (bn tg) tst elt ok S.length (l.map en) (ρ0.set tg x) ⟨G,S++[.list acc]⟩=O ⟨G,S++[.list (acc++l.map g)]⟩
 |[],_,acc,x,_=>by simp[ch]
 |y::l,h,acc,x,hl=>by
  refine aO (h y (.head _) acc) λe1 e2=> ?_
  have ih:=mM ht hok l (λz hz=>h z (.tail _ hz)) (acc++[g y]) (O (.val (en y))) (by rw[Jk,JH,J5];exact nz hl);have ha:bn tg (en y) (ρ0.set tg x)=O (ρ0.set tg (O (.val (en y)))):=by
   delta bn;rw[if_pos (by rw[Mh];exact ht),PW]
  have h4:gI S.length (g y) ⟨G,S++[.list acc]⟩=O ⟨G,S++[.list (acc++[g y])]⟩:=jk rfl (JA (JX _ _) hl);rw[JT,jj ha e1 e2 h4 (hok _),ih,Jy];rfl
theorem uA{α:Type}{en g:α→AV}{loc:Bool}{tg:Nat}{bs:List Bool}{e it:X}{ρ:Ρ}{G:List GO}{S:List CO}{l:List α}{v:AV}{b:Bool}{Φ:ek}(hv:ao ⟨G,S⟩ (.val v)=O (b,l.map en))(ht:tg<(bD bs ρ).length)(hl:l.length<aA)
  (hit:ev pg ac Φ it .V ρ ⟨G,S⟩=O ([.val v],⟨G,S⟩))
  (h:∀y∈l,∀acc,ev pg ac Φ e .V ((bD bs ρ).set tg (O (.val (en y)))) ⟨G,S++[.list acc]⟩=O ([.val (g y)],⟨G,S++[.list acc]⟩)):
  ev pg ac Φ (.comp loc tg bs e it (.cst (.bool Z))) .V ρ ⟨G,S⟩=if loc then O ([.loc S.length],⟨G,S++[.list (l.map g)]⟩) else O ([.val (.lst (l.map g))],⟨G,S⟩):=by
 have hsame:(bD bs ρ).set tg ((bD bs ρ)[tg])=bD bs ρ:=Nl _;have hc:=mM (en:=en) (g:=g) ht (tst:=qA Φ (.cst (.bool Z))) (elt:=qb Φ e) (ok:=aP (.val v) b (l.map en)) (λ_=>rfl) (G:=G) (S:=S) l (λy hy acc=>⟨rfl,s9 (h y hy acc)⟩) [] ((bD bs ρ)[tg]) (by simpa using hl);rw[hsame,K8] at hc;rw[qi,hit,tv,hv];show bv .V (oO (ch (bn tg) (qA Φ (.cst (.bool Z))) (qb Φ e) (aP (.val v) b (l.map en)) S.length (l.map en) (bD bs ρ) ⟨G,S++[.list []]⟩) _)=_;rw[hc];induction loc with
 |true=>
  show bv .V (O (.loc S.length,cR (S.length+1) ⟨G,S++[CO.list (l.map g)]⟩))=_;rw[ju rfl];rfl
 |false=>
  show bv .V (oO (S++[CO.list (l.map g)])[S.length]? λc=>sJ c λr=>O (.val (.lst r),cR S.length ⟨G,S++[CO.list (l.map g)]⟩))=_;rw[JS];delta cR;rw[MA];rfl
noncomputable def iV(ns:List Int):List Nat:=if ns=[] then[29] else(ns.take 40).map λx=>(x.fmod 999983).toNat
theorem Bb(ns:List Int):iV ns≠[]:=by
 delta iV;split
 ·simp
 ·rename_i h;induction ns with
  |nil=>exact absurd rfl h
  |cons a l=>simp
theorem yT(ns:List Int):(iV ns).length≤40:=by
 delta iV;split
 ·simp
 ·rw[Jj,Kv];omega
theorem xb{α:Type}(l:List α)(n:Nat):l.take (min n l.length)=l.take n:=by
 rcases Nat.le_total n l.length with h|h
 ·rw[OR h]
 ·rw[Nat.min_eq_right h,K3 (JC _),K3 h]
theorem A6(x:Int):x.fmod 999983=I9 (x.fmod 999983).toNat:=by
 have:=Int.fmod_nonneg_of_pos x (show(0:Int)<999983 by decide);exact(Int.toNat_of_nonneg this).symm
theorem CB(Φ:ek)(ns:List Int)(hn:¬63<ns.length):
  ∃v:AV,ex pg ac Φ (.asc 1 (.comp N 6 [] (.bin .mod (.var 6) (.cst (.int 999983))) (.slT (.var 0) (.cst (.int 40))) (.cst (.bool Z)))) (aM 32 [.val (.lst (ns.map AV.int))] []) zz=O (U,(aM 32 [.val (.lst (ns.map AV.int))] []).set 1 (O (.val v)),zz)∧
   ∀r,ex pg ac Φ (.cons (.ife (.cmp .eq (.fn1 .len (.var 1)) (.cst (.int 0))) %[.asg 1 (.lst .val %[.cst (.int 29)|_])|_] .nil) r) ((aM 32 [.val (.lst (ns.map AV.int))] []).set 1 (O (.val v))) zz=
    ex pg ac Φ r ((aM 32 [.val (.lst (ns.map AV.int))] []).set 1 (O (.val (.lst (pv (iV ns)))))) zz:=by
 have hlen:(ns.map AV.int).length<aA:=by delta aA;rw[Jj];omega
 have hsl:ev pg ac Φ (.slT (.var 0) (.cst (.int 40))) .V (aM 32 [.val (.lst (ns.map AV.int))] []) zz=O ([.val (.lst ((ns.take 40).map AV.int))],zz):=by
  show bv .V (if(ns.map AV.int).length<aA∧(0:Int)≤40 then _ else U)=_;rw[if_pos ⟨hlen,by decide⟩,xb,←List.map_take];rfl
 have hc:=uA (en:=AV.int) (g:=λx=>iv (x.fmod 999983).toNat) (loc:=N) (tg:=6) (bs:=[]) (e:= .bin .mod (.var 6) (.cst (.int 999983))) (it:= .slT (.var 0) (.cst (.int 40))) (ρ:=aM 32 [.val (.lst (ns.map AV.int))] []) (G:=[]) (S:=[]) (l:=ns.take 40) (v:= .lst ((ns.take 40).map AV.int)) (b:=Z) (Φ:=Φ) rfl (by exact nc) (by rw[Kv];delta aA;omega) hsl
  (λy _ acc=>by
   have b1:∀s,bd .mod s (.val (.int y)) (.val (.int 999983))=O (.val (iv (y.fmod 999983).toNat)):=λs=>by
    show(if(999983:Int)=0 then U else O (LV.val (.int (y.fmod 999983))))=_;rw[if_neg (by decide),A6];rfl
   (refine bz [eV 0 (b1 zz)] ?_;kernel_rfl))
 refine⟨.lst ((ns.take 40).map λx=>iv (x.fmod 999983).toNat),?_,λr=> ?_⟩
 ·rw[Ai,hc];rfl
 ·have hL:((ns.take 40).map λx=>iv (x.fmod 999983).toNat)=pv ((ns.take 40).map λx=>(x.fmod 999983).toNat):=by
   show _=KF iv (KF _ _);rw[Mq];rfl
  rw[hL];have l1:=dK (st:=zz) (l:=(ns.take 40).map λx=>(x.fmod 999983).toNat) (by rw[Jj,Kv];omega);have q1:af ac .eq zz (.val (iv ((ns.take 40).map λx=>(x.fmod 999983).toNat).length)) (.val (.int 0))=O (((ns.take 40).map λx=>(x.fmod 999983).toNat).length==0):=js 0 _;induction ns with
  |nil=>
   exact ti (dw [eV 0 l1,eB 0 q1] (by kernel_rfl))
  |cons a l=>
   exact ti (dw [eV 0 l1,eB 0 q1] (by kernel_rfl))
noncomputable def Go:Nat→Sx→Sx
 |0,_=> .nil
 |n+1,.cons a b=> .cons a (Go n b)
 |_,s=>s
noncomputable def A3:Nat→Sx→Sx
 |0,s=>s
 |n+1,.cons _ b=>A3 n b
 |_,_=> .nil
theorem C5(k:Nat)(sc nums:AV):ex pg ac (Fn pg ac (k+30)) (Go 7 (A3 2 qU)) ((aM 32 [.val sc] []).set 1 (O (.val nums))) zz=
 O (U,[O (.val sc),O (.val nums),O (.ref 0),O (.ref 9),O (.val (.lst cK)),O (.loc 0),U,U,U,U,U,U,U,U,U,U,U,U,U,O (.val (iv 0)),O (.val (.tup (pv (bk 0)))),U,U,U,U,U,U,U,U,U,U,U],⟨ag [],[.dict .int aW]⟩):=by kernel_rfl
theorem s7{Φ:ek}:∀(n:Nat) (s:Sx) {ρ ρ1:Ρ} {st st1:St},ex pg ac Φ (Go n s) ρ st=O (U,ρ1,st1)→ex pg ac Φ s ρ st=ex pg ac Φ (A3 n s) ρ1 st1
 |0,s,ρ,ρ1,st,st1,h=>by cases h;rfl
 |n+1,s,ρ,ρ1,st,st1,h=>by
  cases s
  case cons a b=>
   change ex pg ac Φ (.cons a (Go n b)) ρ st=_ at h;show ex pg ac Φ (.cons a b) ρ st=ex pg ac Φ (A3 n b) ρ1 st1;rw[iQ] at h ⊢;cases e:ex pg ac Φ a ρ st with
   |none=>rw[e] at h;cases h
   |some q=>
    obtain⟨q,ρ2,st2⟩:=q;rw[e] at h;induction q with
    |some v=>cases h
    |none=>exact s7 n b h
  all_goals exact h
end
noncomputable def BI:Sx:= %[.asg 21 (.cal 80 %[.var 1,.bin .add (.cst (.int 1)) (.var 8)|_]),.asg 22 (.ite (.cmp .lt (.bin .mod (.var 6) (.cst (.int 4))) (.cst (.int 2))) (.bin .mod (.var 21) (.cst (.int 16))) (.bin .mod (.var 21) (.cst (.int 25)))),.ife (.bop Z %[.cmp .eq (.bin .mod (.var 6) (.cst (.int 4))) (.cst (.int 3)),.cmp .eq (.var 8) (.cst (.int 0))|_]) %[.asg 22 (.bin .add (.cst (.int 16)) (.bin .mod (.var 21) (.cst (.int 11))))|_] .nil,.exp (.app (.var 7) (.sub (.sub (.var 4) (.var 22)) (.cst (.int 0))))|_]
noncomputable def Ea(nums:List Nat)(x i:Nat):Nat:=if(x%4==3&&i==0)=Z then 16+dP nums (1+i)%11 else if QQ (x%4<2)=Z then dP nums (1+i)%16 else dP nums (1+i)%25
theorem yt(nums:List Nat)(x i:Nat):Ea nums x i<27:=by
 unfold Ea;split
 ·have:=Kj (dP nums (1+i)) (show 11>0 by exact nc);exact J8 this _
 ·split
  ·have:=Kj (dP nums (1+i)) (show 16>0 by exact nc);exact nr this
  ·have:=Kj (dP nums (1+i)) (show 25>0 by exact nc);exact nr this
theorem Hz{R:List AV}{a:CO}{l:List AV}{x:AV}(h:l.length<10000):iu ⟨ag R,[a,.list l]⟩ (.loc 1) (.val x)=O ⟨ag R,[a,.list (l++[x])]⟩:=by
 show(if l.length<aA then O _ else U)=_;rw[if_pos (by unfold aA;exact nr h)];rfl
noncomputable def up(g:Nat→Option LV)(i:Nat)(v:LV):Nat→Option LV:=λj=>bif Nat.beq j i then O v else g j
noncomputable def ρP(sc:LV)(nums:List Nat)(x:Nat)(g:Nat→Option LV):Ρ:=
 [O sc,O (.val (.lst (pv nums))),O (.ref 0),O (.ref 9),O (.val (.lst cK)),O (.loc 0),O (.val (iv x)),O (.loc 1),g 8,U,U,U,U,U,U,U,U,U,U,g 19,g 20,g 21,g 22,U,U,U,U,U,U,U,U,U]
theorem vK{Φ:ek}{R:List AV}{sc:LV}{nums:List Nat}{x i p q:Nat}{acc:List Nat}{g:Nat→Option LV}{t1 t2 t3:Bool}(d1:Φ 80 [.val (.lst (pv nums)),.val (iv (1+i))] ⟨ag R,[.dict .int aW,.list (pv acc)]⟩=O (.val (iv q),⟨ag R,[.dict .int aW,.list (pv acc)]⟩))
  (c2:af ac .lt zz (.val (iv (x%4))) (.val (iv 2))=O t1) (c3:af ac .eq zz (.val (iv (x%4))) (.val (iv 3))=O t2) (c0:af ac .eq zz (.val (iv i)) (.val (iv 0))=O t3)
  (hpd:p=if(t2&&t3)=Z then 16+q%11 else if t1=Z then q%16 else q%25) (hp:p<27) (ha:acc.length<10000):
  ex pg ac Φ BI (ρP sc nums x (up g 8 (.val (iv i)))) ⟨ag R,[.dict .int aW,.list (pv acc)]⟩=
   O (U,ρP sc nums x (up (up (up g 8 (.val (iv i))) 21 (.val (iv q))) 22 (.val (iv p))),⟨ag R,[.dict .int aW,.list (pv (acc++[iT p]))]⟩):=by
 have m4:=cN zz x 4 (by decide);have q16:=cN zz q 16 (by decide);have q25:=cN zz q 25 (by decide);have q11:=cN zz q 11 (by decide);have a16:=fP zz 16 (q%11);have sk:aL ac zz (.val (.lst cK)) (.val (iv p))=O (.val (.tup [iv (iT p),.tup (pv (bk (iT p)))])):=hH _ (nr hp) (uj hp);have ap:=Hz (R:=R) (a:= .dict .int aW) (l:=pv acc) (x:=iv (iT p)) (by rw[Jj];exact ha);rw[show pv acc++[iv (iT p)]=pv (acc++[iT p]) by show _=KF iv _;rw[Ki];rfl] at ap;cases t2 with
 |false=>
  cases t1 with
  |false=>
   refine aw λMz kz1=> ?_
   obtain rfl:p=q%25:=hpd;refine kz1 ?_;exact dw [eV 0 (fP zz 1 i),eC 0 d1,eV 0 m4,eB 0 c2,eV 0 q25,eV 0 m4,eB 0 c3,eV 0 sk,eT 1 ap] (by kernel_rfl)
  |true=>
   refine aw λMz kz2=> ?_
   obtain rfl:p=q%16:=hpd;refine kz2 ?_;exact dw [eV 0 (fP zz 1 i),eC 0 d1,eV 0 m4,eB 0 c2,eV 0 q16,eV 0 m4,eB 0 c3,eV 0 sk,eT 1 ap] (by kernel_rfl)
 |true=>
  cases t3 with
  |false=>
   cases t1 with
   |false=>
    obtain rfl:p=q%25:=hpd;exact dw [eV 0 (fP zz 1 i),eC 0 d1,eV 0 m4,eB 0 c2,eV 0 q25,eV 0 m4,eB 0 c3,eB 0 c0,eV 0 sk,eT 1 ap] (by kernel_rfl)
   |true=>
    obtain rfl:p=q%16:=hpd;exact dw [eV 0 (fP zz 1 i),eC 0 d1,eV 0 m4,eB 0 c2,eV 0 q16,eV 0 m4,eB 0 c3,eB 0 c0,eV 0 sk,eT 1 ap] (by kernel_rfl)
  |true=>
   cases t1 with
   |false=>
    obtain rfl:p=16+q%11:=hpd;exact dw [eV 0 (fP zz 1 i),eC 0 d1,eV 0 m4,eB 0 c2,eV 0 q25,eV 0 m4,eB 0 c3,eB 0 c0,eV 0 q11,eV 0 a16,eV 0 sk,eT 1 ap] (by kernel_rfl)
   |true=>
    obtain rfl:p=16+q%11:=hpd;exact dw [eV 0 (fP zz 1 i),eC 0 d1,eV 0 m4,eB 0 c2,eV 0 q16,eV 0 m4,eB 0 c3,eB 0 c0,eV 0 q11,eV 0 a16,eV 0 sk,eT 1 ap] (by kernel_rfl)
theorem v5{k:Nat}(hk:1≤k){R:List AV}{nums:List Nat}(hn:nums≠[])(hnl:nums.length<1000){x:Nat}{sc:LV}(is:List Nat):∀(acc:List Nat) (g:Nat→Option LV),acc.length+is.length<1000→∃g',
  bB (bn 8) (ex pg ac (Fn pg ac k) BI) (λ_=>Z) (pv is) (ρP sc nums x g) ⟨ag R,[.dict .int aW,.list (pv acc)]⟩=
   O (U,ρP sc nums x g',⟨ag R,[.dict .int aW,.list (pv (acc++is.map λi=>iT (Ea nums x i)))]⟩):=by
 induction is with
 |nil=>exactλacc g _=>⟨g,by rw[Mr,Je];rfl⟩
 |cons i is ih=>
  intro acc g hl;rw[JH] at hl;refine aG (ih (acc++[iT (Ea nums x i)]) (up (up (up g 8 (.val (iv i))) 21 (.val (iv (dP nums (1+i))))) 22 (.val (iv (Ea nums x i)))) (by rw[Jk,KL];exact nz hl)) λg' e=>⟨g',?_⟩
  rw[Jy] at e;exact(bS (by kernel_rfl) (vK (g:=g) (fN (R:=R) hn hnl (1+i) k _ hk) (gH _ _ 2) (js 3 _) (js 0 _) rfl (yt nums x i) (JA (JX _ _) (nr hl))) rfl).trans e
theorem zG{R:List AV}{T:List CO}{q:Nat}(h:q∈Qs):aL ac ⟨ag R,.dict .int aW::T⟩ (.loc 0) (.val (iv q))=O (.val (.tup (pv (bk q)))):=by
 show(if aU .int (iv q) then(aE aW (iv q)).map LV.val else U)=_;rw[aq xk q h];rfl
theorem F5{st:St}{l:List Nat}(h:l.length<10000):aF ac .lst st (.val (.tup (pv l)))=O (.val (.lst (pv l))):=by
 show(if(pv l).length<aA then O (LV.val (.lst (pv l))) else U)=_;rw[if_pos (by unfold aA;rw[Jj];exact nr h)]
theorem mQ{Φ:ek}{R:List AV}{T:List CO}{ρ:Ρ}{ps:List Nat}(hq:∀q∈ps,q∈Qs)(hl:ps.length≤32)(h5:∀y,((bD [N,N,N,N,N,Z] ρ).set 19 y)[5]? =O (O (.loc 0)))(hlen:19<(bD [N,N,N,N,N,Z] ρ).length)
  (h10:ρ[10]? =O (O (.val (.lst (pv ps))))):
  ev pg ac Φ (.comp Z 19 [N,N,N,N,N,Z] (.fn1 .lst (.sub (.var 5) (.var 19))) (.var 10) (.cst (.bool Z))) .V ρ ⟨ag R,.dict .int aW::T⟩=O ([.loc (T.length+1)],⟨ag R,.dict .int aW::(T++[.list (sv (ps.map bk))])⟩):=by
 have h:=uA (en:=iv) (g:=λq=> .lst (pv (bk q))) (loc:=Z) (tg:=19) (bs:=[N,N,N,N,N,Z]) (e:= .fn1 .lst (.sub (.var 5) (.var 19))) (it:= .var 10) (ρ:=ρ) (G:=ag R) (S:= .dict .int aW::T) (l:=ps) (v:= .lst (pv ps)) (b:=Z) (Φ:=Φ) rfl hlen (by unfold aA;exact ny hl)
  (by rw[im,h10];rfl)
  (λq hqm acc=>by
   have h1:=h5 (O (.val (iv q)));have h2:((bD [N,N,N,N,N,Z] ρ).set 19 (O (.val (iv q))))[19]? =O (O (.val (iv q))):=Kc hlen;have h3:=zG (R:=R) (T:=T++[.list acc]) (hq q hqm);have h4:=λs=>F5 (st:=s) (l:=bk q) (by have:=ld q;exact ny this)
   have e1:ev pg ac Φ (.var 5) .V ((bD [N,N,N,N,N,Z] ρ).set 19 (O (.val (iv q)))) ⟨ag R,.dict .int aW::(T++[.list acc])⟩=O ([.loc 0],⟨ag R,.dict .int aW::(T++[.list acc])⟩):=by rw[im,h1];rfl
   have e2:ev pg ac Φ (.var 19) .V ((bD [N,N,N,N,N,Z] ρ).set 19 (O (.val (iv q)))) ⟨ag R,.dict .int aW::(T++[.list acc])⟩=O ([.val (iv q)],⟨ag R,.dict .int aW::(T++[.list acc])⟩):=by rw[im,h2];rfl
   rw[OB,AD,zV,e1,tv,e2,tv,h3];show bv .V ((aF ac .lst _ (.val (.tup (pv (bk q))))).map _)=_;rw[h4];rfl)
 rw[h,if_pos rfl];unfold sv;rw[Mq];rfl
noncomputable def ρM(sc:LV)(nums:List Nat)(x d y:Nat)(ps:List Nat)(g:Nat→Option LV):Ρ:=
 [O sc,O (.val (.lst (pv nums))),O (.ref 0),O (.ref 9),O (.val (.lst cK)),O (.loc 0),O (.val (iv x)),O (.loc 1),g 8,O (.val (iv d)),O (.val (.lst (pv ps))),O (.loc 2),O (.loc 3),g 13,O (.val (iv y)),O (.val (iv (2+y%4))),O (.loc 4),g 17,g 18,g 19,g 20,g 21,g 22,g 23,g 24,g 25,g 26,g 27,g 28,g 29,g 30,U]
theorem rf(R:List AV):∀l:List Nat,(∀i∈l,i∈em)→cT R l (l.map gz)
 |[],_=> .nil
 |i::l,h=> .cons (nF R i) (fW (h i (.head _))) (rf R l λz hz=>h z (.tail _ hz))
noncomputable def BQ:Sx:=A3 7 (A3 2 qU)
noncomputable def F9:Sx:=A3 11 BQ
theorem CZ{k:Nat}(hk:10≤k){sc:LV}{nums:List Nat}(hn:nums≠[])(hnl:nums.length<1000):
  ∃R x d picks ps y g,Kd R d ps∧ps=un (picks.map gz)∧(∀i∈picks,i∈em)∧picks≠[]∧picks.length<1000∧bQ 1 [] R∧
   ex pg ac (Fn pg ac k) BQ [O sc,O (.val (.lst (pv nums))),O (.ref 0),O (.ref 9),O (.val (.lst cK)),O (.loc 0),U,U,U,U,U,U,U,U,U,U,U,U,U,O (.val (iv 0)),O (.val (.tup (pv (bk 0)))),U,U,U,U,U,U,U,U,U,U,U] ⟨ag [],[.dict .int aW]⟩=
    ex pg ac (Fn pg ac k) F9 (ρM sc nums x d y ps (up g 13 (.val (iv d)))) ⟨ag R,S5 (.list (pv picks)) (ps.map bk) (ps.map bk) (.list [])⟩:=by
 have dr:=λR i S=>fN (R:=R) hn hnl i k S (nl hk)
 have d0:=dr [] 0 [.dict .int aW];generalize hx:dP nums 0=x at*;have hm:x/4%4<4:=Kj _ (nc);refine aw λMz kz1=> ?_
 obtain⟨g,lo⟩:=v5 (k:=k) (nl hk) (R:=[]) hn hnl (x:=x) (sc:=sc) (JE (1+x/4%4)) [] (up (up (λ_=>U) 19 (.val (iv 0))) 20 (.val (.tup (pv (bk 0))))) (by rw[Lf,J5,Ll];exact LC (KC hm 1) nc);rw[K8] at lo;refine kz1 ?_;generalize hpk:(JE (1+x/4%4)).map (λi=>iT (Ea nums x i))=picks at*;have hk1:∀i∈picks,i∈em:=λi hi=>by
  rw[←hpk] at hi;refine aw λMz kz2=> ?_
  refine ak (Jv.mp hi) λj _ oz7=> ?_
  subst oz7;refine kz2 ?_;exact ku (yt nums x j)
 have hlen:picks.length=1+x/4%4:=by rw[←hpk,Jj,Lf]
 have hne:picks≠[]:=λe=>by rw[e,J5,Kh] at hlen;cases hlen
 have b1:bd .div zz (.val (iv x)) (.val (.int 4))=O (.val (iv (x/4))):=io _ x 4 (by decide) (nc);have b2:bd .mod zz (.val (iv (x/4))) (.val (.int 4))=O (.val (iv (x/4%4))):=cN _ _ 4 (by decide);have b3:bd .add zz (.val (.int 1)) (.val (iv (x/4%4)))=O (.val (iv (1+x/4%4))):=fP _ 1 _;have lo:=la (Φ:=Fn pg ac k) (it:= .bin .add (.cst (.int 1)) (.bin .mod (.bin .div (.var 6) (.cst (.int 4))) (.cst (.int 4)))) (n:=1+x/4%4) (st:=⟨ag [],[.dict .int aW,.list []]⟩) (bz [eV 0 b1,eV 0 b2,eV 0 b3] (by kernel_rfl)) (LC (KC hm 1) nc) lo;have hqq:∀ps∈picks.map gz,∀p∈ps,p∈Qs:=λps hps p hp=>by
  refine aw λMz kz3=> ?_
  refine ak (Jv.mp hps) λi hi oz8=> ?_
  subst oz8;refine kz3 ?_;exact fW (hk1 i hi) p hp
 refine aw λMz kz4=> ?_
 obtain⟨R,d,u1,u2,_,_,u3⟩:=aQ (R:=[]) ⟨by simp,λ_ h=>nomatch h⟩ (rf [] picks hk1) hqq;have hK:Kd R d (un (picks.map gz)):=dS hqq u2;have hR:Bd 0 R:=⟨by have:=u1.len;simp at this;exact nr this,by
  refine aw λMz kz5=> ?_
  refine cG u1 λX e _ oX=> ?_
  rw[K8] at e;refine kz5 ?_;rw[e];exact oX⟩
 have hkl:=hK.l;have hkq:=hK.q;refine kz4 ?_;generalize hps:un (picks.map gz)=ps at*;have u3:Fn pg ac k 16 [.ref 0,.loc 1] ⟨ag [],[.dict .int aW,.list (pv picks)]⟩=O (.val (iv d),⟨ag R,[.dict .int aW,.list (pv picks)]⟩):=u3 k [.dict .int aW] (nl hk);have p1:=λS=>gN hK hR.le k S (nl hk)
 have c1:=mQ (Φ:=Fn pg ac k) (R:=R) (T:=[.list (pv picks)]) (ρ:=[O sc,O (.val (.lst (pv nums))),O (.ref 0),O (.ref 9),O (.val (.lst cK)),O (.loc 0),O (.val (iv x)),O (.loc 1),g 8,O (.val (iv d)),O (.val (.lst (pv ps))),U,U,U,U,U,U,U,U,g 19,g 20,g 21,g 22,U,U,U,U,U,U,U,U,U]) hkq hkl (λy=>rfl) (by show 19<32;decide) rfl;have c2:=mQ (Φ:=Fn pg ac k) (R:=R) (T:=[.list (pv picks),.list (sv (ps.map bk))]) (ρ:=[O sc,O (.val (.lst (pv nums))),O (.ref 0),O (.ref 9),O (.val (.lst cK)),O (.loc 0),O (.val (iv x)),O (.loc 1),g 8,O (.val (iv d)),O (.val (.lst (pv ps))),O (.loc 2),U,U,U,U,U,U,U,g 19,g 20,g 21,g 22,U,U,U,U,U,U,U,U,U]) hkq hkl (λy=>rfl) (by show 19<32;decide) rfl;have d5:=dr R 5 [.dict .int aW,.list (pv picks),.list (sv (ps.map bk)),.list (sv (ps.map bk))];generalize dP nums 5=y at*;have q1:bd .mod zz (.val (iv y)) (.val (.int 4))=O (.val (iv (y%4))):=cN _ y 4 (by decide);have q2:bd .add zz (.val (.int 2)) (.val (iv (y%4)))=O (.val (iv (2+y%4))):=fP _ 2 _;refine⟨R,x,d,picks,ps,y,λj=>bif Lk 23 j then U else bif Lk 9 j&&Lk j 18 then U else g j,hK,hps.symm,hk1,hne,by rw[hlen];exact LC (KC hm 1) nc,u1,s7 11 _ (dw [eC 0 d0,eS 1 lo,eC 0 u3,eC 0 (p1 [.dict .int aW,.list (pv picks)]),eX 0 c1,eX 0 c2,eC 0 d5,eV 0 q1,eV 0 q2] ?_)⟩;kernel_rfl
noncomputable def kI(t:Nat)(gs:List Nat)(a:AV)(yy:Bool)(g:Nat→Option LV):Nat→Option LV:=up (up (up (up g 13 (.val (iv t))) 26 (.val (.lst (pv gs)))) 27 (.val a)) 28 (.val (.bool yy))
theorem xj{Φ:ek}{e o i:X}{ρ:Ρ}{st st1:St}{z:AV}{x:LV}{n:Nat}{l:List AV}(h1:ev pg ac Φ e .V ρ st=O ([.val z],st1))(h2:ev pg ac Φ o .V ρ st1=O ([x],st1))(h3:ev pg ac Φ i .V ρ st1=O ([.val (iv n)],st1))(h4:cC st1 x=O (.list l))(hn:n<l.length)(hl:l.length<1000000):
  ex pg ac Φ (.sti o i e) ρ st=O (U,ρ,bU st1 x (.list (l.set n z))):=by
 rw[tM,h1,Bg,h2,tv,h3,Bg];show(ky st1 x (iv n) z).map _=_;unfold ky;rw[h4,zW];show(if(0:Int)≤(n:Int)∧(n:Int)<(l.length:Int)∧l.length<aA then O (bU st1 x (.list (l.set n z))) else U:Option St).map _=_;rw[if_pos ⟨Ky _,Nc.mpr hn,kR hl⟩];rfl
noncomputable def Hk:Sx:= %[.asg 29 (.sub (.var 10) (.var 8)),.asg 30 (.comp N 31 [N,N,N,N,N,N,N,N,N,N,N,N,N,N,N,N,N,N,N,N,N,N,N,N,N,N,Z,Z,Z] (.var 31) (.sub (.var 12) (.var 8)) (.cal 84 %[.var 27,.var 28,.var 26,.var 31|_])),.sti (.var 11) (.var 8) (.comp N 31 [N,N,N,N,N,N,N,N,N,N,N,N,N,N,N,N,N,N,N,N,N,N,N,N,N,N,N,N,N,N,Z] (.var 31) (.sub (.var 11) (.var 8)) (.cmp .inn (.var 31) (.var 30))),.sti (.var 12) (.var 8) (.comp N 31 [N,N,N,N,N,N,N,N,N,N,N,N,N,N,N,N,N,N,N,N,N,N,N,N,N,N,Z,Z,Z,Z,Z] (.var 31) (.sub (.var 12) (.var 8)) (.bop N %[.cmp .inn (.var 31) (.var 30),.cal 86 %[.var 29,.var 27,.var 28,.var 26,.var 31|_]|_]))|_]
noncomputable def vU(T:cO)(y:Bool)(gs l:List Nat):List Nat:=l.filter (bI T y gs)
noncomputable def fS(T:cO)(y:Bool)(gs s t:List Nat):List Nat:=s.filter λv=>(vU T y gs t).any (·==v)
noncomputable def fT(T:cO)(y:Bool)(gs:List Nat)(p:Nat)(t:List Nat):List Nat:=t.filter λv=>(vU T y gs t).any (·==v)||fQ T p y gs v
noncomputable def bV:cO→List Nat
 | .eq os _=>aD os
 |_=>[]
theorem wB{ss:List (List Nat)}{i:Nat}{s:List Nat}(h:ss[i]? =O s):(sv ss)[i]? =O (.lst (pv s)):=by unfold sv;rw[JK,h];rfl
theorem CR(ss:List (List Nat))(i:Nat)(s:List Nat):(sv ss).set i (.lst (pv s))=sv (ss.set i s):=by unfold sv;rw[List.map_set]
theorem oP(ss:List (List Nat)):(sv ss).length=ss.length:=by unfold sv;rw[Jj]
section
variable{k:Nat}(hk:10≤k){R:List AV}(hR:Bd 0 R){sc:LV}{nums:List Nat}{x d y:Nat}{ps:List Nat}(hps:ps.length≤32){t0:Nat}{a:AV}{T:cO}(hA:rK R a T){yy:Bool}{gs:List Nat}
 (hg:∀w∈gs,w<16) (hgl:gs.length<90000) (hne:∀os st,T= .eq os st→gs≠[]) {pk tt:CO}
include hk hR hps hA hg hgl hne
theorem AQ{ss ts:List (List Nat)}{i p:Nat}{s t:List Nat}(hi:i<1000)(hp:ps[i]? =O p)(hs:ss[i]? =O s)(ht:ts[i]? =O t)(hs16:s.length≤16)(ht16:t.length≤16)(hv:∀v∈t,v<16)(ls:ss.length≤32)(lt:ts.length≤32)(g:Nat→Option LV):
  ex pg ac (Fn pg ac k) Hk (ρM sc nums x d y ps (up (kI t0 gs a yy g) 8 (.val (iv i)))) ⟨ag R,S5 pk ss ts tt⟩=
   O (U,ρM sc nums x d y ps (kI t0 gs a yy (up (up (up g 8 (.val (iv i))) 29 (.val (iv p))) 30 (.val (.lst (pv (vU T yy gs t)))))),⟨ag R,S5 pk (ss.set i (fS T yy gs s t)) (ts.set i (fT T yy gs p t)) tt⟩):=by
 have s1:aL ac zz (.val (.lst (pv ps))) (.val (iv i))=O (.val (iv p)):=hH _ (nr hi) (by rw[JK,hp];rfl);have sub3:∀ss:List (List Nat),aL ac ⟨ag R,S5 pk ss ts tt⟩ (.loc 3) (.val (iv i))=O (.val (.lst (pv t))):=λss=>by
  show(if i<1000000000 then((sv ts)[i]?).map LV.val else U)=_;rw[if_pos (by exact nr hi),wB ht];rfl
 have sub2:aL ac ⟨ag R,S5 pk ss ts tt⟩ (.loc 2) (.val (iv i))=O (.val (.lst (pv s))):=by
  show(if i<1000000000 then((sv ss)[i]?).map LV.val else U)=_;rw[if_pos (by exact nr hi),wB hs];rfl
 have c1:=jz (n:=10) (tg:=31) (bs:=[N,N,N,N,N,N,N,N,N,N,N,N,N,N,N,N,N,N,N,N,N,N,N,N,N,N,Z,Z,Z]) (it:= .sub (.var 12) (.var 8)) (cond:= .cal 84 %[.var 27,.var 28,.var 26,.var 31|_])
  (ρ:=ρM sc nums x d y ps (up (up (kI t0 gs a yy g) 8 (.val (iv i))) 29 (.val (iv p)))) (R:=R) (S1:=S5 pk ss ts tt) (l:=t) (v:= .lst (pv t)) (b:=Z) (p:=bI T yy gs) rfl (by show 31<32;exact nc) (ny ht16) hR
  (λk _=>by(refine bz [eV 0 (sub3 (ss))] ?_;kernel_rfl))
  (λv hvm R2 hR2 hF k acc hk=>by
   refine aG hF λc hF=> ?_
   have p1:=sN hR2 (hA.ext hF) yy hg hgl (hv v hvm) k (S5 pk ss ts tt++[.list acc]) (nl hk)
   (refine bz [eC 0 p1] ?_;kernel_rfl))
 have c1:=c1 k .V hk;have c2:=jz (n:=10) (tg:=31) (bs:=[N,N,N,N,N,N,N,N,N,N,N,N,N,N,N,N,N,N,N,N,N,N,N,N,N,N,N,N,N,N,Z]) (it:= .sub (.var 11) (.var 8)) (cond:= .cmp .inn (.var 31) (.var 30))
  (ρ:=ρM sc nums x d y ps (up (up (up (kI t0 gs a yy g) 8 (.val (iv i))) 29 (.val (iv p))) 30 (.val (.lst (pv (vU T yy gs t)))))) (R:=R) (S1:=S5 pk ss ts tt) (l:=s) (v:= .lst (pv s)) (b:=Z) (p:=λv=>(vU T yy gs t).any (·==v)) rfl (by show 31<32;exact nc) (ny hs16) hR
  (λk _=>by(refine bz [eV 0 sub2] ?_;kernel_rfl))
  (λv hvm R2 hR2 hF k acc hk=>by
   have n1:=EP ⟨ag R2,S5 pk ss ts tt++[.list acc]⟩ v (vU T yy gs t)
   (refine bz [eB 0 n1] ?_;kernel_rfl))
 have c2:=c2 k .V hk;have c3:=jz (n:=10) (tg:=31) (bs:=[N,N,N,N,N,N,N,N,N,N,N,N,N,N,N,N,N,N,N,N,N,N,N,N,N,N,Z,Z,Z,Z,Z]) (it:= .sub (.var 12) (.var 8)) (cond:= .bop N %[.cmp .inn (.var 31) (.var 30),.cal 86 %[.var 29,.var 27,.var 28,.var 26,.var 31|_]|_])
  (ρ:=ρM sc nums x d y ps (up (up (up (kI t0 gs a yy g) 8 (.val (iv i))) 29 (.val (iv p))) 30 (.val (.lst (pv (vU T yy gs t)))))) (R:=R) (S1:=S5 pk (ss.set i (fS T yy gs s t)) ts tt) (l:=t) (v:= .lst (pv t)) (b:=Z) (p:=λv=>(vU T yy gs t).any (·==v)||fQ T p yy gs v) rfl (by show 31<32;exact nc) (ny ht16) hR
  (λk _=>by(refine bz [eV 0 (sub3 (ss.set i (fS T yy gs s t)))] ?_;kernel_rfl))
  (λv hvm R2 hR2 hF k acc hk=>by
   refine aG hF λc hF=> ?_
   have n1:=EP ⟨ag R2,S5 pk (ss.set i (fS T yy gs s t)) ts tt++[.list acc]⟩ v (vU T yy gs t);have p1:=zN hR2 (p:=p) (hA.ext hF) yy hg hgl hne (hv v hvm) k (S5 pk (ss.set i (fS T yy gs s t)) ts tt++[.list acc]) (nl hk);generalize(vU T yy gs t).any (·==v)=b1 at n1 ⊢;generalize fQ T p yy gs v=b2 at p1 ⊢;cases b1<;>cases b2
   ·(refine bz [eB 0 n1,eC 0 p1] ?_;kernel_rfl)
   ·(refine bz [eB 0 n1,eC 0 p1] ?_;kernel_rfl)
   ·(refine bz [eB 0 n1] ?_;kernel_rfl)
   ·(refine bz [eB 0 n1] ?_;kernel_rfl))
 have c3:=c3 k .V hk;have t2:=xj (Φ:=Fn pg ac k) (i:= .var 8) (o:= .var 11) (n:=i) (l:=sv ss) c2 rfl rfl rfl (by rw[oP];exact(Ji.mp hs).1) (by rw[oP];exact ny ls);have t3:=xj (Φ:=Fn pg ac k) (i:= .var 8) (o:= .var 12) (n:=i) (l:=sv ts) c3 rfl rfl rfl (by rw[oP];exact(Ji.mp ht).1) (by rw[oP];exact ny lt);rw[CR] at t2 t3;exact dw [eV 0 s1,eX 0 (c1.trans (aB _ _)),eS 0 t2,eS 0 t3] (by kernel_rfl)
end
section
variable{k:Nat}(hk:10≤k){R:List AV}(hR:Bd 0 R){sc:LV}{nums:List Nat}{x d y:Nat}{ps:List Nat}(hps:ps.length≤32){t0:Nat}{a:AV}{T:cO}(hA:rK R a T){yy:Bool}{gs:List Nat}
 (hg:∀w∈gs,w<16) (hgl:gs.length<90000) (hne:∀os st,T= .eq os st→gs≠[]) {pk tt:CO} {su sy:Nat→List Nat} (h1:∀p,(su p).length≤16) (h2:∀p,(sy p).length≤16) (h3:∀p,∀v∈sy p,v<16)
include hk hR hps hA hg hgl hne h1 h2 h3
theorem zI(P:List Nat):∀(PA:List Nat) (g:Nat→Option LV),ps=PA++P→∃g',
  bB (bn 8) (ex pg ac (Fn pg ac k) Hk) (λ_=>Z) (pv (OO PA.length P.length)) (ρM sc nums x d y ps (kI t0 gs a yy g))
    ⟨ag R,S5 pk (PA.map (λp=>fS T yy gs (su p) (sy p))++P.map su) (PA.map (λp=>fT T yy gs p (sy p))++P.map sy) tt⟩=
   O (U,ρM sc nums x d y ps (kI t0 gs a yy g'),⟨ag R,S5 pk (ps.map (λp=>fS T yy gs (su p) (sy p))) (ps.map (λp=>fT T yy gs p (sy p))) tt⟩):=by
 induction P with
 |nil=>
  intro PA g e;rw[Je] at e;exact⟨g,by rw[e,Mr,Mr,Je,Je];rfl⟩
 |cons p P ih=>
  intro PA g e;have hl:PA.length+(P.length+1)≤32:=by rw[e,Jk,JH] at hps;exact hps
  refine aG (ih (PA++[p]) (up (up (up g 8 (.val (iv PA.length))) 29 (.val (iv p))) 30 (.val (.lst (pv (vU T yy gs (sy p)))))) (by rw[e,Jy];rfl)) λg' h=>⟨g',?_⟩
  have st:∀(A:List (List Nat)) (s z:List Nat) (B:List (List Nat)),A.length=PA.length→(A++s::B).set PA.length z=(A++[z])++B:=λA s z B hn=>by
   rw[←hn,LU _ _ (JC _)];simp
  have gt:∀(A:List (List Nat)) (s:List Nat) (B:List (List Nat)),A.length=PA.length→(A++s::B)[PA.length]? =O s:=λA s B hn=>by
   rw[←hn,Jx (JC _),Oo];rfl
  have tn:=AQ hk hR hps hA hg hgl hne (sc:=sc) (nums:=nums) (x:=x) (d:=d) (y:=y) (t0:=t0) (yy:=yy) (pk:=pk) (tt:=tt)
   (ss:=PA.map (λp=>fS T yy gs (su p) (sy p))++(p::P).map su) (ts:=PA.map (λp=>fT T yy gs p (sy p))++(p::P).map sy) (i:=PA.length) (p:=p) (s:=su p) (t:=sy p) (by omega)
   (by rw[e,Jx (JC _),Oo];rfl) (gt _ _ _ (Jj _)) (gt _ _ _ (Jj _)) (h1 p) (h2 p) (h3 p) (by simp;exact hl) (by simp;exact hl) g
  rw[JT,JT,st _ _ _ _ (Jj _),st _ _ _ _ (Jj _)] at tn;rw[Ki,Ki,Jk] at h;rw[JH,M5];exact(bS (ok:=λ_=>Z) (by kernel_rfl) tn rfl).trans h
end
noncomputable def TV:cO→Prop
 | .ty w=>w<6
 | .tr=>True
 | .eq os _=>(∀o∈os,o∈Qs)∧Sg os∧os≠[]∧os.length≤32∧os.Nodup
theorem uC{q:Nat}(h:q∈Qs):bk q≠[]:=by
 have:∀q∈Qs,bk q≠[]:=by decide
 exact this q h
theorem Bz{os:List Nat}(h:∀o∈os,o∈Qs)(hn:os≠[]):aD os≠[]:=by
 cases os with
 |nil=>exact absurd rfl hn
 |cons o os=>
  intro e;unfold aD at e;rw[Kq] at e;exact uC (h o (.head _)) (List.append_eq_nil_iff.mp e).1
theorem TV.ne{T:cO}(h:TV T):∀os st,T= .eq os st→bV T≠[]:=λos st e=>by
 subst e;exact Bz h.1 h.2.2.1
theorem TV.lt{T:cO}:∀w∈bV T,w<16:=by
 cases T with
 |ty w=>exactλ_ h=>nomatch h
 |tr=>exactλ_ h=>nomatch h
 |eq os st=>exact As
theorem TV.len{T:cO}(h:TV T):(bV T).length<90000:=by
 cases T with
 |ty w=>exact OJ _
 |tr=>exact OJ _
 |eq os st=>
  have h1:=kF os;have h2:os.length≤32:=h.2.2.2.1;show(aD os).length<90000;exact JA h1 (JA (Mi 16 h2) nc)
theorem zb(i:Nat):gz i≠[]:=by unfold gz;split<;>simp
theorem Gn{pss:List (List Nat)}(hq:∀ps∈pss,∀p∈ps,p∈Qs){ps:List Nat}(h:ps∈pss)(hn:ps≠[]):un pss≠[]:=λe=>by
 cases ps with
 |nil=>exact hn rfl
 |cons p l=>
  have hp:=hq _ h p (.head _);cases hb:bk p with
  |nil=>exact uC hp hb
  |cons v l=>
   obtain⟨r,h1,_⟩:=zh hq (cv.mpr ⟨_,h,.head _⟩) (show v∈bk p by rw[hb];exact .head _);rw[e] at h1;cases h1
theorem De{nums picks:List Nat}(hp:∀i∈picks,i∈em)(hne:picks≠[])(j:Nat)(forced:Bool):TV (q7 nums picks j forced):=by
 unfold q7;simp only;have ho:=rj (nums:=nums) hp hne j;have hE:TV (.eq (yE nums picks j) (!(dP nums (6+2*j)/24%3==2))):=by
  unfold yE;split
  ·have hk2:=ku (Kj (dP nums (7+2*j)/54) (show 27>0 by exact nc));have hqq:∀ps∈[gz (zt nums picks j),gz (iT (dP nums (7+2*j)/54%27))],∀p∈ps,p∈Qs:=λps hps p hpp=>by
    rcases Jh.mp hps with rfl|hps
    ·exact fW ho p hpp
    ·rw[Ja.mp hps] at hpp;exact fW hk2 p hpp
   exact⟨dO hqq,Sg.un hqq,Gn hqq (.head _) (zb _),dp _,jF _⟩
  ·exact⟨fW ho,yw ho,zb _,by unfold gz;split<;>simp,by unfold gz;split<;>simp⟩
 by_cases h0:(if forced=Z then 2 else dP nums (6+2*j)%3)=0
 ·rw[if_pos h0];exact Kj _ (nc)
 ·rw[if_neg h0];by_cases h1:(if forced=Z then 2 else dP nums (6+2*j)%3)=1
  ·rw[if_pos h1];exact trivial
  ·rw[if_neg h1];exact hE
theorem Fm:(Qn.all λq=>Qn.all λo=>[Z,N].all λst=> !(bu q&&bu o)||(pm q o st==mt q o st))=Z:=by decide+kernel
theorem C3:([4,5].all λo=>eg 1 (.eq [] N) Z (bk o) [4]&&eg 1 (.eq [] N) Z (bk o) [5])=Z:=by decide+kernel
theorem Ck:(Qn.all λo=>(ew (ah o)||eg 1 (.eq [] N) Z (bk o) [1])&&(!(ah o==7)||(eg 1 (.eq [] Z) Z (bk o) [1]&&eg 1 (.eq [] Z) Z (bk o) [10]&&(o==11||(bk o).all λv=>(bk 10).contains v)))&&eg 1 (.eq [] Z) Z (bk o) [o])=Z:=by decide+kernel
theorem Df:(Qn.all λq=>[4,5].all λo=>[Z,N].all λst=>(!(ew (ah q)&&(pm q o st|| !st))||eg q (.eq [] st) Z (bk o) [q])&&((bk q).all λv=>(bk o).all λw=>v==10|| !nb st v w||(ew (ah q)&&(if st then pm q o Z else pm q 4 N))))=Z:=by decide+kernel
theorem Fk:(Qs.all λq=>[4,5].all λo=>[N].all λst=>eg q (.eq [] st) N (bk o) (one (nn q))&&((bk q).all λv=>lk v==0||(one (nn q)).any λr=>(bk r).contains v))=Z:=by decide+kernel
theorem HA:((1::Qn).all λq=>Qn.all λo=>[Z,N].all λst=> !(st|| !ew (ah o))||(if AV.eqv (eJ o) (.tup []) then eg q (.eq [] st) N (bk o) [q] else(!keep o q||(q==1&&ew (ah o))||eg q (.eq [] st) N (bk o) [q])&&((bk q).all λv=> !bI (.eq [] st) N (bk o) v||keep o q)))=Z:=by decide+kernel
theorem Fp:([4,5].all λo=>eg 1 (.eq [] Z) N (bk o) [11]&&eg 1 (.eq [] Z) N (bk o) [if o=4 then 5 else 4]&&vF 1 (.eq [] Z) N (bk o) [11,if o=4 then 5 else 4])=Z:=by decide+kernel
theorem yb{o:Nat}(h:o∈Qs)(n:ew (ah o)=Z):o∈[4,5]:=by
 have:∀o∈Qs,ew (ah o)=Z→o∈[4,5]:=by decide+kernel
 exact this o h n
noncomputable def gP(ps:List Nat)(T:cO)(y:Bool)(gs rs:List Nat):Prop:=l3 ps T y gs rs∧we ps T y gs rs∧Sg rs
section
variable{ps os:List Nat}{st:Bool}(hq:∀q∈ps,q∈Qs)(hs:Sg ps)(ho:∀o∈os,o∈Qs)(hos:Sg os)(hne:os≠[])
theorem kY{y:Bool}{T:cO}{gs:List Nat}(h:∀q∈ps,l3 [q] T y gs [q]):l3 ps T y gs ps:=λr hr v hv=>by
 obtain⟨q,a,b,c⟩:=h r hr r (.head _) v hv;rw[Ja.mp a] at b c;exact⟨r,hr,b,c⟩
theorem kN{y:Bool}{T:cO}{gs:List Nat}:we ps T y gs ps:=λ_ hv _=>hv
theorem HP{p:Nat}(hp:p∈Qs)(h:v7 p 0=Z):p=0:=by
 have:∀p∈Qs,v7 p 0=Z→p=0:=by decide+kernel
 exact this p hp h
include hq hs hos in
theorem q9{y:Bool}(h:ps=[0]∨os=[0]∨os=[1]):gP ps (.eq os st) y (aD os) ps:=by
 refine⟨kY λq hqm r hr v hv=> ?_,kN,hs⟩;rw[Ja.mp hr] at hv ⊢;refine⟨q,.head _,hv,λp hp hpq=>⟨?_,hpq⟩⟩;rcases h with rfl|h
 ·rw[Ja.mp hqm] at hpq;rw[HP hp hpq];unfold rJ fQ;simp
 ·have h01:∃o∈[0,1],o∈os:=by
   rcases h with rfl|rfl
   ·exact⟨0,by decide,.head _⟩
   ·exact⟨1,by decide,.head _⟩
  obtain⟨o,h1,h2⟩:=h01;have t:=Jb.mp (Jb.mp (Jb.mp (Jb.mp (Jb.mp FY p hp) o h1) st (bb st)) y (bb y)) v (J6.mpr (mP hv));exact qB (iw h2).1 (iw h2).2 t
include ho hos in
theorem uy(h0:os≠[0])(h1:os≠[1]):∀o∈os,o∈Qn:=λo h=>ul (ho o h) (jt ho hos h0 h1 o h)
include ho hos hne in
theorem zC(h0:os≠[0])(h1:os≠[1]):gP [1] (.eq os st) Z (aD os) (fK os st):=by
 have hn:=uy ho hos h0 h1;obtain⟨o0,ho0⟩:=J4 _ hne;have ht:=λo h=>Jb.mp Ck o (hn o h)
 unfold fK;by_cases a:(!st&&fj os)=Z
 ·rw[if_pos a];rw[I8] at a;have hst:st=N:=by simpa using a.1
  subst hst;have hnl:∀o∈os,o∈[4,5]:=λo h=>by
   have:=a.2;unfold fj at this;rw[I8] at this;exact yb (ho o h) (Jb.mp this.2 o h)
  have hqq:∀ps∈[[4],[5]],∀p∈ps,p∈Qs:=by decide
  have t:=Jb.mp C3 o0 (hnl o0 ho0);rw[I8] at t;refine⟨gM hqq λrs hrs=> ?_,λv hv hp=> ?_,Sg.un hqq⟩
  ·rcases Jh.mp hrs with rfl|hrs
   ·exact cy ho0 t.1
   ·rw[Ja.mp hrs];exact cy ho0 t.2
  ·obtain⟨_,o,hom,w,hw,hnb⟩:=iF (q:=1) hp;have key:∀o∈[4,5],∀w∈bk o,∀v∈JE 16,nb N v w=Z→v∈bk 4∨v∈bk 5:=by decide+kernel
   have hv16:v<16:=by
    obtain⟨q,_,h⟩:=ar.mp hv;exact mP h
   rcases key o (hnl o hom) w hw v (J6.mpr hv16) hnb with h|h
   ·exact cS hqq (.head _) (ar.mpr ⟨4,.head _,h⟩)
   ·exact cS hqq (.tail _ (.head _)) (ar.mpr ⟨5,.head _,h⟩)
 ·rw[if_neg a];by_cases b:st=N
  ·rw[if_pos b];subst b;have hnn:∃o∈os,ew (ah o)=N:=by
    rw[LR,K9,JN] at a;unfold fj at a;have he:os.isEmpty=N:=by
     cases os with
     |nil=>exact absurd rfl hne
     |cons _ _=>rfl
    rw[he,LR,K9,ML] at a;obtain⟨o,h1,h2⟩:=a;exact⟨o,h1,by simpa using h2⟩
   obtain⟨o,hom,hf⟩:=hnn;have t:=ht o hom;rw[hf] at t;simp only[I8,J7] at t;exact⟨cy hom t.1.1,λv hv _=>hv,Sg.one 1⟩
  ·rw[if_neg b];have hst:st=Z:=by simpa using b
   subst hst;by_cases c:os.any (λo=>ah o==7)=Z
   ·rw[if_pos c];obtain⟨o,hom,hf⟩:=J2.mp c;have t:=ht o hom;rw[hf] at t;simp only[I8,Kp,J7] at t;by_cases e:(os.all (λo=>ah o==7)&& !os.any (·==11))=Z
    ·rw[if_pos e];rw[I8] at e;refine⟨cy hom t.1.2.1.2,λv _ hp=> ?_,Sg.one 10⟩;obtain⟨_,o2,hom2,w,hw,hnb⟩:=iF (q:=1) hp;have hf2:=Jb.mp e.1 o2 hom2;have t2:=ht o2 hom2;rw[hf2] at t2;simp only[I8,Kp,J7,JL] at t2;have hwv:w=v:=by simpa[nb] using hnb
     subst hwv;rcases t2.1.2.2 with h11|h
     ·have:=e.2;rw[JU,MK] at this;exact absurd h11 (this o2 hom2)
     ·exact ar.mpr ⟨10,.head _,by simpa using Jb.mp h w hw⟩
    ·rw[if_neg e];exact⟨cy hom t.1.2.1.1,λv hv _=>hv,Sg.one 1⟩
   ·rw[if_neg c];refine⟨λr hr v hv=> ?_,λv _ hp=> ?_,hos⟩
    ·have t:=ht r hr;simp only[I8] at t;exact cy hr t.2 r (.head _) v hv
    ·obtain⟨_,o,hom,w,hw,hnb⟩:=iF (q:=1) hp;have hwv:w=v:=by simpa[nb] using hnb
     subst hwv;exact ar.mpr ⟨o,hom,hw⟩
end
section
variable{ps os:List Nat}{st:Bool}(hq:∀q∈ps,q∈Qs)(hs:Sg ps)(ho:∀o∈os,o∈Qs)(hos:Sg os)(hne:os≠[])
theorem iN{T:cO}{y:Bool}{gs:List Nat}{f:Nat→List Nat}(hf:∀q∈ps,∀p∈f q,p∈Qs)(h1:∀q∈ps,l3 [q] T y gs (f q))(h2:∀q∈ps,we [q] T y gs (f q)):gP ps T y gs (un (ps.map f)):=
 ⟨km hf h1,kr hf h2,Sg.un (bp hf)⟩
theorem A5{b:Bool}{q:Nat}(h:q∈Qs):∀p∈(if b=Z then[q] else[]),p∈Qs:=λp hp=>by
 split at hp
 ·rw[Ja.mp hp];exact h
 ·cases hp
theorem wJ{b:Bool}{q:Nat}{T:cO}{y:Bool}{gs:List Nat}(h:b=Z→l3 [q] T y gs [q]):l3 [q] T y gs (if b=Z then[q] else[]):=by
 by_cases hb:b=Z
 ·rw[if_pos hb];exact h hb
 ·rw[if_neg hb];exactλr hr=>nomatch hr
theorem yI{b:Bool}{q:Nat}{T:cO}{y:Bool}{gs:List Nat}(h:∀v∈bk q,bI T y gs v=Z→b=Z):we [q] T y gs (if b=Z then[q] else[]):=λv hv hp=>by
 refine ak (ar.mp hv) λq' h1 h2=> ?_
 rw[Ja.mp h1] at h2;rw[if_pos (h v h2 hp)];exact ar.mpr ⟨q,.head _,h2⟩
theorem tP{os:List Nat}(ho:∀o∈os,o∈Qs)(h:fj os=Z):∀o∈os,o∈[4,5]:=λo hom=>by
 unfold fj at h;rw[I8] at h;exact yb (ho o hom) (Jb.mp h.2 o hom)
include hq hs ho hne in
theorem zR(h0:ps≠[0])(h1:ps≠[1])(hn:fj os=Z):gP ps (.eq os st) Z (aD os) (Eo ps os st):=by
 have h45:=tP ho hn;refine aG (J4 _ hne) λo0 ho0=> ?_
 have hqn:∀q∈ps,q∈Qn:=λq h=>ul (hq q h) (jt hq hs h0 h1 q h)
 unfold Eo;refine iN (λq h=>A5 (hq q h)) (λq h=>wJ λhb=> ?_) (λq h=>yI λv hv hp=> ?_)
 ·rw[I8] at hb;cases st with
  |true=>
   rw[if_pos rfl,J2] at hb;obtain⟨hnul,o,hom,hpm⟩:=hb;have t:=pP Df (hqn q h) (h45 o hom) Z;rw[hnul,hpm] at t;simp only[I8,PY,Kp,J7,JQ] at t;exact cy hom t.1
  |false=>
   have t:=pP Df (hqn q h) (h45 o0 ho0) N;rw[hb.1] at t;simp only[I8,LR,LS,Kp,J7] at t;exact cy ho0 t.1
 ·obtain⟨n10,o,hom,w,hw,hnb⟩:=iF (q:=q) hp;have t:=pP Df (hqn q h) (h45 o hom) st;rw[I8] at t;have t2:=Jb.mp (Jb.mp t.2 v hv) w hw;have b10:(v==10)=N:=by simp[n10]
  rw[b10,hnb] at t2;simp only[Kp,JQ,J7,I8] at t2;rw[I8];refine⟨t2.1,?_⟩;cases st with
  |true=>
   rw[if_pos rfl];have key:∀q∈Qn,∀o∈[4,5],∀v∈bk q,∀w∈bk o,nb Z v w=Z→pm q o Z=Z:=by decide+kernel
   exact J2.mpr ⟨o,hom,key q (hqn q h) o (h45 o hom) v hv w hw hnb⟩
  |false=>
   rw[if_neg (by simp)] at t2 ⊢;have h4:(4:Nat)∈un [[4],[5]]:=by decide+kernel
   exact J2.mpr ⟨4,h4,t2.2⟩
include hq hs ho hos hne in
theorem wT:gP ps (.eq os st) Z (aD os) (v9 ps os Z st):=by
 have e1:(!Z&&st&&(QQ (os=[4])||decide (os=[5])))=N:=rfl;unfold v9;rw[e1,if_neg (by simp)];by_cases hA:ps=[0]∨os=[0]∨os=[1]
 ·have e2:k6 ps os Z st=ps:=by unfold k6;rw[if_pos hA]
  rw[e2,if_pos hA];split<;>exact q9 hq hs hos hA
 ·have hA':=hA;simp only[not_or] at hA';refine cI hA' λn0 o0 o1=> ?_
  have hn:=uy ho hos o0 o1;have e2:k6 ps os Z st=qk ps os st:=by unfold k6;rw[if_neg hA,if_pos rfl]
  rw[e2,if_neg hA];unfold qk;by_cases hB:ps=[1]
  ·have d1:QQ (ps=[1])=Z:=decide_eq_true hB;rw[d1,LS,PY,if_pos rfl,if_pos hB];rw[hB];exact zC ho hos hne o0 o1
  ·have hqn:∀q∈ps,q∈Qn:=λq h=>ul (hq q h) (jt hq hs n0 hB q h)
   rw[if_neg hB];by_cases hC:fj os=Z
   ·rw[hC,LS,if_pos rfl,if_pos rfl];exact zR hq hs ho hne n0 hB hC
   ·have hE:gP ps (.eq os st) Z (aD os) (un (ps.map λq=>ms q os st)):=
     iN (λq h=>tY (hq q h) ho st) (λq h=>Ba (hqn q h) hn) (λq h=>Bw (hqn q h) hn)
    rw[if_neg hC];split
    ·rename_i hp;have d1:QQ (ps=[1])=N:=decide_eq_false hB;rw[JN] at hC;rw[d1,hC] at hp;simp only[Kp,JQ,I8] at hp;have e3:(ps.map λq=>lZ q os st)=ps.map λq=>ms q os st:=KU λq h=>by
      have hpq:=Jb.mp hp.1 q h;have e4:os.filter (pm q · st)=os.filter (mt q · st):=J3 λo hom=>by
       have t:=pP Fm (hqn q h) (hn o hom) st;rw[hpq,Jb.mp hp.2 o hom] at t;simpa using t
      have e5:(ah q==7)=N:=by
       have:∀q∈Qn,bu q=Z→(ah q==7)=N:=by decide+kernel
       exact this q (hqn q h) hpq
      unfold lZ ms;rw[e4,e5,LP,if_neg (c:=N=Z) (by simp)]
     rw[e3];exact hE
    ·exact hE
include hq in
theorem vg{T:cO}{y:Bool}{gs rs:List Nat}(hr:∀r∈rs,r∈Qs)(h:gP ps T y gs rs):gP ps T y gs (un (rs.map λq=>[q])):=by
 have hqq:∀ps'∈rs.map (λq=>[q]),∀p∈ps',p∈Qs:=bp λq h p hp=>by rw[Ja.mp hp];exact hr q h
 refine⟨gM hqq λrs' hrs=> ?_,λv hv hp=> ?_,Sg.un hqq⟩
 ·refine ak (Jv.mp hrs) λr h1 oz3=> ?_
  subst oz3;intro r' hr' v hv;rw[Ja.mp hr'] at hv ⊢;exact h.1 r h1 v hv
 ·refine ak (ar.mp (h.2.1 v hv hp)) λr h1 h2=> ?_
  exact cS hqq (Jv.mpr ⟨r,h1,rfl⟩) (ar.mpr ⟨r,.head _,h2⟩)
theorem BM(o:Nat):aD [o]=bk o:=by unfold aD;simp
include hq hs in
theorem AK{o:Nat}(h0:ps≠[0])(hon:o∈Qn)(hst:st=Z∨ew (ah o)=N):gP ps (.eq [o] st) N (aD [o]) (AM ps o):=by
 have hq1:∀q∈ps,q∈1::Qn:=λq h=>by
  by_cases f:ah q=0
  ·rcases Cp (hq q h) f with rfl|rfl
   ·exact absurd (hs.mem (.inl rfl) h) h0
   ·exact .head _
  ·exact .tail _ (ul (hq q h) f)
 have tt:=λq h=>pP HA (hq1 q h) hon st
 have hb:(st|| !ew (ah o))=Z:=by rcases hst with rfl|h<;>simp[*]
 simp only[hb,Kp,J7] at tt;unfold AM;by_cases hA:AV.eqv (eJ o) (.tup [])=Z
 ·rw[if_pos hA];refine⟨kY λq h=> ?_,kN,hs⟩;have t:=tt q h;rw[if_pos hA] at t;exact cy (.head _) t
 ·rw[if_neg hA];simp only[if_neg hA] at tt;by_cases hB:ps=[1]∧ew (ah o)=Z
  ·rw[if_pos hB];refine aO hB λoz4 hn=> ?_
   subst oz4;have hst':st=Z:=by rcases hst with h|h<;>simp_all
   subst hst';have ho45:=yb (pN hon) hn;have t:=Jb.mp Fp o ho45;simp only[I8] at t;have hqq:∀ps∈[[11],[if o=4 then 5 else 4]],∀p∈ps,p∈Qs:=by split<;>decide
   refine⟨gM hqq λrs hrs=> ?_,λv hv hp=> ?_,Sg.un hqq⟩
   ·rcases Jh.mp hrs with rfl|hrs
    ·exact cy (.head _) t.1.1
    ·rw[Ja.mp hrs];exact cy (.head _) t.1.2
   ·have hp':bI (.eq [] Z) N (bk o) v=Z:=by rw[BM] at hp;exact hp
    refine ak (ar.mp (iC t.2 v hv hp')) λr h1 h2=> ?_
    rcases Jh.mp h1 with rfl|h1
    ·exact cS hqq (.head _) (ar.mpr ⟨_,.head _,h2⟩)
    ·exact cS hqq (.tail _ (.head _)) (ar.mpr ⟨_,h1,h2⟩)
  ·rw[if_neg hB];refine iN (λq h=>A5 (hq q h)) (λq h=>wJ λhk=> ?_) (λq h=>yI λv hv hp=> ?_)
   ·have t:=tt q h;rw[I8,hk,Kp,J7,JL] at t;rcases t.1 with t|t
    ·rw[I8] at t;have e:q=1:=by simpa using t.1
     subst e;exact absurd ⟨hs.mem (.inr rfl) h,t.2⟩ hB
    ·exact cy (.head _) t
   ·have t:=tt q h;rw[I8] at t;have t2:=Jb.mp t.2 v hv;rw[BM] at hp;have hp':bI (.eq [] st) N (bk o) v=Z:=hp;rw[hp',Kp,J7] at t2;exact t2
end
theorem zs{q:Nat}(h:q∈Qs):0<(bk q).length:=Kz λe=>uC h (Jo e)
theorem DU{q:Nat}(h:q∈Qs):∀p∈one (nn q),p∈Qs:=by
 have:∀q∈Qs,∀p∈one (nn q),p∈Qs:=by decide+kernel
 exact this q h
section
variable{ps os:List Nat}{st:Bool}(hq:∀q∈ps,q∈Qs)(hs:Sg ps)(ho:∀o∈os,o∈Qs)(hos:Sg os)(hne:os≠[])(hnd:os.Nodup)
include hq ho hne in
theorem zH(hn:fj os=Z):gP ps (.eq os N) N (aD os) (un (ps.map λq=>one (nn q))):=by
 have h45:=tP ho hn;refine aG (J4 _ hne) λo0 ho0=> ?_
 refine iN (λq h=>DU (hq q h)) (λq h=> ?_) (λq h v hv hp=> ?_)
 ·have t:=Jb.mp (Jb.mp (Jb.mp Fk q (hq q h)) o0 (h45 o0 ho0)) N (.head _);rw[I8] at t;exact cy ho0 t.1
 ·have t:=Jb.mp (Jb.mp (Jb.mp Fk q (hq q h)) o0 (h45 o0 ho0)) N (.head _);rw[I8] at t;refine ak (ar.mp hv) λq' h1 hv=> ?_
  rw[Ja.mp h1] at hv;have t2:=Jb.mp t.2 v hv;have hlk:(lk v==0)=N:=by
   rcases pC.mp hp with⟨rfl,_⟩|⟨_,w,hw,hnb⟩
   ·rfl
   ·refine ak (ar.mp hw) λo hom hwo=> ?_
    have key:∀o∈[4,5],∀w∈bk o,lk w=0:=by decide
    have:=key o (h45 o hom) w hwo;have hnb:(lk w==lk v)=N:=hnb;rw[this,L8] at hnb;exact hnb
  rw[hlk,J7,J2] at t2;refine ak t2 λr h2 h3=> ?_
  exact ar.mpr ⟨r,h2,by simpa using h3⟩
include hq hs ho hos hnd hne in
theorem vk(h0:os≠[0])(h1:os≠[1])(hm:2≤os.length)(hst:st=Z∨fj os=N):gP ps (.eq os st) N (aD os) ps:=by
 refine⟨kY λq hqm r hr v hv=> ?_,kN,hs⟩;rw[Ja.mp hr] at hv ⊢;refine⟨q,.head _,hv,λp hp hpq=>⟨?_,hpq⟩⟩;have hlen:1<(aD os).length:=by
  match os,hm,ho with
  |a::b::l,_,ho=>
   have e:aD (a::b::l)=bk a++(bk b++aD l):=by unfold aD;rw[Kq,Kq]
   rw[e,Jk,Jk];have:=zs (ho a (.head _));have:=zs (ho b (.tail _ (.head _)));omega
 unfold rJ;by_cases hmx:mx (aD os)<2
 ·
  have h45:∀o∈os,o∈[4,5]:=λo hom=>by
   have key:∀o∈Qs,(∀w∈bk o,w<2)→o∈[4,5]:=by decide+kernel
   refine key o (ho o hom) λw hw=> ?_
   have hge:=(uJ (λe=>by rw[e] at hlen;simp at hlen)).2 w (ar.mpr ⟨o,hom,hw⟩);exact JA hge hmx
  have hnl:fj os=Z:=by
   unfold fj;rw[I8];constructor
   ·cases os with
    |nil=>exact absurd rfl hne
    |cons _ _=>rfl
   ·refine Jb.mpr λo hom=> ?_
    have key:∀o∈[4,5],ew (ah o)=Z:=by decide
    exact key o (h45 o hom)
  have hst':st=Z:=by
   rcases hst with h|h
   ·exact h
   ·rw[hnl] at h;cases h
  subst hst';have hb:∀v,v≠10→∃w∈aD os,nb Z v w=N:=λv _=>by
   have h4:0∈aD os∧1∈aD os:=by
    have hmem:4∈os∧5∈os:=by
     match os,hm,h45,hnd with
     |a::b::l,_,h45,hnd=>
      have ha:=h45 a (.head _);have hb:=h45 b (.tail _ (.head _));simp only[Jh,JO,or_false] at ha hb;have hab:a≠b:=λe=>by
       rw[e] at hnd;exact(Lz.mp hnd).1 (.head _)
      rcases ha with rfl|rfl<;>rcases hb with rfl|rfl
      ·exact absurd rfl hab
      ·exact⟨.head _,.tail _ (.head _)⟩
      ·exact⟨.tail _ (.head _),.head _⟩
      ·exact absurd rfl hab
    exact⟨ar.mpr ⟨4,hmem.1,by decide⟩,ar.mpr ⟨5,hmem.2,by decide⟩⟩
   by_cases hv0:v=0
   ·exact⟨1,h4.2,by rw[hv0];rfl⟩
   ·refine⟨0,h4.1,?_⟩;show(0==v)=N;simp;exact LM hv0
  have hps:bI (.eq os Z) N (aD os) v=Z:=by
   rw[pC];by_cases h10:v=10
   ·exact .inl ⟨h10,λe=>by rw[e] at hlen;simp at hlen⟩
   ·exact .inr ⟨h10,hb v h10⟩
  rw[hps];rfl
 ·have hl:fQ (.eq os st) p N (aD os) v=Z:=by
   unfold fQ;by_cases p0:(p==0)=Z
   ·rw[if_pos p0]
   ·rw[if_neg p0];show gB p st N (aD os) v=Z;unfold gB;split
    ·rfl
    ·have:QQ (1<(aD os).length)=Z:=decide_eq_true hlen;rw[this];simp[hmx]
  rw[hl,LS]
include hq hs ho hos hne hnd in
theorem xh(h0:ps≠[0])(o0:os≠[0])(o1:os≠[1])(hst:st=Z∨fj os=N):gP ps (.eq os st) N (aD os) (Fe ps os):=by
 have hn:=uy ho hos o0 o1
 match os,ho,hos,hne,hnd,o0,o1,hst,hn with
 |[o],ho,hos,hne,hnd,o0,o1,hst,hn=>
  refine AK hq hs h0 (hn o (.head _)) (hst.imp id λh=> ?_);have:fj [o]=ew (ah o):=by unfold fj;simp
  rw[←this];exact h
 |[],_,_,hne,_,_,_,_,_=>exact absurd rfl hne
 |a::b::l,ho,hos,hne,hnd,o0,o1,hst,hn=>exact vk hq hs ho hos hne hnd o0 o1 (by simp) hst
include hq hs ho hos hne hnd in
theorem kT(hst:st=Z∨fj os=N∨True):gP ps (.eq os st) N (aD os) (k6 ps os N st):=by
 unfold k6;by_cases hA:ps=[0]∨os=[0]∨os=[1]
 ·rw[if_pos hA];exact q9 hq hs hos hA
 ·rw[if_neg hA,if_neg (by simp)];simp only[not_or] at hA;refine cI hA λn0 o0 o1=> ?_
  by_cases hB:(!st&&fj os)=Z
  ·rw[if_pos hB];rw[I8] at hB;have h1:st=N:=by simpa using hB.1
   subst h1;exact zH hq ho hne hB.2
  ·rw[if_neg hB];refine xh hq hs ho hos hne hnd n0 o0 o1 ?_;cases st with
   |true=>exact .inl rfl
   |false=>
    refine .inr ?_;rw[LR,K9,JN] at hB;exact hB
theorem Gl(hq:∀q∈ps,q∈Qs):∀os,∀r∈Fe ps os,r∈Qs:=λos r hr=>by
 match os,hr with
 |[],hr=>exact hq r hr
 |a::b::l,hr=>exact hq r hr
 |[o],hr=>
  change r∈AM ps o at hr;unfold AM at hr;split at hr
  ·exact hq r hr
  ·split at hr
   ·exact dO (by split<;>decide) r hr
   ·exact dO (bp λq h=>A5 (hq q h)) r hr
theorem oA(hq:∀q∈ps,q∈Qs):∀r∈k6 ps os N st,r∈Qs:=λr hr=>by
 unfold k6 at hr;split at hr
 ·exact hq r hr
 ·rw[if_neg (by simp)] at hr;split at hr
  ·exact dO (bp λq h=>DU (hq q h)) r hr
  ·exact Gl hq os r hr
include hq hs ho hos hne hnd in
theorem AO:gP ps (.eq os st) N (aD os) (v9 ps os N st):=by
 unfold v9;split
 ·rename_i h;rw[I8,I8] at h;have h1:st=Z:=h.1.2;subst h1;unfold xq;exact vg hq (oA hq) (kT hq hs ho hos hne hnd (.inl rfl))
 ·rw[show((ps.all bu&&os.all bu)|| !N||decide (ps=[1])||fj os)=Z by simp,if_pos rfl];exact kT hq hs ho hos hne hnd (.inr (.inr trivial))
end
theorem qH{ps:List Nat}(hq:∀q∈ps,q∈Qs)(hs:Sg ps){T:cO}(hT:TV T)(y:Bool):gP ps T y (bV T) (gC ps T y):=by
 match T,hT with
 | .ty w,hw=>exact AA hq hs hw y
 | .tr,_=>exact Af hq y
 | .eq os st,⟨ho,hos,hne,_,hnd⟩=>
  cases y with
  |true=>exact wT hq hs ho hos hne
  |false=>exact AO hq hs ho hos hne hnd
noncomputable def bM(L:List (AV×cO×Bool)):List AV:=L.map λe=> .tup [e.1,.bool e.2.2]
theorem xg{L:List (AV×cO×Bool)}{j:Nat}{e:AV×cO×Bool}(h:L[j]? =O e):(bM L)[j]? =O (.tup [e.1,.bool e.2.2]):=by unfold bM;rw[JK,h];rfl
section
variable{R:List AV}{pk:CO}{ss ts:List (List Nat)}
theorem CQ{l:List AV}{j:Nat}{z:AV}(hj:j<100000)(h:l[j]? =O z):aL ac ⟨ag R,S5 pk ss ts (.list l)⟩ (.loc 4) (.val (iv j))=O (.val z):=by
 show(if j<1000000000 then(l[j]?).map LV.val else U)=_;rw[if_pos (by exact nr hj),h];rfl
theorem FM{l:List AV}{z:AV}(h:l.length<10000):iu ⟨ag R,S5 pk ss ts (.list l)⟩ (.loc 4) (.val z)=O ⟨ag R,S5 pk ss ts (.list (l++[z]))⟩:=by
 show(if l.length<aA then O _ else U)=_;rw[if_pos (by unfold aA;exact nr h)];rfl
end
noncomputable def Gj:Sx:=(.ife (.bop Z %[.cmp .gt (.var 17) (.cst (.int 0)),.nt (.var 23),.cmp .eq (.bin .mod (.bin .div (.var 24) (.cst (.int 6))) (.cst (.int 4))) (.cst (.int 0))|_]) %[.exp (.app (.var 16) (.tup %[.sub (.sub (.var 16) (.cst (.int 0))) (.cst (.int 0)),.nt (.sub (.sub (.var 16) (.cst (.int 0))) (.cst (.int 1)))|_]))|_] %[.exp (.app (.var 16) (.tup %[.cal 88 %[.var 2,.var 1,.var 4,.var 7,.var 17,.var 23|_],.var 25|_]))|_])
noncomputable def kQ(j:Nat)(forced:Bool)(A:Nat)(side:Bool)(g:Nat→Option LV):Nat→Option LV:=up (up (up (up g 17 (.val (iv j))) 23 (.val (.bool forced))) 24 (.val (iv A))) 25 (.val (.bool side))
section
variable{k:Nat}(hk:10≤k){R:List AV}{sc:LV}{nums:List Nat}(hn:nums≠[])(hnl:nums.length<1000){x d y:Nat}{ps:List Nat}{g:Nat→Option LV}{picks:List Nat}(hpk:∀i∈picks,i∈em)(hpne:picks≠[])(hpl:picks.length<1000){ss ts:List (List Nat)}{L:List (AV×cO×Bool)}
include hk hn hnl hpk hpne hpl
theorem xu(hR:Bd 1 R)(hL:∀e∈L,rK R e.1 e.2.1∧TV e.2.1){j:Nat}(hj:L.length=j)(hj5:j<100)(forced side:Bool)(A:Nat):
  ∃R1 a T yy,bQ 1 R R1∧rK R1 a T∧TV T∧ex pg ac (Fn pg ac k) Gj (ρM sc nums x d y ps (kQ j forced A side g)) ⟨ag R,S5 (.list (pv picks)) ss ts (.list (bM L))⟩=
   O (U,ρM sc nums x d y ps (kQ j forced A side g),⟨ag R1,S5 (.list (pv picks)) ss ts (.list (bM (L++[(a,T,yy)])))⟩):=by
 have g0:∀s,af ac .gt s (.val (iv j)) (.val (.int 0))=O (QQ (0<j)):=λs=>fc s j 0
 have d6:∀s,bd .div s (.val (iv A)) (.val (.int 6))=O (.val (iv (A/6))):=λs=>io s A 6 (by decide) (nc)
 have m4:∀s,bd .mod s (.val (iv (A/6))) (.val (.int 4))=O (.val (iv (A/6%4))):=λs=>cN s _ 4 (by decide)
 have e0:∀s,af ac .eq s (.val (iv (A/6%4))) (.val (.int 0))=O (A/6%4==0):=js 0
 have tl:(bM L).length<10000:=by unfold bM;rw[Jj,hj];exact nr hj5
 have ta:∀e,bM L++[.tup [e.1,.bool e.2.2]]=bM (L++[e]):=λe=>by unfold bM;rw[Ki];rfl
 by_cases hc:(QQ (0<j)&&(!forced&&(A/6%4==0)))=Z
 ·simp only[I8] at hc;refine cI hc λc1 c2 c3=> ?_
  have c2:forced=N:=by simpa using c2
  subst c2;rw[c1] at g0;rw[c3] at e0;cases L with
  |nil=>simp at hj;subst hj;simp at c1
  |cons e0' L=>
   obtain⟨a0,T0,y0⟩:=e0';refine aO (hL _ (.head _)) λhA hT=> ?_
   refine⟨R,a0,T0,!y0,.rfl' _,hA,hT,?_⟩;have s0:aL ac ⟨ag R,S5 (.list (pv picks)) ss ts (.list (bM ((a0,T0,y0)::L)))⟩ (.loc 4) (.val (.int 0))=O (.val (.tup [a0,.bool y0])):=CQ (j:=0) (nc) rfl;have ap:=FM (R:=R) (pk:= .list (pv picks)) (ss:=ss) (ts:=ts) (z:= .tup [a0,.bool !y0]) tl;rw[show bM ((a0,T0,y0)::L)++[.tup [a0,.bool !y0]]=_ from ta (a0,T0,!y0)] at ap
   (refine dw [eB 0 (g0 zz),eV 1 (d6 zz),eV 0 (m4 zz),eB 0 (e0 zz),eV 0 s0,eV 1 s0,eT 3 ap] ?_;kernel_rfl)
 ·refine aX (xz hR hn hnl hpk hpne hpl j forced) λR1 a u1 u2 u3=> ?_
  have u3:Fn pg ac k 88 [.ref 0,.val (.lst (pv nums)),.val (.lst cK),.loc 1,.val (iv j),.val (.bool forced)] ⟨ag R,S5 (.list (pv picks)) ss ts (.list (bM L))⟩=O (.val a,⟨ag R1,S5 (.list (pv picks)) ss ts (.list (bM L))⟩):=u3 k _ _ (nl hk);refine⟨R1,a,_,side,u1,u2,De hpk hpne j forced,?_⟩;have ap:=FM (R:=R1) (pk:= .list (pv picks)) (ss:=ss) (ts:=ts) (z:= .tup [a,.bool side]) tl;rw[show bM L++[.tup [a,.bool side]]=_ from ta (a,q7 nums picks j forced,side)] at ap;generalize QQ (0<j)=c1 at g0 hc;generalize(A/6%4==0)=c3 at e0 hc;cases c1 with
  |false=>
   (refine dw [eB 0 (g0 zz),eC 0 u3,eT 1 ap] ?_;kernel_rfl)
  |true=>
   cases forced with
   |true=>
    (refine dw [eB 0 (g0 zz),eC 1 u3,eT 1 ap] ?_;kernel_rfl)
   |false=>
    cases c3 with
    |true=>exact absurd rfl hc
    |false=>
   (refine dw [eB 0 (g0 zz),eV 1 (d6 zz),eV 0 (m4 zz),eB 0 (e0 zz),eC 0 u3,eT 1 ap] ?_;kernel_rfl)
end
noncomputable def xl:Sx:= %[.asg 23 (.cmp .eq (.var 17) (.bin .mod (.bin .div (.var 14) (.cst (.int 4))) (.var 15))),.asg 24 (.cal 80 %[.var 1,.bin .add (.cst (.int 6)) (.bin .mul (.cst (.int 2)) (.var 17))|_]),.asg 25 (.cmp .eq (.bin .mod (.bin .div (.var 24) (.cst (.int 3))) (.cst (.int 2))) (.cst (.int 0))),Gj,.as2 27 28 (.sub (.var 16) (.var 17)),.asg 26 (.ite (.cmp .lt (.sub (.var 27) (.cst (.int 0))) (.cst (.int 2))) (.lst .val .nil) (.cal 83 %[.var 2,.var 5,.sub (.var 27) (.cst (.int 1))|_])),.asg 13 (.cal 87 %[.var 3,.var 13,.var 27,.var 28|_]),.frR 8 (.fn1 .len (.var 10)) Hk,.ife (.nt (.cal 89 %[.var 2,.var 5,.var 10,.var 11,.var 12,.var 13|_])) %[.ret (.cst (.bool N))|_] .nil|_]
section
variable{k:Nat}(hk:30≤k){R:List AV}{sc:LV}{nums:List Nat}(hn:nums≠[])(hnl:nums.length<1000){x d y:Nat}{ps:List Nat}(hps:ps.length≤32){picks:List Nat}(hpk:∀i∈picks,i∈em)(hpne:picks≠[])(hpl:picks.length<1000){L:List (AV×cO×Bool)}
 {su sy:Nat→List Nat} (h1:∀p,(su p).length≤16) (h2:∀p,(sy p).length≤16) (h3:∀p,∀v∈sy p,v<16)
include hk hn hnl hps hpk hpne hpl h1 h2 h3
theorem GS(hR:Bd 2300 R)(hL:∀e∈L,rK R e.1 e.2.1∧TV e.2.1){j:Nat}(hj:L.length=j)(hj5:j<100){t:Nat}{now:List Nat}(hN:Kd R t now)(hS:Sg now)(g:Nat→Option LV):
  ∃R' a T yy t',bQ 2201 R R'∧rK R' a T∧TV T∧Kd R' t' (gC now T yy)∧
   (Rt ps (ps.map λp=>fS T yy (bV T) (su p) (sy p)) (ps.map λp=>fT T yy (bV T) p (sy p)) (gC now T yy)→
    ∃g',ex pg ac (Fn pg ac k) xl (ρM sc nums x d y ps (up (up g 13 (.val (iv t))) 17 (.val (iv j)))) ⟨ag R,S5 (.list (pv picks)) (ps.map su) (ps.map sy) (.list (bM L))⟩=
     O (U,ρM sc nums x d y ps (up g' 13 (.val (iv t'))),
      ⟨ag R',S5 (.list (pv picks)) (ps.map λp=>fS T yy (bV T) (su p) (sy p)) (ps.map λp=>fT T yy (bV T) p (sy p)) (.list (bM (L++[(a,T,yy)])))⟩)):=by
 have hm:0<2+y%4:=JD nc (JX _ _);have b1:bd .div zz (.val (iv y)) (.val (.int 4))=O (.val (iv (y/4))):=io _ y 4 (by decide) (nc);have b2:bd .mod zz (.val (iv (y/4))) (.val (iv (2+y%4)))=O (.val (iv (y/4%(2+y%4)))):=cN _ (y/4) (2+y%4) (by exact Nat.ne_of_gt hm);have b3:af ac .eq zz (.val (iv j)) (.val (iv (y/4%(2+y%4))))=O (j==y/4%(2+y%4)):=fi _ _;generalize(j==y/4%(2+y%4))=forced at b3;have d1:=λS=>fN (R:=R) hn hnl (6+2*j) k S (nl hk)
 have m2:bd .mul zz (.val (.int 2)) (.val (iv j))=O (.val (iv (2*j))):=wv _ j;have a6:bd .add zz (.val (.int 6)) (.val (iv (2*j)))=O (.val (iv (6+2*j))):=fP _ 6 (2*j);generalize dP nums (6+2*j)=A at d1;have b4:bd .div zz (.val (iv A)) (.val (.int 3))=O (.val (iv (A/3))):=io _ A 3 (by decide) (nc);have b5:bd .mod zz (.val (iv (A/3))) (.val (.int 2))=O (.val (iv (A/3%2))):=cN _ _ 2 (by decide);have b6:af ac .eq zz (.val (iv (A/3%2))) (.val (.int 0))=O (A/3%2==0):=js 0 _;generalize(A/3%2==0)=side at b6;refine Hb (xu (k:=k) (nl hk) (sc:=sc) hn hnl (x:=x) (d:=d) (y:=y) (ps:=ps) (g:=up g 13 (.val (iv t))) hpk hpne hpl (ss:=ps.map su) (ts:=ps.map sy) (hR.mono (nc)) hL hj hj5 forced side A) λR1 a T yy u1 u2 u3 u4=> ?_
 have hR1:Bd 2299 R1:=hR.ext u1 (nc);refine aX (qu (hR1.mono (nc)) (hN.ext u1) hS u2 yy) λR' t' w1 w2 w3=> ?_
 have hR':Bd 0 R':=hR1.ext w1 (nc);have s27:aL ac ⟨ag R1,S5 (.list (pv picks)) (ps.map su) (ps.map sy) (.list (bM (L++[(a,T,yy)])))⟩ (.loc 4) (.val (iv j))=O (.val (.tup [a,.bool yy])):=CQ (nr hj5) (xg (e:=(a,T,yy)) (by rw[←hj];simp));have e26:ev pg ac (Fn pg ac k) (.ite (.cmp .lt (.sub (.var 27) (.cst (.int 0))) (.cst (.int 2))) (.lst .val .nil) (.cal 83 %[.var 2,.var 5,.sub (.var 27) (.cst (.int 1))|_])) .V (ρM sc nums x d y ps (up (up (kQ j forced A side (up g 13 (.val (iv t)))) 27 (.val a)) 28 (.val (.bool yy)))) ⟨ag R1,S5 (.list (pv picks)) (ps.map su) (ps.map sy) (.list (bM (L++[(a,T,yy)])))⟩=
   O ([.val (.lst (pv (bV T)))],⟨ag R1,S5 (.list (pv picks)) (ps.map su) (ps.map sy) (.list (bM (L++[(a,T,yy)])))⟩):=by
  match T,u2 with
  | .ty w,⟨_,e⟩=>
   subst e;have c0:∀s,af ac .lt s (.val (.int 0)) (.val (.int 2))=O Z:=λs=>rfl
   (refine bz [eB 1 (c0 zz)] ?_;kernel_rfl)
  | .tr,e=>
   have e:a=_:=e;subst e;have c0:∀s,af ac .lt s (.val (.int 1)) (.val (.int 2))=O Z:=λs=>rfl
   (refine bz [eB 1 (c0 zz)] ?_;kernel_rfl)
  | .eq os st,⟨t2,hk2,_,e⟩=>
   subst e;have c0:∀s,af ac .lt s (.val (.int 2)) (.val (.int 2))=O N:=λs=>rfl
   obtain⟨k',rfl⟩:∃k',k=k'+2:=⟨k - 2,nq hk⟩
   have h83:Fn pg ac (k'+2) 83 [.ref 0,.loc 0,.val (iv t2)] ⟨ag R1,S5 (.list (pv picks)) (ps.map su) (ps.map sy) (.list (bM (L++[(.tup [.int 2,iv t2,.bool st],.eq os st,yy)])))⟩=O (.val (.lst (pv (aD os))),⟨ag R1,S5 (.list (pv picks)) (ps.map su) (ps.map sy) (.list (bM (L++[(.tup [.int 2,iv t2,.bool st],.eq os st,yy)])))⟩):=rn (hR1.mono (nc)) hk2 k' _
   (refine bz [eB 1 (c0 zz),eC 1 h83] ?_;kernel_rfl)
 have w3:=λS=>w3 k S (nl hk)
 have hA':=u2.ext w1;refine aG (zI (k:=k) (nl hk) hR' (sc:=sc) (nums:=nums) (x:=x) (d:=d) (y:=y) hps (t0:=t') hA' (yy:=yy) (gs:=bV T) (TV.lt (T:=T)) u3.len u3.ne (pk:= .list (pv picks)) (tt:= .list (bM (L++[(a,T,yy)]))) h1 h2 h3 ps [] (kQ j forced A side g) rfl) λg' lo=> ?_
 rw[J5,←Mc] at lo;have l1:=dK (st:=⟨ag R',S5 (.list (pv picks)) (ps.map su) (ps.map sy) (.list (bM (L++[(a,T,yy)])))⟩) (l:=ps) (ny hps);have e8:=la (it:= .fn1 .len (.var 10)) (st:=⟨ag R',S5 (.list (pv picks)) (ps.map su) (ps.map sy) (.list (bM (L++[(a,T,yy)])))⟩) (bz [eV 0 l1] (by kernel_rfl)) (ny hps) lo;refine⟨R',a,T,yy,t',u1.trans w1 (nc),hA',u3,w2,λhrt=>⟨kI t' (bV T) a yy g',?_⟩⟩;obtain⟨k,rfl⟩:∃k',k=k'+4:=⟨k - 4,nq hk⟩
 have r1:=v4 (pk:= .list (pv picks)) (tt:= .list (bM (L++[(a,T,yy)]))) w2 hrt hR' k;exact dw [eV 0 b1,eV 0 b2,eB 0 b3,eV 0 m2,eV 0 a6,eC 0 (d1 (S5 (.list (pv picks)) (ps.map su) (ps.map sy) (.list (bM L)))),eV 0 b4,eV 0 b5,eB 0 b6,eS 0 u4,eV 0 s27,eX 0 e26,eC 0 (w3 (S5 (.list (pv picks)) (ps.map su) (ps.map sy) (.list (bM (L++[(a,T,yy)]))))),eS 0 e8,eC 0 r1] (by kernel_rfl)
end
noncomputable abbrev Ts:=List (cO×Bool)
noncomputable def aT(L:Ts)(ps:List Nat):List Nat:=L.foldl (λps e=>gC ps e.1 e.2) ps
noncomputable def pr(L:Ts)(p:Nat):List Nat×List Nat:=L.foldl (λs e=>(fS e.1 e.2 (bV e.1) s.1 s.2,fT e.1 e.2 (bV e.1) p s.2)) (bk p,bk p)
theorem gj(L:Ts)(e:cO×Bool)(ps:List Nat):aT (L++[e]) ps=gC (aT L ps) e.1 e.2:=by unfold aT;rw[Os];rfl
theorem yU(L:Ts)(e:cO×Bool)(p:Nat):pr (L++[e]) p=(fS e.1 e.2 (bV e.1) (pr L p).1 (pr L p).2,fT e.1 e.2 (bV e.1) p (pr L p).2):=by unfold pr;rw[Os];rfl
theorem zA:∀(L:Ts) (p:Nat) (s:List Nat×List Nat),s.1.length≤16→s.2.length≤16→(∀v∈s.2,v<16)→
  (L.foldl (λs e=>(fS e.1 e.2 (bV e.1) s.1 s.2,fT e.1 e.2 (bV e.1) p s.2)) s).1.length≤16∧(L.foldl (λs e=>(fS e.1 e.2 (bV e.1) s.1 s.2,fT e.1 e.2 (bV e.1) p s.2)) s).2.length≤16∧∀v∈(L.foldl (λs e=>(fS e.1 e.2 (bV e.1) s.1 s.2,fT e.1 e.2 (bV e.1) p s.2)) s).2,v<16
 |[],_,s,h1,h2,h3=>⟨h1,h2,h3⟩
 |e::L,p,s,h1,h2,h3=>by
  rw[LA];refine zA L p _ ?_ ?_ ?_
  ·exact JD (JV _ _) h1
  ·exact JD (JV _ _) h2
  ·exactλv hv=>h3 v (Jm.mp hv).1
theorem qf(L:Ts)(p:Nat):(pr L p).1.length≤16∧(pr L p).2.length≤16∧∀v∈(pr L p).2,v<16:=zA L p _ (ld p) (ld p) λ_ h=>mP h
noncomputable abbrev bf(L:List (AV×cO×Bool)):Ts:=L.map (·.2)
section
variable{k:Nat}(hk:30≤k){sc:LV}{nums:List Nat}(hn:nums≠[])(hnl:nums.length<1000){x d y:Nat}{ps:List Nat}(hps:ps.length≤32){picks:List Nat}(hpk:∀i∈picks,i∈em)(hpne:picks≠[])(hpl:picks.length<1000)
 (hrt:∀L:Ts,(∀e∈L,TV e.1)→Rt ps (ps.map λp=>(pr L p).1) (ps.map λp=>(pr L p).2) (aT L ps)) (hsg:∀L:Ts,(∀e∈L,TV e.1)→Sg (aT L ps))
include hk hn hnl hps hpk hpne hpl hrt hsg
theorem vQ(c:Nat):∀(R:List AV) (L:List (AV×cO×Bool)) (t:Nat) (g:Nat→Option LV),L.length+c<50→Bd (2201*c+100) R→(∀e∈L,rK R e.1 e.2.1∧TV e.2.1)→Kd R t (aT (bf L) ps)→
  ∃R' L' t' g',bQ (2201*c) R R'∧L'.length=L.length+c∧(∀e∈L',rK R' e.1 e.2.1∧TV e.2.1)∧Kd R' t' (aT (bf L') ps)∧
   bB (bn 17) (ex pg ac (Fn pg ac k) xl) (λ_=>Z) (pv (OO L.length c)) (ρM sc nums x d y ps (up g 13 (.val (iv t)))) ⟨ag R,S5 (.list (pv picks)) (ps.map λp=>(pr (bf L) p).1) (ps.map λp=>(pr (bf L) p).2) (.list (bM L))⟩=
    O (U,ρM sc nums x d y ps (up g' 13 (.val (iv t'))),⟨ag R',S5 (.list (pv picks)) (ps.map λp=>(pr (bf L') p).1) (ps.map λp=>(pr (bf L') p).2) (.list (bM L'))⟩):=by
 induction c with
 |zero=>exactλR L t g _ _ hL hK=>⟨R,L,t,g,.rfl' _,rfl,hL,hK,rfl⟩
 |succ c ih=>
  intro R L t g hl hR hL hK;have hLt:∀e∈bf L,TV e.1:=λe he=>by
   refine ak (Jv.mp he) λe' h1 oz2=> ?_
   subst oz2;exact(hL e' h1).2
  obtain⟨R1,a,T,yy,t1,u1,u2,u3,u4,u5⟩:=GS hk (R:=R) (sc:=sc) hn hnl (x:=x) (d:=d) (y:=y) hps hpk hpne hpl (L:=L) (su:=λp=>(pr (bf L) p).1) (sy:=λp=>(pr (bf L) p).2)
   (λp=>(qf _ p).1) (λp=>(qf _ p).2.1) (λp=>(qf _ p).2.2) (hR.mono (nc)) hL rfl (JA (JX L.length (c+1)) (nr hl)) hK (hsg _ hLt) g
  have hLt2:∀e∈bf (L++[(a,T,yy)]),TV e.1:=λe he=>by
   rw[show bf (L++[(a,T,yy)])=bf L++[(T,yy)] from Ki] at he;rcases Ju.mp he with he|he
   ·exact hLt e he
   ·rw[Ja.mp he];exact u3
  have hrt2:=hrt _ hLt2;have e1:aT (bf (L++[(a,T,yy)])) ps=gC (aT (bf L) ps) T yy:=by
   rw[show bf (L++[(a,T,yy)])=bf L++[(T,yy)] from Ki,gj]
  have e2:∀p,pr (bf (L++[(a,T,yy)])) p=(fS T yy (bV T) (pr (bf L) p).1 (pr (bf L) p).2,fT T yy (bV T) p (pr (bf L) p).2):=λp=>by
   rw[show bf (L++[(a,T,yy)])=bf L++[(T,yy)] from Ki,yU]
  have e3:(ps.map λp=>(pr (bf (L++[(a,T,yy)])) p).1)=ps.map λp=>fS T yy (bV T) (pr (bf L) p).1 (pr (bf L) p).2:=KU λp _=>by rw[e2]
  have e4:(ps.map λp=>(pr (bf (L++[(a,T,yy)])) p).2)=ps.map λp=>fT T yy (bV T) p (pr (bf L) p).2:=KU λp _=>by rw[e2]
  rw[e1,e3,e4] at hrt2;obtain⟨g1,hx⟩:=u5 hrt2;refine dJ (ih R1 (L++[(a,T,yy)]) t1 g1 (by rw[Jk,KL];exact nz hl) (hR.ext u1 (by exact K5 (Kh _ _))) (λe he=>by
   rcases Ju.mp he with he|he
   ·exact⟨(hL e he).1.ext u1,(hL e he).2⟩
   ·rw[Ja.mp he];exact⟨u2,u3⟩) (by rw[e1];exact u4)) λR' L' t' g' w1 w2 w3 w4 w5=>⟨R',L',t',g',u1.trans w1 (by exact K5 (Kh _ _)),by rw[w2,Jk,KL];exact Nat.succ_add_eq_add_succ _ _,w3,w4,?_⟩
  rw[e3,e4,Jk,KL] at w5;rw[M5];exact(bS (ok:=λ_=>Z) (by kernel_rfl) hx rfl).trans w5
end
noncomputable def dz(q:Nat):Bool:=(q==4||q==5)||(iS q==2||iS q==3||iS q==4||iS q==5)
theorem yg(st:St):Qs.map (λq=>aL ac st (.val (bc.getD q .none)) (.val (.int 0)))=Qs.map (λq=>O (.val (iv (iS q)))):=by kernel_rfl
theorem xE(st:St)(p a b:Nat):af ac .nin st (.val (iv p)) (.val (.tup [iv a,iv b]))=O (!(p==a||p==b)):=by
 have:=pq st p a b;rw[qt] at this;rw[ub,this];rfl
theorem y1(st:St)(p a b c d:Nat):af ac .nin st (.val (iv p)) (.val (.tup [iv a,iv b,iv c,iv d]))=O (!(p==a||p==b||p==c||p==d)):=by
 have:=t9 st p a b c d;rw[qt] at this;rw[ub,this];rfl
noncomputable def BR:X:=(.bop Z %[.cmp .nin (.var 19) (.tup %[.cst (.int 4),.cst (.int 5)|_]),.cmp .nin (.sub (.sub (.atr 0 (.var 2)) (.var 19)) (.cst (.int 0))) (.tup %[.cst (.int 2),.cst (.int 3),.cst (.int 4),.cst (.int 5)|_])|_])
noncomputable def B8:Sx:= %[.as2 27 28 (.sub (.var 16) (.bin .sub (.bin .sub (.var 15) (.cst (.int 1))) (.var 17))),.asg 18 (.cal 87 %[.var 3,.var 18,.var 27,.var 28|_])|_]
theorem Ce(st:St){a b:Nat}(h:b≤a):bd .sub st (.val (iv a)) (.val (iv b))=O (.val (iv (a - b))):=by
 show O (LV.val (.int (I9 a - I9 b)))=O (LV.val (.int (I9 (a - b))));rw[show I9 (a - b)=I9 a - I9 b from Int.ofNat_sub h]
section
variable{k:Nat}(hk:30≤k){sc:LV}{nums:List Nat}{x d y:Nat}{ps:List Nat}(hps:ps.length≤32)(hpq:∀q∈ps,q∈Qs)
include hk hps hpq
omit hk in
theorem sQ{R:List AV}(hR:Bd 0 R){g:Nat→Option LV}{pk tt:CO}{ss ts:List (List Nat)}(m:Md):ev pg ac (Fn pg ac k) (.comp N 19 [N,N,Z] (.var 19) (.var 10) BR) m (ρM sc nums x d y ps g) ⟨ag R,S5 pk ss ts tt⟩=
  bv m (O (.val (.lst (pv (ps.filter λq=> !dz q))),⟨ag R,S5 pk ss ts tt⟩)):=by
 refine jz (n:=0) (tg:=19) (bs:=[N,N,Z]) (it:= .var 10) (cond:=BR) (v:= .lst (pv ps)) (b:=Z) (p:=λq=> !dz q) rfl (by show 19<32;exact nc) (ny hps) hR
  (λk _=>rfl) (λq hqm R2 hR2 _ k acc _=> ?_) k m (KG _)
 have hq:=hpq q hqm;have n1:∀s,af ac .nin s (.val (iv q)) (.val (.tup [.int 4,.int 5]))=O (!(q==4||q==5)):=λs=>xE s q 4 5
 have n2:∀s,af ac .nin s (.val (iv (iS q))) (.val (.tup [.int 2,.int 3,.int 4,.int 5]))=O (!(iS q==2||iS q==3||iS q==4||iS q==5)):=λs=>y1 s (iS q) 2 3 4 5
 have r1:=cU (R:=R2) (S:=S5 pk ss ts tt++[.list acc]) (by have:=yH hq;exact nr this) (xV hq R2);have r2:=λs=>aq (yg s) q hq
 unfold dz;generalize(q==4||q==5)=b1 at n1 ⊢;generalize(iS q==2||iS q==3||iS q==4||iS q==5)=b2 at n2 ⊢;cases b1<;>cases b2
 ·(refine bz [eB 1 (n1 zz),eV 0 r1,eV 0 (r2 zz),eB 1 (n2 zz)] ?_;kernel_rfl)
 ·(refine bz [eB 1 (n1 zz),eV 0 r1,eV 0 (r2 zz),eB 1 (n2 zz)] ?_;kernel_rfl)
 ·(refine bz [eB 1 (n1 zz)] ?_;kernel_rfl)
 ·(refine bz [eB 1 (n1 zz)] ?_;kernel_rfl)
variable(hsg:∀L:Ts,(∀e∈L,TV e.1)→Sg (aT L ps))
include hsg
omit hps hpq in
theorem vP{t0:Nat}{L:List (AV×cO×Bool)}(hll:L.length=2+y%4){pk:CO}{ss ts:List (List Nat)}(P:List (AV×cO×Bool)):∀(PA:List (AV×cO×Bool)) (R:List AV) (t:Nat) (g:Nat→Option LV),L.reverse=PA++P→Bd (2200*P.length) R→(∀e∈L,rK R e.1 e.2.1∧TV e.2.1)→Kd R t (aT (bf PA) ps)→
  ∃R' t' g',bQ (2200*P.length) R R'∧Kd R' t' (aT (bf L.reverse) ps)∧
   bB (bn 17) (ex pg ac (Fn pg ac k) B8) (λ_=>Z) (pv (OO PA.length P.length)) (ρM sc nums x d y ps (up (up g 13 (.val (iv t0))) 18 (.val (iv t)))) ⟨ag R,S5 pk ss ts (.list (bM L))⟩=
    O (U,ρM sc nums x d y ps (up (up g' 13 (.val (iv t0))) 18 (.val (iv t'))),⟨ag R',S5 pk ss ts (.list (bM L))⟩):=by
 induction P with
 |nil=>
  intro PA R t g e _ hL hK;rw[Je] at e;exact⟨R,t,g,.rfl' _,by rw[e];exact hK,rfl⟩
 |cons z P ih=>
  obtain⟨a,T,yy⟩:=z;intro PA R t g e hR hL hK;rw[JH,PZ] at hR;have hlen:PA.length+(P.length+1)=2+y%4:=by
   have:=congrArg List.length e;rw[NC,Jk,JH,hll] at this;exact this.symm
  have hPA:∀e∈PA,e∈L:=λz hz=>M6.mp (by rw[e];exact Ju.mpr (.inl hz))
  have hmem:(a,T,yy)∈L:=M6.mp (by rw[e];exact Ju.mpr (.inr (.head _)));have hget:L[2+y%4 - 1 - PA.length]? =O (a,T,yy):=by
   have h1:L.reverse[PA.length]? =O (a,T,yy):=by rw[e,Jx (JC _)];simp
   rw[List.getElem?_reverse (by rw[hll];exact hlen▸M7 (Oq _)),hll] at h1;exact h1
  have hLt:∀e∈bf PA,TV e.1:=λz hz=>by
   refine ak (Jv.mp hz) λe' h1 oz2=> ?_
   subst oz2;exact(hL e' (hPA e' h1)).2
  refine aX (qu (hR.mono (nc)) hK (hsg _ hLt) (hL _ hmem).1 yy) λR1 t1 w1 w2 w3=> ?_
  have e1:aT (bf (PA++[(a,T,yy)])) ps=gC (aT (bf PA) ps) T yy:=by
   rw[show bf (PA++[(a,T,yy)])=bf PA++[(T,yy)] from Ki,gj]
  have hlt:PA.length<2+y%4:=hlen▸M7 (Oq _);have b1:=Ce zz (a:=2+y%4) (b:=1) (JD nc (JX _ _));have b2:=Ce zz (a:=2+y%4 - 1) (b:=PA.length) (Nat.le_sub_one_of_lt hlt);have b3:aL ac ⟨ag R,S5 pk ss ts (.list (bM L))⟩ (.loc 4) (.val (iv (2+y%4 - 1 - PA.length)))=O (.val (.tup [a,.bool yy])):=CQ (JA (JD (Qx _ _) (Qx _ _)) (ny (J8 (JB (Kj y nc)) 2))) (xg hget);have w3:=w3 k (S5 pk ss ts (.list (bM L))) (nl hk);refine Bs (ih (PA++[(a,T,yy)]) R1 t1 (up (up (up g 17 (.val (iv PA.length))) 27 (.val a)) 28 (.val (.bool yy))) (by rw[e,Jy];rfl) (hR.ext w1 (by exact K5 (Kh _ _))) (λe he=>⟨(hL e he).1.ext w1,(hL e he).2⟩) (by rw[e1];exact w2)) λR' t' g' z1 z2 z3=>⟨R',t',g',w1.trans z1 (by rw[JH,PZ];exact K5 (Kh _ _)),z2,?_⟩
  rw[Jk,KL] at z3;rw[JH,M5];exact(bS (ok:=λ_=>Z) (ρ1:=ρM sc nums x d y ps (up (up (up g 13 (.val (iv t0))) 18 (.val (iv t))) 17 (.val (iv PA.length)))) (by kernel_rfl) (dw [eV 0 b1,eV 0 b2,eV 0 b3,eC 0 w3] (by kernel_rfl)) rfl).trans z3
end
noncomputable def kW(ps:List Nat):Prop:=∀f:Nat→Bool,un (ps.map λq=>if f q=Z then[q] else[])=ps.filter f
theorem kW.filter{ps:List Nat}(h:kW ps)(g:Nat→Bool):kW (ps.filter g):=λf=>by
 have h1:=h λq=>f q&&g q
 rw[K6,←h1];refine kv ?_
 funext q
 unfold av;rw[decide_eq_decide];constructor
 ·intro rz1;refine aw λMz kz1=> ?_
  refine ak rz1 λl hl hql=> ?_
  refine ak (Jv.mp hl) λp hp oz17=> ?_
  subst oz17;refine aO (Jm.mp hp) λhp1 hp2=> ?_
  refine kz1 ?_;refine⟨_,Jv.mpr ⟨p,hp1,rfl⟩,?_⟩;by_cases hf:f p=Z
  ·rw[if_pos hf] at hql;rw[if_pos (by rw[hf,hp2];rfl)];exact hql
  ·rw[if_neg hf] at hql;exfalso;cases hql
 ·intro rz2;refine aw λMz kz2=> ?_
  refine ak rz2 λl hl hql=> ?_
  refine ak (Jv.mp hl) λp hp oz18=> ?_
  subst oz18;by_cases hf:(f p&&g p)=Z
  ·rw[if_pos hf] at hql;rw[I8] at hf;refine kz2 ?_;refine⟨_,Jv.mpr ⟨p,Jm.mpr ⟨hp,hf.2⟩,rfl⟩,?_⟩;rw[if_pos hf.1];exact hql
  ·rw[if_neg hf] at hql;cases hql
theorem eD{ps:List Nat}(h:kW ps){f:Nat→List Nat}(hf:∀q∈ps,f q=[q]∨f q=[]):un (ps.map f)=ps.filter λq=> !(f q).isEmpty:=by
 rw[←h]
 congr 1
 refine KU λq hq=> ?_
 rcases hf q hq with e|e<;>rw[e]<;>rfl
theorem u8{ps:List Nat}(h:kW ps):un (ps.map λq=>[q])=ps:=by
 have:=h λ_=>Z
 rw[KT.mpr (λ_ _=>rfl)] at this;exact this
theorem nQ{q:Nat}(h:eM q=N):q≠0∧q≠1∧q≠6∧q≠7∧q≠10∧q≠11:=by
 unfold eM at h;simp only[KA,beq_eq_false_iff_ne] at h;refine aw λMz kz3=> ?_
 refine aO h λoz19 f=> ?_
 refine aO oz19 λoz22 e=> ?_
 refine aO oz22 λoz24 d=> ?_
 obtain⟨⟨a,b⟩,c⟩:=oz24;refine kz3 ?_;exact⟨a,b,c,d,e,f⟩
theorem uN{pss:List (List Nat)}(hq:∀ps∈pss,∀p∈ps,p∈Qs)(hc:∀q∈un pss,eM q=N):kW (un pss):=λf=>by
 have hqs:=dO hq;have hno:∀n,n∉Qs→av pss n=N:=λn hn=>by
  rw[JZ];intro e;refine ak (cv.mp e) λps h1 h2=> ?_
  exact hn (hq ps h1 n h2)
 have m13:=hno 13 (by decide);have m15:=hno 15 (by decide);have hM:∀q,av ((un pss).map λq=>if f q=Z then[q] else[]) q=Z↔q∈un pss∧f q=Z:=λq=>by
  rw[cv];constructor
  ·rintro⟨l,hl,hql⟩;refine ak (Jv.mp hl) λp hp oz8=> ?_
   subst oz8;by_cases hf:f p=Z
   ·rw[if_pos hf] at hql;rw[Ja.mp hql];exact⟨hp,hf⟩
   ·rw[if_neg hf] at hql;cases hql
  ·rintro⟨h1,h2⟩;exact⟨_,Jv.mpr ⟨q,h1,rfl⟩,by rw[if_pos h2];exact .head _⟩
 have hcan:∀q,q∈un pss↔q<32∧aZ (av pss) q=Z:=λq=>bG
 show bh (aZ (av _))=_;generalize av ((un pss).map λq=>if f q=Z then[q] else[])=M at hM ⊢;have hMQ:∀q,M q=Z→q∈un pss:=λq h=>((hM q).mp h).1
 have z0:M 0=N:=by
  rw[JZ];intro e
  exact(nQ (hc 0 (hMQ 0 e))).1 rfl
 have z1:M 1=N:=by
  rw[JZ];intro e
  exact(nQ (hc 1 (hMQ 1 e))).2.1 rfl
 have z13:M 13=N:=by
  rw[JZ];intro e
  have:=hqs 13 (hMQ 13 e)
  revert this;decide
 have z15:M 15=N:=by
  rw[JZ];intro e
  have:=hqs 15 (hMQ 15 e)
  revert this;decide
 have hN0:av pss 0=N:=by
  rw[JZ];intro e
  have:0∈un pss:=(hcan 0).mpr ⟨by exact nc,by unfold aZ;rw[if_pos e];rfl⟩;exact(nQ (hc 0 this)).1 rfl
 have hN1:av pss 1=N:=by
  rw[JZ];intro e
  have:1∈un pss:=(hcan 1).mpr ⟨by exact nc,by unfold aZ;rw[hN0,m13,if_neg (by simp),if_neg (by simp),if_pos e];rfl⟩;exact(nQ (hc 1 this)).2.1 rfl
 have hflt:un pss=bh (aZ (av pss)):=rfl;rw[hflt];unfold bh;rw[K6];refine J3 λq hq32=> ?_
 have hq32:=J6.mp hq32;obtain⟨P',hP'⟩:∃P':Nat→Bool,P'=λq=>av pss q||((av pss 8||av pss 14)&&(av pss 9||av pss 15)&&(q==8||q==9)):=⟨_,rfl⟩
 have hN:aZ (av pss)=λq=>P' q&&sb P' q:=by
  unfold aZ;rw[hN0,m13,hN1,if_neg (by simp),if_neg (by simp),if_neg (by simp),←hP',hP']
 have hMN:∀n,M n=Z→P' n=Z∧P' (nj n)=N∧P' (wc n)=N:=λn hn=>by
  have h1:=((hcan n).mp (hMQ n hn)).2;rw[hN] at h1;have h1:(P' n&&sb P' n)=Z:=h1;unfold sb at h1;simp only[I8,JU] at h1;exact⟨h1.1,h1.2.1,h1.2.2⟩
 have hsub:∀n,P' n=N→M n=N:=λn hn=>by
  rw[JZ];intro e
  rw[(hMN n e).1] at hn;cases hn
 have hJ:((M 8||M 14)&&(M 9||M 15))=Z→M 8=Z∧M 9=Z:=λh=>by
  rw[z15,JQ,I8] at h;refine aO h λh1 h9=> ?_
  rcases JL _ _▸h1 with h8|h14
  ·exact⟨h8,h9⟩
  ·exfalso;refine cI (hMN 14 h14) λa b _=> ?_
   have e8:nj 14=8:=by decide
   rw[e8,hP'] at b;simp only[KA] at b;rw[hP'] at a;have p9:=(hMN 9 h9).1;rw[hP'] at p9;have HT:av pss 14=Z:=by
    have:((14:Nat)==8||(14:Nat)==9)=N:=rfl;simpa[this] using a
   have c9:av pss 9=Z∨((av pss 8||av pss 14)&&(av pss 9||av pss 15))=Z:=by
    simpa using p9
   have c9':av pss 9=Z:=by
    rcases c9 with c|c
    ·exact c
    ·rw[m15,JQ,I8] at c;exact c.2
   have:=b.2;rw[HT,c9',m15] at this;simp at this
 have hM':(λq=>M q||((M 8||M 14)&&(M 9||M 15)&&(q==8||q==9)))=M:=by
  funext n
  cases j:((M 8||M 14)&&(M 9||M 15)) with
  |false=>simp
  |true=>
   refine aO (hJ j) λj8 j9=> ?_
   rw[K9];by_cases h8:n=8
   ·subst h8;rw[j8];rfl
   ·by_cases h9:n=9
    ·subst h9;rw[j9];rfl
    ·simp[h8,h9]
 have hnM:aZ M q=(M q&&sb M q):=by
  unfold aZ;rw[z0,z13,z1,if_neg (by simp),if_neg (by simp),if_neg (by simp),hM'];show((λq=>M q||((M 8||M 14)&&(M 9||M 15)&&(q==8||q==9))) q&&sb M q)=_;rw[hM']
 rw[hnM];cases hMq:M q with
 |true=>
  refine cI (hMN q hMq) λ_ b c=> ?_
  have h1:=(hM q).mp hMq;rw[h1.2,((hcan q).mp h1.1).2];unfold sb;rw[hsub _ b,hsub _ c];rfl
 |false=>
  rw[LP];cases hf:f q with
  |false=>rfl
  |true=>
   cases hn:aZ (av pss) q with
   |false=>rfl
   |true=>rw[(hM q).mpr ⟨(hcan q).mpr ⟨hq32,hn⟩,hf⟩] at hMq;cases hMq
noncomputable def Qk:List Nat:=[4,5,8,9,14,16,18,19,20,21,22,23,24,25,26,27,28,29,30,31]
theorem BJ{q:Nat}(h:q∈Qs)(ho:eM q=N):q∈Qk:=by
 have:∀q∈Qs,eM q=N→q∈Qk:=by decide+kernel
 exact this q h ho
theorem fV{q:Nat}(h:q∈Qk):q∈Qs∧q∈Qn∧q≠0∧q≠1∧(q==6||q==7)=N∧q≠11:=by
 have:∀q∈Qk,q∈Qs∧q∈Qn∧q≠0∧q≠1∧(q==6||q==7)=N∧q≠11:=by decide
 exact this q h
noncomputable def EY(os:List Nat)(q:Nat):Bool:=match os with
 |[o]=>if AV.eqv (eJ o) (.tup [])=Z then Z else keep o q
 |_=>Z
noncomputable def uK(T:cO)(y:Bool)(q:Nat):Bool:=match T with
 | .ty w=> !(g5 q w y).isEmpty
 | .tr=>if y then !(one (nn q)).isEmpty&& !(one (rH q)).isEmpty else !(one (zm q)).isEmpty
 | .eq os st=>if y then(if os=[0]∨os=[1] then Z else if fj os then ew (ah q)&&(if st then os else un [[4],[5]]).any (λo=>pm q o st) else !(ms q os st).isEmpty)
  else if os=[0]∨os=[1] then Z else if(!st&&fj os)=Z then !(one (nn q)).isEmpty else EY os q
theorem qC:∀q∈Qk,(∀w∈[0,1,2,3,4,5],∀y∈[Z,N],g5 q w y=[q]∨g5 q w y=[])∧(one (rH q)=[q]∨one (rH q)=[])∧(one (zm q)=[q]∨one (zm q)=[])∧(one (nn q)=[q]∨one (nn q)=[]):=by decide+kernel
theorem Bv{q:Nat}(h:q∈Qk){os:List Nat}(ho:∀o∈os,o∈Qs)(st:Bool):ms q os st=[q]∨ms q os st=[]:=by
 refine G0 (fV h) λf1 f2 f3 f4 f5 f6=> ?_
 unfold ms;by_cases h0:os.filter (mt q · st)=[]
 ·rw[if_pos h0];exact .inr rfl
 ·rw[if_neg h0];refine aG (J4 _ h0) λo hom=> ?_
  rw[if_neg (λe=>by
   rw[I8] at e;exact f6 (sS f1 (ho o (Jm.mp hom).1) e.1 (Jb.mp e.2 o hom) (Jm.mp hom).2).1)]
  unfold yX;rw[f5,LP,if_neg (by simp)];exact .inl rfl
theorem f9(ps:List Nat){g:Nat→Bool}(h:∀q∈ps,g q=Z):ps=ps.filter g:=(KT.mpr h).symm
section
variable{ps:List Nat}(hk:∀q∈ps,q∈Qk)(hst:kW ps)
include hk
theorem BH:ps≠[0]∧ps≠[1]:=by
 constructor
 ·intro e;exact(fV (hk 0 (by rw[e];exact .head _))).2.2.1 rfl
 ·intro e;exact(fV (hk 1 (by rw[e];exact .head _))).2.2.2.1 rfl
include hst
theorem se(os:List Nat):Fe ps os=ps.filter (EY os):=by
 match os with
 |[]=>exact f9 _ λ_ _=>rfl
 |a::b::l=>exact f9 _ λ_ _=>rfl
 |[o]=>
  show AM ps o=_;unfold AM;by_cases h:AV.eqv (eJ o) (.tup [])=Z
  ·rw[if_pos h];exact f9 _ λq _=>by show(if _ then Z else keep o q)=Z;rw[if_pos h]
  ·rw[if_neg h,if_neg (λe=>(BH hk).2 e.1),hst];exact J3 λq _=>by show _=(if _ then Z else keep o q);rw[if_neg h]
theorem jB{T:cO}(hT:TV T)(y:Bool):gC ps T y=ps.filter (uK T y):=by
 refine aO (BH hk) λn0 n1=> ?_
 match T,hT with
 | .ty w,hw=>
  show uZ ps w y=_;unfold uZ;rw[if_neg (λe=>n1 e.1)];exact eD hst λq h=>(qC q (hk q h)).1 w (w6 hw) y (bb y)
 | .tr,_=>
  show xT ps y=_;unfold xT;cases y with
  |true=>
   rw[if_pos rfl,eD hst λq h=>(qC q (hk q h)).2.1,eD (hst.filter _) λq h=>(qC q (hk q (Jm.mp h).1)).2.2.2,K6];rfl
  |false=>
   rw[if_neg (by simp),eD hst λq h=>(qC q (hk q h)).2.2.1];rfl
 | .eq os st,⟨ho,hos,hne,_,hnd⟩=>
  show v9 ps os y st=_;have top:∀{y},os=[0]∨os=[1]→ps=ps.filter (uK (.eq os st) y):=λ{y} h=>f9 _ λq _=>by
   cases y with
   |true=>show(if os=[0]∨os=[1] then Z else _)=Z;rw[if_pos h]
   |false=>show(if os=[0]∨os=[1] then Z else _)=Z;rw[if_pos h]
  cases y with
  |true=>
   unfold v9;rw[show(!Z&&st&&(QQ (os=[4])||decide (os=[5])))=N from rfl,if_neg (by simp)];by_cases hA:os=[0]∨os=[1]
   ·have e2:k6 ps os Z st=ps:=by unfold k6;rw[if_pos (.inr hA)]
    rw[e2,if_pos (c:=ps=[0]∨os=[0]∨os=[1]) (.inr hA)];split<;>exact top hA
   ·have hA':¬(ps=[0]∨os=[0]∨os=[1]):=λe=>e.elim n0 hA
    have e2:k6 ps os Z st=qk ps os st:=by unfold k6;rw[if_neg hA',if_pos rfl]
    rw[e2,if_neg hA'];unfold qk;rw[if_neg n1];have hn:=uy ho hos (λe=>hA (.inl e)) (λe=>hA (.inr e));by_cases hC:fj os=Z
    ·rw[hC,LS,if_pos rfl,if_pos rfl];unfold Eo;rw[hst];refine J3 λq _=> ?_
     show _=(if os=[0]∨os=[1] then Z else if fj os then _ else _);rw[if_neg hA,if_pos hC]
    ·have hE:un (ps.map λq=>ms q os st)=ps.filter (uK (.eq os st) Z):=by
      rw[eD hst λq h=>Bv (hk q h) ho st];refine J3 λq _=> ?_
      show _=(if os=[0]∨os=[1] then Z else if fj os then _ else _);rw[if_neg hA,if_neg hC]
     rw[if_neg hC];split
     ·rename_i hp;have d1:QQ (ps=[1])=N:=decide_eq_false n1;rw[JN] at hC;rw[d1,hC] at hp;simp only[Kp,JQ,I8] at hp;have e3:(ps.map λq=>lZ q os st)=ps.map λq=>ms q os st:=KU λq h=>by
       have hpq:=Jb.mp hp.1 q h;have hqn:=(fV (hk q h)).2.1;have e4:os.filter (pm q · st)=os.filter (mt q · st):=J3 λo hom=>by
        have t:=pP Fm hqn (hn o hom) st;rw[hpq,Jb.mp hp.2 o hom] at t;simpa using t
       have e5:(ah q==7)=N:=by
        have:∀q∈Qn,bu q=Z→(ah q==7)=N:=by decide+kernel
        exact this q hqn hpq
       unfold lZ ms;rw[e4,e5,LP,if_neg (c:=N=Z) (by simp)]
      rw[e3];exact hE
     ·exact hE
  |false=>
   have pe:k6 ps os N st=ps.filter (uK (.eq os st) N):=by
    unfold k6;by_cases hA:os=[0]∨os=[1]
    ·rw[if_pos (.inr hA)];exact top hA
    ·rw[if_neg (λe=>e.elim n0 hA),if_neg (by simp)];by_cases hB:(!st&&fj os)=Z
     ·rw[if_pos hB,eD hst λq h=>(qC q (hk q h)).2.2.2];refine J3 λq _=> ?_
      show _=(if os=[0]∨os=[1] then Z else if(!st&&fj os)=Z then _ else _);rw[if_neg hA,if_pos hB]
     ·rw[if_neg hB,se hk hst os];refine J3 λq _=> ?_
      show _=(if os=[0]∨os=[1] then Z else if(!st&&fj os)=Z then _ else _);rw[if_neg hA,if_neg hB]
   unfold v9;split
   ·rename_i h;rw[I8,I8] at h;have h1:st=Z:=h.1.2;subst h1;unfold xq;rw[pe];exact u8 (hst.filter _)
   ·rw[show((ps.all bu&&os.all bu)|| !N||decide (ps=[1])||fj os)=Z by simp,if_pos rfl];exact pe
end
theorem lY{q:Nat}(h:q∈Qk){T:cO}(hT:TV T)(y:Bool):(∀v∈bk q,bI T y (bV T) v=Z→uK T y q=Z)∧(uK T y q=Z→∀v∈bk q,rJ T q y (bV T) v=Z):=by
 have hqs:=(fV h).1;have hq1:∀p∈[q],p∈Qs:=λp hp=>by rw[Ja.mp hp];exact hqs
 have hun:un [[q]]=[q]:=by
  have:∀q∈Qk,un [[q]]=[q]:=by decide+kernel
  exact this q h
 have hst:kW [q]:=by
  have h1:kW (un [[q]]):=uN (λps hps p hp=>by rw[Ja.mp hps] at hp;exact hq1 p hp) (λp hp=>by
   rw[hun] at hp;rw[Ja.mp hp];have:∀q∈Qk,eM q=N:=by decide
   exact this q h)
  rw[hun] at h1;exact h1
 have hc:=jB (ps:=[q]) (λp hp=>by rw[Ja.mp hp];exact h) hst hT y;refine cI (qH hq1 (Sg.one q) hT y) λs1 s2 _=> ?_
 rw[hc] at s1 s2;constructor
 ·intro v hv hp;refine ak (ar.mp (s2 v (ar.mpr ⟨q,.head _,hv⟩) hp)) λr h1 _=> ?_
  refine aO (Jm.mp h1) λa b=> ?_
  rw[Ja.mp a] at b;exact b
 ·intro hu v hv;refine cG (s1 q (Jm.mpr ⟨.head _,hu⟩) v hv) λq' a _ c=> ?_
  rw[Ja.mp a] at c;exact(c q hqs (by unfold v7;simp)).1
structure x0(ps:List Nat):Prop where
 rt:∀L:Ts,(∀e∈L,TV e.1)→Rt ps (ps.map λp=>(pr L p).1) (ps.map λp=>(pr L p).2) (aT L ps)
 sg:∀L:Ts,(∀e∈L,TV e.1)→Sg (aT L ps)
 back:∀L:Ts,(∀e∈L,TV e.1)→(ps.filter λq=> !dz q)=[]→aT L.reverse ps=aT L ps
theorem GR(st:St)(a b:Nat):af ac .eq st (.val (iv a)) (.val (iv b))=O (a==b):=fi a b
theorem Ia{Φ:ek}{s:Sx}{ρ:Ρ}{st st':St}{o:Option LV}{x:Option (Option LV×Ρ×St)}(e:x=ex pg ac Φ s ρ st)(l:List En)(h:gX Φ s ρ st l (λo1 _ s1 _=>o1=o∧s1=st')=allR l (o=o∧st'=st')):∃ρ' G' S',x=O (o,ρ',⟨G',S'⟩):=by
 refine aG (gu l h) λρ' h=> ?_
 exact⟨ρ',st'.G,st'.S,e.trans h⟩
theorem Aq(H:∀picks:List Nat,(∀i∈picks,i∈em)→picks≠[]→x0 (un (picks.map gz)))(ns:List Int)(hn:¬63<ns.length):∃st',Fn pg ac 40 90 [.val (.lst (ns.map AV.int))] zz=O (.val (.bool Z),st'):=by
 suffices hx:∃ρ' G' S',ex pg ac (Fn pg ac 39) eK.body (aM eK.nm.length [.val (.lst (ns.map AV.int))] eK.dv) zz=O (O (.val (.bool Z)),ρ',⟨G',S'⟩) by
  refine aw λMz kz2=> ?_
  refine Hi hx λρ' G' S' hx=> ?_
  refine kz2 ?_;exact⟨_,tQ (f:=90) (fd:=eK) (by kernel_rfl) rfl rfl hx⟩
 refine aw λMz kz3=> ?_
 refine ak (CB (Fn pg ac 39) ns hn) λv a1 a2=> ?_
 have hnl:=yT ns;have hne:=Bb ns;refine kz3 ?_;generalize iV ns=nums at*;have a3:=C5 9 (.lst (ns.map AV.int)) (.lst (pv nums));refine aw λMz kz4=> ?_
 obtain⟨R,x,d,picks,ps,y,g,b1,b2,b3,b4,b5,b6,b7⟩:=CZ (k:=39) nc (sc:= .val (.lst (ns.map AV.int))) hne (ny hnl);have hP:x0 ps:=b2▸H picks b3 b4;have hpl:=b1.l;have hpq:=b1.q;have hR:Bd 30000 R:=⟨JD (Nn b6.len 30000) nc,by
  refine aw λMz kz5=> ?_
  refine cG b6 λX e _ oX=> ?_
  rw[K8] at e;refine kz5 ?_;rw[e];exact oX⟩
 have hm:2+y%4<6:=KC (Kj y nc) 2;obtain⟨R',L,t,ga,c1,c2,c3,c4,c5⟩:=vQ (k:=39) nc (sc:= .val (.lst (ns.map AV.int))) hne (ny hnl) (x:=x) (d:=d) (y:=y) hpl b3 b4 b5 hP.rt hP.sg
  (2+y%4) R [] d g (by rw[J5,Ll];exact nr hm) (hR.mono (nx (MM hm))) (λ_ h=>nomatch h) b1
 rw[J5,Ll] at c2;have hR':Bd 15000 R':=hR.ext c1 (nx (MM hm));rw[J5,←Mc] at c5;have hLt:∀e∈bf L,TV e.1:=λe he=>by
  refine aw λMz kz6=> ?_
  refine ak (Jv.mp he) λe' h1 oz4=> ?_
  subst oz4;refine kz6 ?_;exact(c3 e' h1).2
 have e20:=la (it:= .var 15) (n:=2+y%4) (tg:=17) (b:=xl) (by rfl) (nr hm) c5;have u1:=sQ (k:=39) (sc:= .val (.lst (ns.map AV.int))) (nums:=nums) (x:=x) (d:=d) (y:=y) hpl hpq (hR'.mono nc) (g:=up ga 13 (.val (iv t)))
  (pk:= .list (pv picks)) (tt:= .list (bM L)) (ss:=ps.map λp=>(pr (bf L) p).1) (ts:=ps.map λp=>(pr (bf L) p).2)
 have fl:=JV (λq=> !dz q) ps;have l1:=dK (st:=⟨ag R',S5 (.list (pv picks)) (ps.map λp=>(pr (bf L) p).1) (ps.map λp=>(pr (bf L) p).2) (.list (bM L))⟩) (l:=ps.filter λq=> !dz q) (ny (JD fl hpl));have g1:af ac .gt ⟨ag R',S5 (.list (pv picks)) (ps.map λp=>(pr (bf L) p).1) (ps.map λp=>(pr (bf L) p).2) (.list (bM L))⟩ (.val (iv (ps.filter λq=> !dz q).length)) (.val (.int 0))=O (QQ (0<(ps.filter λq=> !dz q).length)):=fc _ _ 0;have h1:ex pg ac (Fn pg ac 39) eK.body (aM eK.nm.length [.val (.lst (ns.map AV.int))] eK.dv) zz=ex pg ac (Fn pg ac 39) (A3 2 qU) ((aM 32 [.val (.lst (ns.map AV.int))] []).set 1 (O (.val (.lst (pv nums))))) zz:=
  (ti a1).trans (a2 _)
 have h3:=h1.trans ((s7 7 (A3 2 qU) a3).trans b7);by_cases hu:(ps.filter λq=> !dz q)=[]
 ·have hd:QQ (0<(ps.filter λq=> !dz q).length)=N:=by rw[hu];rfl
  rw[hd] at g1;have hrl:L.reverse.length=2+y%4:=by rw[NC,c2]
  obtain⟨R2,t2,g2,f1,f2,f3⟩:=vP (k:=39) nc (sc:= .val (.lst (ns.map AV.int))) (nums:=nums) (x:=x) (d:=d) (y:=y) (ps:=ps) hP.sg (t0:=t) c2 (pk:= .list (pv picks)) (ss:=ps.map λp=>(pr (bf L) p).1) (ts:=ps.map λp=>(pr (bf L) p).2)
   L.reverse [] R' d ga rfl (hR'.mono (by rw[hrl];exact BN (MM hm))) c3 (b1.ext c1)
  rw[J5,hrl,←Mc] at f3;have e23:=la (it:= .var 15) (n:=2+y%4) (tg:=17) (b:=B8) (by rfl) (nr hm) f3;have hrev:bf L.reverse=(bf L).reverse:=List.map_reverse;rw[hrev,hP.back _ hLt hu] at f2;have heq:=aR.uniq f2.ty (c4.ext f1).ty;subst heq;have q1:=GR ⟨ag R2,S5 (.list (pv picks)) (ps.map λp=>(pr (bf L) p).1) (ps.map λp=>(pr (bf L) p).2) (.list (bM L))⟩ t2 t2;rw[beq_self_eq_true] at q1;refine kz4 ?_;exact Ia (st':=⟨ag R2,S5 (.list (pv picks)) (ps.map λp=>(pr (bf L) p).1) (ps.map λp=>(pr (bf L) p).2) (.list (bM L))⟩) h3 [eS 0 e20,eX 0 ((u1 .V).trans (aB _ _)),eV 0 l1,eB 0 g1,eS 0 e23,eB 0 q1] (by kernel_rfl)
 ·have hd:QQ (0<(ps.filter λq=> !dz q).length)=Z:=decide_eq_true (Kz λe=>hu (Jo e));rw[hd] at g1;refine kz4 ?_;exact Ia (st':=⟨ag R',S5 (.list (pv picks)) (ps.map λp=>(pr (bf L) p).1) (ps.map λp=>(pr (bf L) p).2) (.list (bM L))⟩) h3 [eS 0 e20,eX 0 ((u1 .V).trans (aB _ _)),eV 0 l1,eB 0 g1] (by kernel_rfl)
theorem nP{α:Type}{P:List α→Prop}(h0:P [])(h1:∀l a,P l→P (l++[a]))(l:List α):P l:=by
 rw[←l.reverse_reverse];induction l.reverse with
 |nil=>exact h0
 |cons a l ih=>rw[List.reverse_cons];exact h1 _ _ ih
theorem t7{T:cO}{y:Bool}{gs t:List Nat}{v:Nat}:(vU T y gs t).any (·==v)=Z↔v∈t∧bI T y gs v=Z:=by
 unfold vU;rw[J2];constructor
 ·rintro⟨w,hw,e⟩;have e:w=v:=by simpa using e
  subst e;exact Jm.mp hw
 ·intro h;exact⟨v,Jm.mpr h,by simp⟩
theorem pn(L:Ts)(p v:Nat):(v∈(pr L p).1↔v∈bk p∧∀e∈L,bI e.1 e.2 (bV e.1) v=Z)∧(v∈(pr L p).2↔v∈bk p∧∀e∈L,rJ e.1 p e.2 (bV e.1) v=Z):=by
 refine nP (P:=λL=>(v∈(pr L p).1↔v∈bk p∧∀e∈L,bI e.1 e.2 (bV e.1) v=Z)∧(v∈(pr L p).2↔v∈bk p∧∀e∈L,rJ e.1 p e.2 (bV e.1) v=Z)) ?_ ?_ L
 ·exact⟨⟨λh=>⟨h,λ_ h=>nomatch h⟩,λh=>h.1⟩,⟨λh=>⟨h,λ_ h=>nomatch h⟩,λh=>h.1⟩⟩
 ·rintro L a ⟨ih1,ih2⟩;rw[yU];have hall:∀{Q:cO×Bool→Prop},(∀e∈L++[a],Q e)↔(∀e∈L,Q e)∧Q a:=λ{Q}=>
   ⟨λh=>⟨λe he=>h e (Ju.mpr (.inl he)),h a (Ju.mpr (.inr (.head _)))⟩,λh e he=>by
    rcases Ju.mp he with he|he
    ·exact h.1 e he
    ·rw[Ja.mp he];exact h.2⟩
  constructor
  ·show v∈fS a.1 a.2 (bV a.1) (pr L p).1 (pr L p).2↔_;unfold fS;rw[Jm,t7,ih1,ih2,hall];constructor
   ·rintro⟨⟨h1,h2⟩,_,h3⟩;exact⟨h1,h2,h3⟩
   ·rintro⟨h1,h2,h3⟩;exact⟨⟨h1,h2⟩,⟨h1,λe he=>by unfold rJ;rw[h2 e he];rfl⟩,h3⟩
  ·show v∈fT a.1 a.2 (bV a.1) p (pr L p).2↔_;unfold fT;rw[Jm,JL,t7,ih2,hall];constructor
   ·rintro⟨⟨h1,h2⟩,h3⟩;refine⟨h1,h2,?_⟩;unfold rJ;rcases h3 with⟨_,h3⟩|h3
    ·rw[h3];rfl
    ·rw[h3,LS]
   ·rintro⟨h1,h2,h3⟩;refine⟨⟨h1,h2⟩,?_⟩;unfold rJ at h3;rw[JL] at h3;exact h3.imp (λh=>⟨⟨h1,h2⟩,h⟩) id
theorem CT{os:List Nat}(ho:∀o∈os,o∈Qs)(st:Bool):∀r∈fK os st,r∈Qs:=λr hr=>by
 unfold fK at hr;split at hr
 ·exact dO (by decide) r hr
 ·split at hr
  ·rw[Ja.mp hr];decide
  ·split at hr
   ·split at hr<;>rw[Ja.mp hr]<;>decide
   ·exact ho r hr
theorem Bp{ps:List Nat}(hq:∀q∈ps,q∈Qs){T:cO}(hT:TV T)(y:Bool):∀r∈gC ps T y,r∈Qs:=by
 match T,hT with
 | .ty w,hw=>
  show∀r∈uZ ps w y,r∈Qs
  unfold uZ;split
  ·exact dO (by split<;>decide)
  ·exact dO (bp λq h=>oa (hq q h) hw y)
 | .tr,_=>
  show∀r∈xT ps y,r∈Qs
  unfold xT;split
  ·exact dO (bp λq h=>DU (dO (bp λq h p hp=>((zp q (hq q h)).1 p hp).1) q h))
  ·exact dO (bp λq h=>(zp q (hq q h)).2)
 | .eq os st,⟨ho,_⟩=>
  show∀r∈v9 ps os y st,r∈Qs
  have pe:∀{st},∀r∈k6 ps os y st,r∈Qs:=λ{st} r hr=>by
   cases y with
   |false=>exact oA hq r hr
   |true=>
    unfold k6 at hr;split at hr
    ·exact hq r hr
    ·rw[if_pos rfl] at hr;unfold qk at hr;split at hr
     ·exact CT ho _ r hr
     ·split at hr
      ·exact dO (bp λq h=>A5 (hq q h)) r hr
      ·exact dO (bp λq h=>wx (hq q h) ho _) r hr
  unfold v9;split
  ·rename_i h;have hy:y=N:=by
    rw[I8,I8] at h;simpa using h.1.1
   subst hy;unfold xq;exact dO (bp λq h p hp=>by rw[Ja.mp hp];exact oA hq q h)
  ·split
   ·exact pe
   ·split
    ·exact hq
    ·exact dO (bp λq h=>tY (hq q h) ho st)
section
variable{ps:List Nat}(hq:∀q∈ps,q∈Qs)(hs:Sg ps)
include hq hs
theorem ng(L:Ts):(∀e∈L,TV e.1)→(∀q∈aT L ps,q∈Qs)∧Sg (aT L ps)∧(∀v∈aD ps,(∀e∈L,bI e.1 e.2 (bV e.1) v=Z)→v∈aD (aT L ps))∧
  (∀q∈aT L ps,∀v∈bk q,∃p∈ps,v∈bk p∧v7 p q=Z∧∀e∈L,rJ e.1 p e.2 (bV e.1) v=Z):=by
 refine nP (P:=λL=>(∀e∈L,TV e.1)→(∀q∈aT L ps,q∈Qs)∧Sg (aT L ps)∧(∀v∈aD ps,(∀e∈L,bI e.1 e.2 (bV e.1) v=Z)→v∈aD (aT L ps))∧
  (∀q∈aT L ps,∀v∈bk q,∃p∈ps,v∈bk p∧v7 p q=Z∧∀e∈L,rJ e.1 p e.2 (bV e.1) v=Z)) ?_ ?_ L
 ·exactλ_=>⟨hq,hs,λv hv _=>hv,λq h v hv=>⟨q,h,hv,by unfold v7;simp,λ_ h=>nomatch h⟩⟩
 ·intro L a ih hTV;have hL:∀e∈L,TV e.1:=λe he=>hTV e (Ju.mpr (.inl he))
  have ha:TV a.1:=hTV a (Ju.mpr (.inr (.head _)));refine DX (ih hL) λi1 i2 i3 i4=> ?_
  refine cI (qH i1 i2 ha a.2) λs1 s2 s3=> ?_
  rw[gj];refine⟨Bp i1 ha a.2,s3,λv hv hp=> ?_,λr hr v hv=> ?_⟩
  ·exact s2 v (i3 v hv λe he=>hp e (Ju.mpr (.inl he))) (hp a (Ju.mpr (.inr (.head _))))
  ·refine cG (s1 r hr v hv) λq h1 h2 h3=> ?_
   refine pE (i4 q h1 v h2) λp g1 g2 g3 g4=> ?_
   refine aO (h3 p (hq p g1) g3) λk1 k2=> ?_
   refine⟨p,g1,g2,k2,λe he=> ?_⟩;rcases Ju.mp he with he|he
   ·exact g4 e he
   ·rw[Ja.mp he];exact k1
omit hs in
theorem fb(hk:∀q∈ps,q∈Qk)(hst:kW ps)(L:Ts):(∀e∈L,TV e.1)→aT L ps=ps.filter λq=>L.all λe=>uK e.1 e.2 q:=by
 refine nP (P:=λL=>(∀e∈L,TV e.1)→aT L ps=ps.filter λq=>L.all λe=>uK e.1 e.2 q) ?_ ?_ L
 ·exactλ_=>(KT.mpr λ_ _=>rfl).symm
 ·intro L a ih hTV;have hL:∀e∈L,TV e.1:=λe he=>hTV e (Ju.mpr (.inl he))
  have ha:TV a.1:=hTV a (Ju.mpr (.inr (.head _)));rw[gj,ih hL,jB (λq h=>hk q (Jm.mp h).1) (hst.filter _) ha a.2,K6];refine J3 λq _=> ?_
  rw[List.all_append,Py];simp
end
theorem plain{picks:List Nat}(hk:∀i∈picks,i∈em):x0 (un (picks.map gz)):=by
 have hqq:∀ps∈picks.map gz,∀p∈ps,p∈Qs:=λps hps p hp=>by
  refine ak (Jv.mp hps) λi hi oz5=> ?_
  subst oz5;exact fW (hk i hi) p hp
 have hq:=dO hqq;have hs:Sg (un (picks.map gz)):=Sg.un hqq;have hl:(un (picks.map gz)).length≤32:=dp _;have hstab:(∀q∈un (picks.map gz),eM q=N)→kW (un (picks.map gz)):=uN hqq;generalize un (picks.map gz)=ps at*;have hshut:hW ps=Z→∀q∈ps,eM q=N:=λh q hqm=>by
  unfold hW at h;rw[JZ];intro e;have h1:q∈ps.filter eM:=Jm.mpr ⟨hqm,e⟩;have h2:(ps.filter eM).length=0:=by simpa using h
  rw[Jo h2] at h1;cases h1
 refine⟨λL hL=> ?_,λL hL=>(ng hq hs L hL).2.1,λL hL hu=> ?_⟩
 ·refine DX (ng hq hs L hL) λi1 i2 i3 i4=> ?_
  have cl:hW ps=Z→(∀q∈ps,q∈Qk)∧aT L ps=ps.filter λq=>L.all λe=>uK e.1 e.2 q:=λh=>by
   have hk:=λq hqm=>BJ (hq q hqm) (hshut h q hqm)
   exact⟨hk,fb hq hk (hstab (hshut h)) L hL⟩
  refine⟨Jj _,Jj _,hl,λl hlm=> ?_,λl hlm=> ?_,λl hlm v hv=> ?_,λh i hi hi2 hne=> ?_,λh i hi hi2 he hmem=> ?_,λh t ht=> ?_,λv hv=> ?_⟩
  ·refine ak (Jv.mp hlm) λp _ oz6=> ?_
   subst oz6;exact(qf L p).1
  ·refine ak (Jv.mp hlm) λp _ oz7=> ?_
   subst oz7;exact(qf L p).2.1
  ·refine ak (Jv.mp hlm) λp hp oz8=> ?_
   subst oz8;refine aO ((pn L p v).1.mp hv) λh1 h2=> ?_
   exact i3 v (ar.mpr ⟨p,hp,h1⟩) h2
  ·refine aO (cl h) λhk e=> ?_
   rw[M3] at hne;refine aG (J4 _ hne) λv hv=> ?_
   refine aO ((pn L ps[i] v).1.mp hv) λh1 h2=> ?_
   rw[e];refine Jm.mpr ⟨Kk hi,Jb.mpr λx hx=> ?_⟩;exact(lY (hk _ (Kk hi)) (hL x hx) x.2).1 v h1 (h2 x hx)
  ·refine aO (cl h) λhk e=> ?_
   rw[M3] at he;rw[e] at hmem;refine aO (Jm.mp hmem) λh1 h2=> ?_
   refine aG (J4 _ (uC (hq _ h1))) λv hv=> ?_
   have hin:v∈(pr L ps[i]).2:=(pn L ps[i] v).2.mpr ⟨hv,λx hx=>(lY (hk _ h1) (hL x hx) x.2).2 (Jb.mp h2 x hx) v hv⟩;rw[he] at hin;cases hin
  ·rw[(cl h).2] at ht;exact(Jm.mp ht).1
  ·refine ak (ar.mp hv) λq h1 h2=> ?_
   refine pE (i4 q h1 v h2) λp g1 g2 _ g4=> ?_
   exact⟨_,Jv.mpr ⟨p,g1,rfl⟩,(pn L p v).2.mpr ⟨g2,g4⟩⟩
 ·have hunit:∀q∈ps,eM q=N:=λq hqm=>by
   have h1:dz q=Z:=by
    cases hb:dz q with
    |true=>rfl
    |false=>
     have:q∈ps.filter λq=> !dz q:=Jm.mpr ⟨hqm,by rw[hb];rfl⟩
     rw[hu] at this;cases this
   have:∀q∈Qs,dz q=Z→eM q=N:=by decide+kernel
   exact this q (hq q hqm) h1
  have hk:=λq hqm=>BJ (hq q hqm) (hunit q hqm)
  rw[fb hq hk (hstab hunit) L hL,fb hq hk (hstab hunit) L.reverse λe he=>hL e (M6.mp he)];refine J3 λq _=> ?_
  rw[List.all_reverse]
theorem wK(ns:List Int)(hn:¬63<ns.length):∃st',Fn pg ac 40 90 [.val (.lst (ns.map AV.int))] zz=O (.val (.bool Z),st'):=
 Aq (λ_ hk _=>plain hk) ns hn
end Mine
set_option tactic.hygienic true in
set_option maxHeartbeats 1000000 in
theorem PySem.Challenge.cw_xw0132_01_holds : PySem.Challenge.rw_xw0132_01.Holds := by
  w_on
  refine holds_law Mine.E4 fun said => ?_
  refine _root_.PySem.W.holds_open (q := Mine.qm) (loose := Mine.ii) (Xt := fun _ => true) (XP := fun _ _ => True) (Yf := fun s => s.heap) (Ya := fun w => Mine.H1 w.params) (YP := fun w h => ∀ b o, (Mine.H1 w.params).get? b = some o → h.get? b = some o) (N := 13320) Mine.EX (fun w s e b o h => e ▸ h) (fun w h h' Y k b o e => k b o (Y b o e)) (fun _ _ => trivial) (fun _ _ _ _ _ => trivial) (by as_aux_lemma => rfl) (by as_aux_lemma => rfl) (by as_aux_lemma => rfl) (fun s e => recFacts_nil rfl) (by as_aux_lemma => rfl) (by assumption) (by decide +kernel) ⟨rfl, rfl, rfl, rfl, rfl, by decide +kernel⟩ ?hw ?hc
  case hw => as_aux_lemma => w_witness2
  case hc =>
   as_aux_lemma =>
    intro w s₀ s₁ mg mb G Y fa o pm cd doc dV kV ho hd hcd hD hmg hg args vals as hpre hlay hrd hwl hlo
    refine Ground.open G ?_
    intro T B D TE TW
    wrow_args hpre hlay hrd hwl hlo
    all_goals (
      first | refine callC_kw (enter_call ?_) | refine enter_call ?_ | refine callC_kw (enter_callW ?_) | refine enter_callW ?_ | w_how)
    w_top on
    try refine codeAny_mono ?_ (fun _ _ g => GoodW.toG g)
    exact Mine.DA Mine.wK Y T.nolimit T.g T.b T.builtins hmg (by assumption) (by assumption) (fun h => by rename_i hcnd _; exact hcnd (Int.ofNat_lt.mpr h)) hg rfl
